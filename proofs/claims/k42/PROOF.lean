import PyProof.Rows.All
import Wide.All
import OpenK.AllK
import Wide.FinOn
import PyProof.EqAt
import PyProof.EqKinds
import PyProof.TupleCall
import KE.KStateDown
import KE.KExcSuper
import HandS.ForMost
import HandS.ForExc
import HandS.HeadWalk
import HandS.Defaults
import HandS.ExcIs
import HandS.ExcCtx
import HandS.HotCalls
import HandS.ExcInitHot
import HandS.IsInst
import KE.KExcIs
import HandS.RaiseFrom
import HandS.SuiteRaise
import HandS.EndBits
import HandS.Head0
import HandS.Head1
import HandS.Head2
import HandS.HeadEnd
import HandS.HeadHook1
import HandS.HeadHook2
import HandS.HeadHook3
import HandS.HeadNt
import HandS.Wide
import HandS.Flow
import HandS.StrMore
import HandS.Conv
import HandS.TupAny
import HandS.RaiseMore
import HandS.TupLe
import HandS.Star
import HandS.Property
import HandS.ClsMeth
import HandS.Style
import HandS.ExcOwn
import HandS.Iter
import HandS.Dict
import HandS.More
import HandS.SortInts
import PyProof.Rows.SortShellAny
import HandS.IterVal
import HandS.OwnIter
import KE.KOwnIter
import KE.KCallOwn
import HandS.Gcd
import HandS.FStr
import HandS.Head3
import KE.KOpsOwn
import KE.KDictList
import HandS.DictComp
import HandS.Zip
import HandS.List
import HandS.CallSlots
import HandS.Text
import HandS.DictEq
import HandS.SetFor
import HandS.Deep
import HandS.Rev
import PySem.Challenge.RW_renamedhorn_k42_mixtures_counted
set_option maxRecDepth 100000 in
set_option maxHeartbeats 8000000 in
theorem lawSaid (h : (PySem.W.OpenLaw.row PySem.Challenge.rw_renamedhorn_k42_mixtures_counted).wellSaid = true → (PySem.W.OpenLaw.row PySem.Challenge.rw_renamedhorn_k42_mixtures_counted).Holds) : PySem.Challenge.rw_renamedhorn_k42_mixtures_counted.Holds := by
  open PySem PySem.W PySem.Calls PyProof.Rows in
  w_on; o_law; exact h (by assumption)
set_option Elab.async false
set_option linter.all false
set_option maxRecDepth 100000
set_option maxHeartbeats 4000000
namespace PySem
namespace ErrX
open PySem.W PySem.Calls PyProof.Rows PySem.HandSPX
theorem one_size (v : Value) : [v].length ≤ sizeLine := by
  rw [sizeLine_eq]
  exact (by decide : 1 ≤ 16777216)
def supS (msg : Str) (a1 a2 a3 a4 a5 a6 : Pos) : Stmt := .Expr (.Call (.Attribute (.Call (.Name "super" a1) [] [] a2) "__init__" a3) [.Constant (.str msg) 0 a4] [] a5) a6
def fldS (f : Str) (b1 b2 b3 b4 : Pos) : Stmt := .Assign [.Attribute (.Name "self" b1) f b2] (.Name f b3) b4
structure ErrC (prog : Program) (K : Frag) (C fI : Addr) (body : List Stmt) (scope : Scope) (params : Arguments) : Prop where
  cls : ∃ nm q N bs bm sn sub ab col dd k0 k1 k2 k3 k5, K.lookup C = some (excClassObj nm q C N bs bm true sn sub ab col dd k0 k1 k2 k3 k5 "ValueError.__new__") ∧ refsVE bm = true
  sa : findIn K (.ref C) "__setattr__" = some (some (.builtin "object.__setattr__"))
  ga : findIn K (.ref C) "__getattribute__" = some (some (.builtin "BaseException.__getattribute__"))
  gg : findIn K (.ref C) "__getattr__" = some none
  iC : findIn K (.ref C) "__init__" = some (some (.ref fI))
  tC : typeIn K (.ref fI) = some (.type "function")
  kC : keepIn K (.ref C) = true
  exC : subIn K (.ref C) (.type "BaseException") = some true
  veC : subIn K (.ref C) (.type "ValueError") = some true
  tyC : typeIn K (.ref C) = some (.type "type")
  hdC : hasDictIn K C = true
  mroC : mroIn K C (.ref C) = some true
  supC : ks_superIn K C C "__init__" = some (some (.builtin "ValueError.__init__"))
  opq : nsIn K cStatics "thirdparty.any" = some none
  supG : nsIn K mainGlobals "super" = some none
  fn : ∃ (oc : Value) (od : Option Addr) (nm qual : Str) (kV doc pm : Value) (an : Option Addr) (cda cc : Addr) (ct : Value) (osl : Array (Option Value)) (ccl : Value) (cdd : Option Addr) (vs : Array Value) (ccs : Array (Option Value)) (file : Str) (tf : Tok) (cl : Value) (cld : Option Addr) (csl : Array (Option Value)),
    K.lookup fI = some ⟨oc, od, .func (ksFn nm qual params body scope .none kV doc pm an (.ref cda) ct cc), osl⟩ ∧ codeIn K (.ref cda) qual = true ∧
    K.lookup cda = some ⟨ccl, cdd, .fields vs, ccs⟩ ∧ vs[2]? = some (.str file tf) ∧ ((prog.main.file : Str) == file) = true ∧ K.lookup cc = some ⟨cl, cld, .cell (some (.ref C)), csl⟩
  ar : ∃ pp, (params.posonlyargs ++ params.args).head? = some ⟨"self", none, pp⟩
  hks : scope.names.lookup ("super" : Str) = some .globalImplicit
  hkc : scope.names.lookup ("__class__" : Str) = some .free
  hka : scope.names.lookup ("self" : Str) = some .local
  hk : scope.kind = .function
  hco : scope.isCoroutine = false
  hgen : scope.isGenerator = false
  hcell : ∀ x ∈ scope.names, x.2 ≠ .cell
  htop : (prog.main.scope.names.lookup ("super" : Str)).isSome = false
section
variable {prog : Program} {w : World} {M : Model} {A : Around} {E : Value → Shared → Prop} {h : Heap} {g : Array GenState} {d : Drawn} {t : Nat} {os : OsState}
variable {nm q : Str} {C N : Addr} {bs bm : List Value} {hdct : Bool} {sn : List Str} {sub : List Value} {ab : Bool} {col : Option Bool} {dd : Option Addr} {k0 k1 k2 k3 k5 : Option Value}
theorem call_vw {u e t0 : Addr} {rest : List Value} {Q : Value → Shared → Prop}
    (hC : h.get? C = some (excClassObj nm q C N bs bm hdct sn sub ab col dd k0 k1 k2 k3 k5 "ValueError.__new__")) (he : h.get? e = some (excO C t0)) (hu : h.get? u = some (kxs_mw "ValueError.__init__" e)) (hrest : rest.length ≤ sizeLine)
    (hq : ∀ h' t1, (∀ b o, b ≠ e → h.get? b = some o → h'.get? b = some o) → h'.get? e = some (excO C t1) → Q .none ⟨h', g, d, t, os⟩) :
    wpAny (model prog w) A (call (.ref u) rest) Q E ⟨h, g, d, t, os⟩ := by
  refine wpAny_call (codeAny_of_tree ?_)
  show wpAny _ A.in1 (callAny (.ref u) ⟨rest, []⟩) _ _ _
  simp only [callAny]
  refine wpAny_bind (wpAny_load hu ?_)
  simp only [kxs_mw, show (Value.type "method-wrapper" == Value.type "method" || Value.type "method-wrapper" == Value.type "builtin_function_or_method" || Value.type "method-wrapper" == Value.type "method-wrapper") = true by decide, if_true]
  refine W.KFB.if_so (by decide) ?_
  refine wpAny_bind (check_bound_init F.excBase_ValueError.toExcCallFacts hC he rfl ?_)
  refine wpAny_bind (wpAny_pure (wpAny_pure ?_))
  refine ⟨plainId_quiet F.excBase_ValueError.init.plain _, codeAny_builtin F.excBase_ValueError.initEntry ?_⟩
  rw [Around.under_plainId F.excBase_ValueError.init.plain _]
  wp_walk
  refine hq _ h.objs.size (fun b o hb ho => ?_) ?_
  · rw [Heap.get?_update_other _ _ (Ne.symm hb)]
    exact Heap.get?_push_of_some _ ho
  · rw [Heap.get?_update_self _ (Heap.get?_push_of_some _ he) rfl]
    rfl
end
section
variable {prog : Program} {w : World} {A : Around} {E : Value → Shared → Prop} {s : Shared} {K : Frag} {mg : Str → Option Value} {C fI : Addr} {body : List Stmt} {scope : Scope} {params : Arguments}
theorem sup_stmt (T : ErrC prog K C fI body scope params) {L x t0 : Addr} {m : Str → Option Value} {msg : Str} {a1 a2 a3 a4 a5 a6 : Pos} {Q : Flow → Shared → Prop}
    {oc : Value} {od : Option Addr} {nm qual : Str} {kV doc pm : Value} {an : Option Addr} {cda cc : Addr} {ct : Value} {osl : Array (Option Value)} {ccl : Value} {cdd : Option Addr} {vs : Array Value} {ccs : Array (Option Value)} {file : Str} {tf : Tok} {cl : Value} {cld : Option Addr} {csl : Array (Option Value)}
    (hf : K.lookup fI = some ⟨oc, od, .func (ksFn nm qual params body scope .none kV doc pm an (.ref cda) ct cc), osl⟩)
    (hcode : K.lookup cda = some ⟨ccl, cdd, .fields vs, ccs⟩) (hvs : vs[2]? = some (.str file tf)) (hfile : ((prog.main.file : Str) == file) = true) (hcell : K.lookup cc = some ⟨cl, cld, .cell (some (.ref C)), csl⟩)
    (X : K.In s.heap) (hG : s.heap.Ns mainGlobals mg) (hB : ∃ mb, s.heap.Ns builtinsNs mb ∧ ∀ x : Str, x ≠ "__name__" → mb x = bootBuiltins x)
    (hline : (a3.endLine == a5.line) = true) (hn : s.heap.Ns L m) (hv : m "self" = some (.ref x)) (hx : s.heap.get? x = some (excO C t0)) (hnx : K.lookup x = none)
    (hq : ∀ h' tk t1, (∀ b o, b ≠ x → s.heap.get? b = some o → h'.get? b = some o) → h'.get? x = some (excO C t1) → Q .next { s with heap := h', toks := tk }) :
    _root_.PySem.wpAt (model prog w) A (.func body (ksEnv qual scope L fI (.ref cda) cc)) (exec (supS msg a1 a2 a3 a4 a5 a6) (ksEnv qual scope L fI (.ref cda) cc)) Q E s := by
  obtain ⟨cnm, cq, N, bs, bm, sn, sub, ab, col, dd, k0, k1, k2, k3, k5, hC, hbm⟩ := T.cls
  obtain ⟨pp, har⟩ := T.ar
  obtain ⟨mb, hb1, hb2⟩ := hB
  have hD : clsIn K C = some { name := cnm, bases := bs, mro := .ref C :: bm, ns := N, qualname := cq, hasDict := true, slotNames := sn, subclasses := sub, abstract := ab, collection := col, hasDel := false } := by unfold clsIn; rw [hC] <;> rfl
  have hxC : x ≠ C := fun z => by rw [z, hC] at hnx; cases hnx
  obtain ⟨hh, g, d, t, os⟩ := s
  refine ks_wpAt_Expr_any (ks_wpAt_MethodCall (pl := L2.plainOf (.Call (.Name "super" a1) [] [] a2) (ksEnv qual scope L fI (.ref cda) cc)) ?_ (by
      show (do
        let ov ← attributeBase (.Call (.Name "super" a1) [] [] a2) "__init__" (ksEnv qual scope L fI (.ref cda) cc) (eval (.Call (.Name "super" a1) [] [] a2) (ksEnv qual scope L fI (.ref cda) cc))
        standAt a3.atName
        methodCall (.Call (.Name "super" a1) [] [] a2) "__init__" a3 a5 (ksEnv qual scope L fI (.ref cda) cc) ov 1 (backTo a5 (starEach [.Constant (.str msg) 0 a4] (ksEnv qual scope L fI (.ref cda) cc))) []) = _
      simp only [L2.mcall_line (n := 1) (args := backTo a5 (starEach [.Constant (.str msg) 0 a4] (ksEnv qual scope L fI (.ref cda) cc))) (kws := []) rfl hline])) (by simp [interactive, T.hk])
  refine ks_wpAt_super_base (env := ksEnv qual scope L fI (.ref cda) cc) T.hks T.hkc (by decide) rfl (X _ _ hf) rfl har rfl (X _ _ hcode) rfl hvs hfile T.htop ?_
  refine ks_loadName_global T.hk T.hks (loadGlobal_builtin (env := ksEnv qual scope L fI (.ref cda) cc) hG (mg_none_of X hG T.supG) hb1 ((hb2 _ (by decide +kernel)).trans PyProof.Rows.Boot.«super») ⟨rfl, ?_⟩)
  refine wpAny_loadName_free T.hk T.hkc rfl ⟨_, X _ _ hcell, rfl⟩ ?_
  refine wpAny_loadName_local T.hk T.hka hn hv ?_
  refine ks_wpAny_isType_cls (X _ _ hC) rfl ⟨rfl, ?_⟩
  refine ks_wpAny_call_super (X _ _ hC) rfl hx rfl (fun c e => by cases e) (looks_mroIn X T.mroC) (fun h1 e1 up1 => ?_)
  have hx1 := up1 _ _ hx
  have X1 : K.In h1 := X.keeps up1
  have I1 : InstAt h1 x (excO C t0) C none := ⟨hx1, rfl, rfl, trivial⟩
  have hI : Looks (model prog w) h1 (isInstance (.ref x) (.type "ValueError")) true := I1.type.andThen (looks_subIn X1 T.veC)
  have hsup := T.supC
  unfold ks_superIn at hsup
  rw [hD] at hsup
  refine kxs_getMethod kxs_ValueError e1 (looks_opaque X1 T.opq) (l₀ := .ref C :: bm) (fun A Q E s k q => wpAny_bind ((looks_clsIn X1 hD) A _ E s k (wpAny_pure q))) rfl X1 hsup hI hxC (by decide) ?_
  have up2 : ∀ b o, h1.get? b = some o → (h1.push (kxs_mw "ValueError.__init__" x)).get? b = some o := fun b o e => Heap.get?_push_of_some _ e
  have hu2 : (h1.push (kxs_mw "ValueError.__init__" x)).get? h1.objs.size = some (kxs_mw "ValueError.__init__" x) := Heap.get?_push_at rfl rfl
  refine kxs_callWith (u := h1.objs.size) (i := "ValueError.__init__") (x := x) rfl (evalArgs_plain ?_)
  refine Calls.spliced_cons (x := eval (.Constant (.str msg) 0 a4) (ksEnv qual scope L fI (.ref cda) cc)) (Calls.Constant_str (k := 0) (pos := a4) (Calls.spliced_nil ?_))
  refine ⟨hu2, ?_⟩
  refine call_vw ((X1.keeps up2) _ _ hC) (up2 _ _ hx1) hu2 (one_size _) (fun h3 t1 k3 hx3 => ?_)
  exact hq h3 _ t1 (fun b o hb e => k3 b o hb (up2 _ _ (up1 _ _ e))) hx3
end
section
variable {prog : Program} {w : World} {A : Around} {E : Value → Shared → Prop} {R : Result → Shared → Prop} {s : Shared} {K : Frag} {mg : Str → Option Value} {C fI : Addr} {body : List Stmt} {scope : Scope} {params : Arguments}
structure InitEnd (h h' : Heap) (x C dx : Addr) (f : Str) (v : Value) : Prop where
  keep : ∀ b o, b ≠ x → h.get? b = some o → h'.get? b = some o
  obj : ∃ t1 : Addr, h'.get? x = some { cls := .ref C, dict := some dx, data := .fields #[.ref t1, .none, .none, .none, .bool false, .none] }
  dbig : h.objs.size ≤ dx
  dne : dx ≠ x
  ns : h'.Ns1 dx (fun y => if y = f then some v else none)
structure InitEnd0 (h h' : Heap) (x C : Addr) : Prop where
  keep : ∀ b o, b ≠ x → h.get? b = some o → h'.get? b = some o
  obj : ∃ t1 : Addr, h'.get? x = some (excO C t1)
theorem init1 {f msg : Str} {a1 a2 a3 a4 a5 a6 b1 b2 b3 b4 : Pos} (T : ErrC prog K C fI [supS msg a1 a2 a3 a4 a5 a6, fldS f b1 b2 b3 b4] scope params) (hline : (a3.endLine == a5.line) = true)
    (hbind : ∀ (nm qual : Str) (kV doc pm : Value) (an : Option Addr) (cdv ct : Value) (cc : Addr) (x y : Value), bindArgs (ksFn nm qual params [supS msg a1 a2 a3 a4 a5 a6, fldS f b1 b2 b3 b4] scope .none kV doc pm an cdv ct cc) ⟨[x, y], []⟩ = pure [((("self" : Str)), x), (f, y)])
    (hkf : scope.names.lookup f = some .local) (hne : (("self" : Str) == f) = false) (hdf : (f == ("__debug__" : Str)) = false) (noN : findIn K (.ref C) f = some none)
    {x t0 : Addr} {v : Value} (X : K.In s.heap) (hlim : s.heap.NoLimit) (hG : s.heap.Ns mainGlobals mg) (hB : ∃ mb, s.heap.Ns builtinsNs mb ∧ ∀ x : Str, x ≠ "__name__" → mb x = bootBuiltins x)
    (hx : s.heap.get? x = some (excO C t0)) (hnx : K.lookup x = none) (hroom : A.depth < recursionLimit)
    (hq : ∀ h' tk dx, InitEnd s.heap h' x C dx f v → R (.ok (.ret .none)) { s with heap := h', toks := tk }) :
    codeAny (model prog w) A (.call (.ref fI) ⟨[.ref x, v], []⟩) R s := by
  obtain ⟨oc, od, nm, qual, kV, doc, pm, an, cda, cc, ct, osl, ccl, cdd, vs, ccs, file, tf, cl, cld, csl, hf, hcd, hcode, hvs, hfile, hcell⟩ := T.fn
  obtain ⟨cnm, cq, N, bs, bm, sn, sub, ab, col, dd, k0, k1, k2, k3, k5, hC, hbm⟩ := T.cls
  have hcl : clsIn K C = some { name := cnm, bases := bs, mro := .ref C :: bm, ns := N, qualname := cq, hasDict := true, slotNames := sn, subclasses := sub, abstract := ab, collection := col, hasDel := false } := by unfold clsIn; rw [hC] <;> rfl
  refine ks_codeAny_call_defAt (fd := ksFn nm qual params [supS msg a1 a2 a3 a4 a5 a6, fldS f b1 b2 b3 b4] scope .none kV doc pm an (.ref cda) ct cc) (body := [supS msg a1 a2 a3 a4 a5 a6, fldS f b1 b2 b3 b4]) (binds := [("self", .ref x), (f, v)]) hroom (X _ _ hf) rfl hlim (codeRec_of X hcd) rfl (BindsTo.of_eq (hbind _ _ _ _ _ _ _ _ _ _ _)) T.hcell ?_ (fun h1 hns hk1 => ?_) T.hco T.hgen T.hk
  · intro y hy
    rcases List.mem_cons.mp hy with rfl | hy
    · exact T.hka
    rcases List.mem_cons.mp hy with rfl | hy
    · exact hkf
    · cases hy
  · have hx1 := hk1 _ _ hx
    have X1 : K.In h1 := X.keeps hk1
    obtain ⟨mb, hb1, hb2⟩ := hB
    have lkf : ([(("self" : Str), Value.ref x), (f, v)] : List (Str × Value)).reverse.lookup f = some v := by simp [List.lookup]
    have lks : ([(("self" : Str), Value.ref x), (f, v)] : List (Str × Value)).reverse.lookup ("self" : Str) = some (.ref x) := by
      show (match (("self" : Str) == f) with | true => some v | false => List.lookup ("self" : Str) [(("self" : Str), Value.ref x)]) = _
      rw [hne]
      simp [List.lookup]
    refine ks_wpAt_execs_cons (sup_stmt (s := { s with heap := h1, toks := s.toks + 2 }) T hf hcode hvs hfile hcell X1 (hG.keeps hk1) ⟨mb, hb1.keeps hk1, hb2⟩ hline hns lks hx1 hnx (fun h2 tk2 t1 k2 hx2 => ?_))
    have X2 : K.In h2 := fun a o e => k2 a o (fun z => by rw [z, hnx] at e; cases e) (X1 a o e)
    have hxL : s.heap.objs.size ≠ x := Nat.ne_of_gt (Heap.lt_size hx)
    obtain ⟨oL, esL, epL, hoL, rL⟩ := id hns
    have hns2 : h2.Ns s.heap.objs.size (fun y => ([(("self" : Str), Value.ref x), (f, v)] : List (Str × Value)).reverse.lookup y) := ⟨oL, esL, epL, k2 _ _ hxL hoL, rL⟩
    refine wpAt_of_wpAny ?_
    refine wpAny_execs_cons (plainObj_wpAny_Assign_Attribute ?_)
    refine wpAny_Name (wpAny_loadName_local T.hk hkf hns2 lkf ?_) hdf
    refine wpAny_Name (wpAny_loadName_local T.hk T.hka hns2 lks ?_) (by decide)
    refine set_plain X2 (ox := excO C t1) (od := none) ⟨hx2, rfl, rfl, trivial⟩ T.sa ?_
    refine exc_osa X2 hx2 hcl (show refsVE (.ref C :: bm) = true from hbm) rfl noN (fun h3 tk3 dx k3 dn dne hx3 hn3 => ?_)
    have z : s.heap.objs.size < h2.objs.size := hns2.lt
    exact wpAny_execs_nil (hq h3 tk3 dx ⟨fun b o hb e => k3 b o hb (k2 b o hb (hk1 b o e)), ⟨t1, hx3⟩, Nat.le_of_lt (Nat.lt_of_lt_of_le z dn), dne, hn3⟩)
structure OwnMade (h h' : Heap) (e C d : Addr) (f : Str) (v : Value) : Prop where
  keep : ∀ b o, h.get? b = some o → h'.get? b = some o
  new : h.objs.size ≤ e
  obj : ∃ oe vs, h'.get? e = some oe ∧ oe.cls = .ref C ∧ oe.dict = some d ∧ oe.data = .fields vs ∧ vs[1]? = some .none ∧ vs[2]? = some .none ∧ 4 < vs.size
  dbig : h.objs.size ≤ d
  dne : d ≠ e
  ns : h'.Ns1 d (fun y => if y = f then some v else none)
structure OwnMade0 (h h' : Heap) (e C : Addr) : Prop where
  keep : ∀ b o, h.get? b = some o → h'.get? b = some o
  new : h.objs.size ≤ e
  obj : ∃ oe vs, h'.get? e = some oe ∧ oe.cls = .ref C ∧ oe.dict = none ∧ oe.data = .fields vs ∧ vs[1]? = some .none ∧ vs[2]? = some .none
theorem made1 {f msg : Str} {a1 a2 a3 a4 a5 a6 b1 b2 b3 b4 : Pos} (T : ErrC prog K C fI [supS msg a1 a2 a3 a4 a5 a6, fldS f b1 b2 b3 b4] scope params) (hline : (a3.endLine == a5.line) = true)
    (hbind : ∀ (nm qual : Str) (kV doc pm : Value) (an : Option Addr) (cdv ct : Value) (cc : Addr) (x y : Value), bindArgs (ksFn nm qual params [supS msg a1 a2 a3 a4 a5 a6, fldS f b1 b2 b3 b4] scope .none kV doc pm an cdv ct cc) ⟨[x, y], []⟩ = pure [((("self" : Str)), x), (f, y)])
    (hkf : scope.names.lookup f = some .local) (hne : (("self" : Str) == f) = false) (hdf : (f == ("__debug__" : Str)) = false) (noN : findIn K (.ref C) f = some none)
    {v : Value} (X : K.In s.heap) (hlim : s.heap.NoLimit) (hG : s.heap.Ns mainGlobals mg) (hB : ∃ mb, s.heap.Ns builtinsNs mb ∧ ∀ x : Str, x ≠ "__name__" → mb x = bootBuiltins x) (hroom : A.depth + 1 < recursionLimit)
    (hq : ∀ h' tk e d, OwnMade s.heap h' e C d f v → R (.ok (.ret (.ref e))) { s with heap := h', toks := tk }) :
    codeAny (model prog w) A (.call (.ref C) ⟨[v], []⟩) R s := by
  obtain ⟨nm, q, N, bs, bm, sn, sub, ab, col, dd, k0, k1, k2, k3, k5, hC, hbm⟩ := T.cls
  obtain ⟨mb, hb1, hb2⟩ := hB
  obtain ⟨hp, g, dr, tk, os⟩ := s
  have k : ∀ b o, hp.get? b = some o → ((hp.push (kdv_tup [v])).push (excO C hp.objs.size)).get? b = some o := fun b o e => Heap.get?_push_of_some _ (Heap.get?_push_of_some _ e)
  have hget : ((hp.push (kdv_tup [v])).push (excO C hp.objs.size)).get? (hp.objs.size + 1) = some (excO C hp.objs.size) := by heap_get
  have hnx : K.lookup (hp.objs.size + 1) = none := by
    cases e : K.lookup (hp.objs.size + 1) with
    | none => rfl
    | some o =>
      have z : hp.get? (hp.objs.size + 1) = some o := X _ _ e
      exact absurd (Nat.lt_of_succ_lt (Heap.lt_size z)) (Nat.lt_irrefl _)
  refine call_own F.excBase_ValueError (fun X => refsVE_contains X bm hbm) (X _ _ hC) (looks_findIn X T.iC) (fun self => bind_fn X self T.tC) (one_size v) ?_
  refine init1 (s := ⟨(hp.push (kdv_tup [v])).push (excO C hp.objs.size), g, dr, tk, os⟩) T hline hbind hkf hne hdf noN (X.keeps k) (hlim.keeps k) (hG.keeps k) ⟨mb, hb1.keeps k, hb2⟩ hget hnx ?_ fun h' tk' dx ⟨k', ⟨t1, hx⟩, dn, dne, hns⟩ => ?_
  · show A.depth + 1 < recursionLimit
    exact hroom
  · have old : ∀ b o, hp.get? b = some o → h'.get? b = some o := fun b o e => k' b o (Nat.ne_of_lt (Nat.lt_succ_of_lt (Heap.lt_size e))) (k b o e)
    have z : hp.objs.size + 1 + 1 ≤ dx := by
      first
        | (simpa only [Heap.size_push] using dn)
        | exact dn
        | (have q := dn; rw [Heap.size_push, Heap.size_push] at q; exact q)
    exact ⟨rfl, hq h' tk' (hp.objs.size + 1) dx ⟨old, Nat.le_succ _, ⟨_, _, hx, rfl, rfl, rfl, rfl, rfl, by show (4 : Nat) < 6; decide⟩, Nat.le_trans (Nat.le_trans (Nat.le_succ _) (Nat.le_succ _)) z, dne, hns⟩⟩
end
end ErrX
end PySem
namespace L2
open PySem PySem.Spec PyProof.Rows PySem.W
structure Err1 (prog : Program) (w : World) (K : Frag) (mg : Str → Option Value) (nm f : Str) (C : Addr) : Prop where
  gC : mg nm = some (.ref C)
  kC : keepIn K (.ref C) = true
  exC : subIn K (.ref C) (.type "BaseException") = some true
  tyC : typeIn K (.ref C) = some (.type "type")
  hdC : hasDictIn K C = true
  ga : findIn K (.ref C) "__getattribute__" = some (some (.builtin "BaseException.__getattribute__"))
  gg : findIn K (.ref C) "__getattr__" = some none
  noN : findIn K (.ref C) f = some none
  made : ∀ {A : Around} {R : Result → Shared → Prop} {s : Shared} {v : Value}, K.In s.heap → s.heap.NoLimit → s.heap.Ns mainGlobals mg → (∃ mb, s.heap.Ns builtinsNs mb ∧ ∀ x : Str, x ≠ "__name__" → mb x = bootBuiltins x) → A.depth + 1 < recursionLimit →
    (∀ h' tk e d, PySem.ErrX.OwnMade s.heap h' e C d f v → R (.ok (.ret (.ref e))) { s with heap := h', toks := tk }) → codeAny (model prog w) A (.call (.ref C) ⟨[v], []⟩) R s
structure Err0 (prog : Program) (w : World) (K : Frag) (mg : Str → Option Value) (nm : Str) (C : Addr) : Prop where
  gC : mg nm = some (.ref C)
  kC : keepIn K (.ref C) = true
  exC : subIn K (.ref C) (.type "BaseException") = some true
  tyC : typeIn K (.ref C) = some (.type "type")
  made : ∀ {A : Around} {R : Result → Shared → Prop} {s : Shared}, K.In s.heap → s.heap.NoLimit → s.heap.Ns mainGlobals mg → (∃ mb, s.heap.Ns builtinsNs mb ∧ ∀ x : Str, x ≠ "__name__" → mb x = bootBuiltins x) → A.depth + 1 < recursionLimit →
    (∀ h' tk e, PySem.ErrX.OwnMade0 s.heap h' e C → R (.ok (.ret (.ref e))) { s with heap := h', toks := tk }) → codeAny (model prog w) A (.call (.ref C) ⟨[], []⟩) R s
theorem relO_one {v : V} {v' : Value} {n : Str} (r : RelV v v') (f : Str) : RelO (List.lookup f [(n, v)]) (if f = n then some v' else none) := by
  by_cases hw : f = n
  · subst hw
    rw [if_pos rfl]
    have q : List.lookup f [(f, v)] = some v := by simp [List.lookup]
    rw [q]
    exact r
  · rw [if_neg hw]
    have qw : (f == n) = false := by simpa using hw
    have q2 : List.lookup f [(n, v)] = none := by simp [List.lookup, qw]
    rw [q2]
    trivial
section
variable {X : Cx} {C : Addr} {nm f : Str}
theorem Inv.blt {pins : List (Addr × Obj)} {σ : St} {H : Hp} {s : Shared} (I : Inv X pins σ H s) : ∃ mb, s.heap.Ns builtinsNs mb ∧ ∀ x : Str, x ≠ "__name__" → mb x = bootBuiltins x := by
  obtain ⟨mb, h1, h2⟩ := I.mod.blt
  exact ⟨mb, h1.keeps I.bk, h2⟩
def tMkE (C : Addr) (f : Str) (ta : TA) : St → Hp → XK → Prop := fun σ H Q => ta σ H fun vs H1 => ∃ v, vs = [v] ∧ ∀ d, H1 d = none → Q (.ref C) (some d) (upd H1 d (.xd [(f, v)]))
theorem pmk_err5 {a : Expr} {ta : TA} {p pos : Pos} (T : Err1 X.prog X.w X.K X.mg nm f C) (hdp : X.A.depth + 1 < recursionLimit) (ha : PA X [a] ta) (hg : Gl X nm := by rfl) (hdb : (nm == ("__debug__" : Str)) = false := by decide)
    (he : starEach (a :: []) X.env = (false, eval a X.env) :: starEach [] X.env := by rfl) (hpl : (backTo pos (starEach [] X.env)).any (·.1) = false := by rfl) :
    L2H.PMk5 X (.Call (.Name nm p) [a] [] pos) (tMkE C f ta) := by
  intro pins s σ H Q I h
  refine wpAny_Call_Name_kw (ld_glob I hg T.gC ?_ hdb)
  refine PySem.W.callWith_K (h₀ := X.base) I.ok.mod.kin T.kC (thn (ha.run pos pins s σ H _ I h) fun us s1 hh => ?_) he hpl
  obtain ⟨vs, H1, I1, r1, v, ev, q1⟩ := hh
  subst ev
  refine ⟨I1.kIn, ?_⟩
  cases r1 with
  | cons rv rn =>
    rename_i v' us'
    cases rn
    show wpAny _ _ (call (.ref C) [v']) _ _ _
    have hlim := I1.nolimit
    have hG := I1.mod.glob.keeps I1.bk
    have hB := I1.blt
    obtain ⟨hp, g, dr, tk, os⟩ := s1
    refine wpAny_call (T.made I1.kIn hlim hG hB hdp fun h' tk' e d M => ?_)
    obtain ⟨oe, fv, hoe, hc, hd, hdat, h1, h2, h4⟩ := M.obj
    refine And.intro ?_ (fun a0 o0 vs0 ea hg hdd => by
      cases ea
      have hg : h'.get? e = some o0 := hg
      rw [hoe] at hg
      cases hg
      rw [hdat] at hdd
      cases hdd
      exact h4)
    show L2N.MkP X pins σ Q (.ref e) ⟨h', g, dr, tk', os⟩
    have hns := M.ns
    obtain ⟨G', g1, g2⟩ := restrict h' fun b => decide (b ≠ e)
    have gk : ∀ b, b ≠ e → G'.get? b = h'.get? b := fun b hb => g1 b (decide_eq_true hb)
    have ge : G'.get? e = none := g2 e (by simp)
    have old : ∀ b o, hp.get? b = some o → G'.get? b = some o := fun b o q => (gk b (Nat.ne_of_lt (Nat.lt_of_lt_of_le (Heap.lt_size q) M.new))).trans (M.keep b o q)
    have ob : ObjOk X.prog X.w (upd H1 d (.xd [(f, v)])) G' d (.xd [(f, v)]) :=
      ⟨_, hns.at (fun o q => (gk d M.dne).trans q), fun g => relO_one rv g⟩
    have J : Inv X pins σ (upd H1 d (.xd [(f, v)])) ⟨G', g, dr, tk', os⟩ := I1.laid (t' := tk') old M.dbig ob
    refine ⟨e, oe, fv, ⟨G', g, dr, tk', os⟩, _, .ref C, some d, rfl, J, fun b o q => ?_, ge, hoe, ⟨hc, hd, fun vs e => by rw [hdat] at e; cases e; exact h2⟩, hdat, h1, ?_, rfl, I1.bare, raises_own T.exC T.tyC, q1 d (I1.hok.fresh M.dbig)⟩
    · by_cases hb : b = e
      · have q' : G'.get? b = some o := q
        rw [hb, ge] at q'; cases q'
      · exact (gk b hb).symm.trans q
    · rw [upd_ne (Ne.symm M.dne)]
      exact I1.hok.fresh M.new
theorem pmk_err {a : Expr} {ta : TA} {p pos : Pos} {k : Nat} (T : Err1 X.prog X.w X.K X.mg nm f C) (hr : Room k X.A) (ha : PA X [a] ta) (hg : Gl X nm := by rfl) (hdb : (nm == ("__debug__" : Str)) = false := by decide)
    (he : starEach (a :: []) X.env = (false, eval a X.env) :: starEach [] X.env := by rfl) (hpl : (backTo pos (starEach [] X.env)).any (·.1) = false := by rfl) :
    L2N.PMk X (.Call (.Name nm p) [a] [] pos) (tMkE C f ta) := L2H.PMk5.pmk (pmk_err5 T (by have := hr.dp; omega) ha hg hdb he hpl)
def tErrF (C : Addr) (f : Str) (a : Addr) (cls : Value) (d : Option Addr) (te : TE) : TE := fun σ H Q => te σ H fun x H1 => x = .ref a ∧ cls = .ref C ∧ ∃ (dd : Addr) (v : V), d = some dd ∧ H1 dd = some (.xd [(f, v)]) ∧ Q v H1
theorem pe_errF {a : Addr} {oe : Obj} {cls : Value} {d : Option Addr} {pn : List (Addr × Obj)} {e : Expr} {te : TE} {pos : Pos} (T : Err1 X.prog X.w X.K X.mg nm f C) (hz : Zc cls d oe) (hf : ∃ vs, oe.data = .fields vs) (he : PE (X.suite a ((a, oe) :: pn)) e te)
    (hb : attributeBase e f X.env (eval e X.env) = eval e X.env := by rfl) :
    PE (X.suite a ((a, oe) :: pn)) (.Attribute e f pos) (tErrF C f a cls d te) := by
  refine ⟨fun pins s σ H Q I h => ?_⟩
  refine attr_of hb (thn (he.run pins s σ H _ I h) fun u s1 hh => ?_)
  obtain ⟨x, H1, I1, rx, ex, ec, dd, v, ed, ea, q⟩ := hh
  subst ex
  obtain rfl : u = Value.ref a := rx
  subst ec
  subst ed
  obtain ⟨ha, _⟩ := I1.pin (a, oe) (List.mem_append_left _ List.mem_cons_self)
  obtain ⟨vs, hd⟩ := hf
  have hx : ObjOk X.prog X.w H1 s1.heap dd (.xd [(f, v)]) := I1.hok dd _ ea
  obtain ⟨mA, hns, hr⟩ := hx
  obtain ⟨od, ho, hl⟩ := lookIn_ns hns
  have l : List.lookup f [(f, v)] = some v := by simp [List.lookup]
  obtain ⟨u, hu, ru⟩ := RelO.some_of (v := v) (o := mA f) (by rw [← l]; exact hr f)
  have J : PySem.W.InstAt s1.heap a oe C (some od) := ⟨ha, hz.1, by unfold PySem.W.notCls; rw [hd] <;> rfl, by rw [hz.2]; exact ho⟩
  exact HandSPX.exc_get I1.kIn J T.ga T.gg T.exC (PySem.W.findObj_own T.hdC T.noN rfl (by rw [hl, hu])) (handed_of ru) ⟨v, H1, I1.tok _, ru, q⟩
end
end L2
namespace L2
open PySem PySem.Spec PyProof.Rows
def rIsEE (K : PySem.W.Frag) (a : Addr) (cls : Value) (d : Option Addr) : List V → Hp → VK → Prop := fun xs H Q => ∃ (D : Addr) (c : V) (cv : Value) (b : Bool), cls = .ref D ∧ ExcC K D ∧ (d = none ∨ ∃ dd fs, d = some dd ∧ H dd = some (.xd fs)) ∧ xs = [.ref a, c] ∧ (∀ u, RelV c u → u = cv) ∧ PySem.W.kitOne K (.ref D) cv = some b ∧ Q (.bl b) H
theorem call_isEE {X : Cx} {a : Addr} {cls : Value} {d : Option Addr} {oe : Obj} {pn : List (Addr × Obj)} (hz : Zc cls d oe) (hf : ∃ vs, oe.data = .fields vs) : CallR (X.suite a ((a, oe) :: pn)) (.builtin "isinstance") (rIsEE X.K a cls d) := by
  intro pins s σ H xs us Q I r h
  obtain ⟨D, c, cv, b, rfl, C, hd, rfl, hcv, e, q⟩ := h
  cases r with
  | cons rx rr =>
    cases rr with
    | cons rt rr =>
      cases rr
      cases rx
      have ec := hcv _ rt
      subst ec
      obtain ⟨hget, _⟩ := I.pin (a, oe) (List.mem_append.mpr (.inl List.mem_cons_self))
      obtain ⟨vs, hv⟩ := hf
      have hcl : (PySem.W.clsIn X.K D).isSome = true := by
        obtain ⟨cd, hc, _⟩ := PySem.W.any_some C.hd
        rw [hc]; rfl
      have J : ∃ od, PySem.W.InstAt s.heap a oe D od := by
        obtain ⟨oc, od, oda, osl⟩ := oe
        obtain ⟨h1, h2⟩ := hz
        dsimp only at h1 h2 hv
        subst h1 h2 hv
        rcases hd with rfl | ⟨dd, fs, rfl, hx⟩
        · exact ⟨none, hget, rfl, rfl, trivial⟩
        · have hx2 : ObjOk X.prog X.w H s.heap dd (.xd fs) := I.hok dd _ hx
          obtain ⟨mA, hns, hr⟩ := hx2
          obtain ⟨od, ho, hl⟩ := lookIn_ns hns
          exact ⟨some od, hget, rfl, rfl, ho⟩
      obtain ⟨od, J⟩ := J
      exact PySem.W.kia_one (PySem.W.kitx_exc hcl C.hg C.hk C.hs C.ha C.hn C.ht C.hm) I.kIn J e (fun z => nomatch z) fun tk => ⟨.bl b, H, I.kept (t' := tk) fun _ _ z => z, rfl, q⟩
def tRaiseE (C : Addr) (f : Str) (W : WX) (ta : TA) : TS := fun _ σ H => tMkE C f ta σ H fun cls d H' => W cls d σ H'
section
variable {X : Cx} {C : Addr} {nm f : Str}
theorem ps_raiseE {a : Expr} {ta : TA} {W : WX} {p pos pos2 : Pos} {k : Nat} (hc : X.calm = true) (T : Err1 X.prog X.w X.K X.mg nm f C) (hr : Room k X.A) (tk : L2N.Takes X W) (ha : PA X [a] ta) (hg : Gl X nm := by rfl) (hdb : (nm == ("__debug__" : Str)) = false := by decide)
    (he : starEach (a :: []) X.env = (false, eval a X.env) :: starEach [] X.env := by rfl) (hpl : (backTo pos (starEach [] X.env)).any (·.1) = false := by rfl) :
    PS X (.Raise (some (.Call (.Name nm p) [a] [] pos)) none pos2) (tRaiseE C f W ta) := L2N.ps_raise hc tk (pmk_err T hr ha hg hdb he hpl)
theorem passN {X : Cx} : Passes (L2N.CX X.prog X.w) X E0 := fun _ _ _ _ _ _ _ h => by
  obtain ⟨_, _, _, _, _, _, _, _, _, _, _, _, z⟩ := h
  exact z.elim
end
end L2
theorem L2H.RoomH.units {k : Nat} {A : PySem.Around} (r : L2H.RoomH k A) : A.units + 64 < PySem.cLine := by have := r.un; omega
namespace Hk
open PySem PySem.W PySem.Spec PyProof.Rows L2 He
abbrev FnZ : Type := Option (PySem.Str × PySem.Str × Arguments × FuncBody × Scope)
def fnZ (K : Frag) (a : Addr) : FnZ := match K.lookup a with
  | some ⟨_, _, .func fd, _⟩ => some (fd.name, fd.qualname, fd.params, fd.body, fd.scope)
  | _ => none
structure It where
  at_ : Frag → Addr
  val : FnZ
  ok : Frag → Bool
structure DefX where
  at_ : Frag → Addr
  name : PySem.Str
  qual : PySem.Str
  params : Arguments
  body : List Stmt
  scope : Scope
  dfl : List Dv := []
  kwd : List (PySem.Str × Dv) := []
def DefX.val (d : DefX) : FnZ := some (d.name, d.qual, d.params, .stmts d.body, d.scope)
def DefX.dvs (K : Frag) (d : DefX) : List V := d.dfl.map (Dv.v K)
def DefX.kws (K : Frag) (d : DefX) : List (PySem.Str × V) := d.kwd.map fun q => (q.1, q.2.v K)
def defOk (K : Frag) (a : Addr) (qual : PySem.Str) (dvs : List V) (kws : List (PySem.Str × V)) : Bool := keepIn K (.ref a) && (match K.lookup a with
  | some ⟨_, _, .func fd, _⟩ => codeIn K fd.code qual && (decide (fd.globals = mainGlobals) && (decide (fd.builtins = builtinsNs) && (fd.closure.isEmpty && (dflB K fd.defaults dvs && kwdB K fd.kwdefaults kws))))
  | _ => false)
def DefX.it (d : DefX) : It := ⟨d.at_, d.val, fun K => defOk K (d.at_ K) d.qual (d.dvs K) (d.kws K)⟩
theorem DefX.funD {K : Frag} {d : DefX} (e : fnZ K (d.at_ K) = d.val) (c : d.it.ok K = true) : ∃ fd, FunD K d.name d.qual d.params d.body d.scope (d.dvs K) (d.kws K) (d.at_ K) fd := by
  obtain ⟨kp, c2⟩ := ba c
  unfold fnZ at e
  cases q : K.lookup (d.at_ K) with
  | none =>
    rw [q] at c2
    cases c2
  | some o =>
    obtain ⟨oc, od, dt, osl⟩ := o
    rw [q] at c2 e
    cases dt with
    | func fd =>
      obtain ⟨n1, n2, n3, n4, n5, n6, n7, n8, n9, n10, n11, n12, n13, n14, n15⟩ := fd
      have e2 : (some (n1, n2, n3, n4, n5) : FnZ) = some (d.name, d.qual, d.params, .stmts d.body, d.scope) := e
      simp only [Option.some.injEq, Prod.mk.injEq] at e2
      obtain ⟨h1, h2, h3, h4, h5⟩ := e2
      have c3 : (codeIn K n13 d.qual && (decide (n6 = mainGlobals) && (decide (n15 = builtinsNs) && (n7.isEmpty && (dflB K n8 (d.dvs K) && kwdB K n9 (d.kws K)))))) = true := c2
      obtain ⟨k1, k2⟩ := ba c3
      obtain ⟨k3, k4⟩ := ba k2
      obtain ⟨k5, k6⟩ := ba k4
      obtain ⟨k7, k8⟩ := ba k6
      obtain ⟨k9, k10⟩ := ba k8
      have h6 := of_decide_eq_true k3
      have h7 := of_decide_eq_true k5
      have h8 : n7 = [] := List.isEmpty_iff.mp k7
      subst h1 h2 h3 h4 h5 h6 h7 h8
      exact ⟨_, ⟨oc, od, n8, n9, n10, n11, n12, n13, n14, osl, rfl, q, k1, dflB_ok k9, kwdB_ok k10⟩, kp⟩
    | _ => cases c2
def clsB (K : Frag) (C : Addr) : Bool := match K.lookup C with
  | some ⟨.type ty, _, .cls cd, sl⟩ => (match cd.mro, sl.toList with
    | .ref C' :: bm, [_, _, _, _, some (.builtin n), _] => decide (ty = "type") && (decide (C' = C) && (decide (n = "ValueError.__new__") && (!cd.hasDel && (cd.hasDict && HandSPX.refsVE bm))))
    | _, _ => false)
  | _ => false
theorem clsB_ok {K : Frag} {C : Addr} (q : clsB K C = true) : ∃ nm q N bs bm sn sub ab col dd k0 k1 k2 k3 k5, K.lookup C = some (excClassObj nm q C N bs bm true sn sub ab col dd k0 k1 k2 k3 k5 "ValueError.__new__") ∧ HandSPX.refsVE bm = true := by
  unfold clsB at q
  split at q
  · rename_i ty dd cd sl ho
    split at q
    · rename_i C' bm k0 k1 k2 k3 n k5 hm hs
      obtain ⟨q1, q⟩ := ba q
      obtain ⟨q2, q⟩ := ba q
      obtain ⟨q3, q⟩ := ba q
      obtain ⟨q4, q⟩ := ba q
      obtain ⟨q5, q6⟩ := ba q
      have e1 := of_decide_eq_true q1
      have e2 := of_decide_eq_true q2
      have e3 := of_decide_eq_true q3
      obtain ⟨nm, bs, mro, ns, qn, hd, sn, sub, ab, col, del⟩ := cd
      dsimp only at hm q4 q5
      have e4 : del = false := by simpa using q4
      have hsl : sl = #[k0, k1, k2, k3, some (.builtin n), k5] := by
        obtain ⟨l⟩ := sl
        simp only at hs
        rw [hs]
      subst e1 e2 e3 hm e4 q5 hsl
      exact ⟨nm, qn, ns, bs, bm, sn, sub, ab, col, dd, k0, k1, k2, k3, k5, ho, q6⟩
    · cases q
  · cases q
def initB (K : Frag) (C fI : Addr) (file : PySem.Str) : Bool := match K.lookup fI with
  | some ⟨_, _, .func fd, _⟩ => (match fd.code, fd.closure with
    | .ref cda, [(x, cc)] => decide (x = "__class__" ∧ fd.defaults = .none) && (codeIn K (.ref cda) fd.qualname && (decide (fd.globals = mainGlobals) && (decide (fd.builtins = builtinsNs) && ((match K.lookup cda with
        | some ⟨_, _, .fields vs, _⟩ => (match (vs[2]? : Option Value) with
          | some (Value.str fl _) => decide (fl = file)
          | _ => false)
        | _ => false) && (match K.lookup cc with
        | some ⟨_, _, .cell (some (.ref D)), _⟩ => decide (D = C)
        | _ => false)))))
    | _, _ => false)
  | _ => false
theorem initB_ok {K : Frag} {C fI : Addr} {file : PySem.Str} {prog : Program} {nm0 qual0 : PySem.Str} {params : Arguments} {body : List Stmt} {scope : Scope} (h : initB K C fI file = true) (e : fnZ K fI = some (nm0, qual0, params, .stmts body, scope)) (hfile : (prog.main.file : PySem.Str) = file) :
  ∃ (oc : Value) (od : Option Addr) (nm qual : PySem.Str) (kV doc pm : Value) (an : Option Addr) (cda cc : Addr) (ct : Value) (osl : Array (Option Value)) (ccl : Value) (cdd : Option Addr) (vs : Array Value) (ccs : Array (Option Value)) (file : PySem.Str) (tf : Tok) (cl : Value) (cld : Option Addr) (csl : Array (Option Value)),
    K.lookup fI = some ⟨oc, od, .func (ksFn nm qual params body scope .none kV doc pm an (.ref cda) ct cc), osl⟩ ∧ codeIn K (.ref cda) qual = true ∧
    K.lookup cda = some ⟨ccl, cdd, .fields vs, ccs⟩ ∧ vs[2]? = some (.str file tf) ∧ ((prog.main.file : PySem.Str) == file) = true ∧ K.lookup cc = some ⟨cl, cld, .cell (some (.ref C)), csl⟩ := by
  unfold initB at h
  unfold fnZ at e
  cases q : K.lookup fI with
  | none =>
    rw [q] at h
    cases h
  | some o =>
    obtain ⟨oc, od, dt, osl⟩ := o
    rw [q] at h e
    cases dt with
    | func fd =>
      obtain ⟨n1, n2, n3, n4, n5, n6, n7, n8, n9, n10, n11, n12, n13, n14, n15⟩ := fd
      have e2 : (some (n1, n2, n3, n4, n5) : FnZ) = some (nm0, qual0, params, .stmts body, scope) := e
      simp only [Option.some.injEq, Prod.mk.injEq] at e2
      obtain ⟨h1, h2, h3, h4, h5⟩ := e2
      dsimp only at h
      split at h
      · rename_i cda x cc
        obtain ⟨g1, h⟩ := ba h
        obtain ⟨g2, h⟩ := ba h
        obtain ⟨g3, h⟩ := ba h
        obtain ⟨g4, h⟩ := ba h
        obtain ⟨g5, g6⟩ := ba h
        obtain ⟨f1, f0⟩ := of_decide_eq_true g1
        have f3 := of_decide_eq_true g3
        have f4 := of_decide_eq_true g4
        split at g5
        · rename_i ccl cdd vs ccs hcode
          split at g5
          · rename_i fl tf hvs
            have f5 := of_decide_eq_true g5
            split at g6
            · rename_i cl cld D csl hcell
              have f6 := of_decide_eq_true g6
              subst h1 h2 h3 h4 h5 f1 f0 f3 f4 f5 f6
              exact ⟨oc, od, _, _, n9, n10, n11, n12, cda, cc, n14, osl, ccl, cdd, vs, ccs, _, tf, cl, cld, csl, rfl, g2, hcode, hvs, by rw [hfile]; exact beq_self_eq_true _, hcell⟩
            · cases g6
          · cases g5
        · cases g5
      · cases h
    | _ => cases h
def errB (K : Frag) (nm : PySem.Str) (fs : List PySem.Str) (file : PySem.Str) : Bool :=
  eqO (nsIn K mainGlobals nm) (some (some (.ref (ga K nm)))) && (clsB K (ga K nm) && (eqO (findIn K (.ref (ga K nm)) "__setattr__") (some (some (.builtin "object.__setattr__"))) &&
  (eqO (findIn K (.ref (ga K nm)) "__getattribute__") (some (some (.builtin "BaseException.__getattribute__"))) && (eqO (findIn K (.ref (ga K nm)) "__getattr__") (some none) &&
  (eqO (findIn K (.ref (ga K nm)) "__init__") (some (some (.ref (ma K (ga K nm) "__init__")))) && (decide (typeIn K (.ref (ma K (ga K nm) "__init__")) = some (.type "function")) && (keepIn K (.ref (ga K nm)) &&
  (decide (subIn K (.ref (ga K nm)) (.type "BaseException") = some true) && (decide (subIn K (.ref (ga K nm)) (.type "ValueError") = some true) && (decide (typeIn K (.ref (ga K nm)) = some (.type "type")) && (hasDictIn K (ga K nm) &&
  (decide (mroIn K (ga K nm) (.ref (ga K nm)) = some true) && (eqO (ks_superIn K (ga K nm) (ga K nm) "__init__") (some (some (.builtin "ValueError.__init__"))) && (eqO (nsIn K cStatics "thirdparty.any") (some none) &&
  (eqO (nsIn K mainGlobals "super") (some none) && (initB K (ga K nm) (ma K (ga K nm) "__init__") file && fs.all fun f => eqO (findIn K (.ref (ga K nm)) f) (some none)))))))))))))))))
structure ErrD where
  name : PySem.Str
  fs : List PySem.Str
  qual : PySem.Str
  params : Arguments
  body : List Stmt
  scope : Scope
def ErrD.it (file : PySem.Str) (d : ErrD) : It := ⟨fun K => ma K (ga K d.name) "__init__", some ("__init__", d.qual, d.params, .stmts d.body, d.scope), fun K => errB K d.name d.fs file⟩
structure ScopeE (prog : Program) (scope : Scope) (params : Arguments) : Prop where
  ar : ∃ pp, (params.posonlyargs ++ params.args).head? = some ⟨"self", none, pp⟩
  hks : scope.names.lookup ("super" : PySem.Str) = some .globalImplicit
  hkc : scope.names.lookup ("__class__" : PySem.Str) = some .free
  hka : scope.names.lookup ("self" : PySem.Str) = some .local
  hk : scope.kind = .function
  hco : scope.isCoroutine = false
  hgen : scope.isGenerator = false
  hcell : ∀ x ∈ scope.names, x.2 ≠ .cell
  htop : (prog.main.scope.names.lookup ("super" : PySem.Str)).isSome = false
theorem errC_of {prog : Program} {K : Frag} {nm qual0 nm0 file : PySem.Str} {fs : List PySem.Str} {params : Arguments} {body : List Stmt} {scope : Scope} (c : errB K nm fs file = true) (e : fnZ K (ma K (ga K nm) "__init__") = some (nm0, qual0, params, .stmts body, scope))
    (hfile : (prog.main.file : PySem.Str) = file) (S : ScopeE prog scope params) : PySem.ErrX.ErrC prog K (ga K nm) (ma K (ga K nm) "__init__") body scope params ∧ nsIn K mainGlobals nm = some (some (.ref (ga K nm))) ∧ ∀ f ∈ fs, findIn K (.ref (ga K nm)) f = some none := by
  unfold errB at c
  obtain ⟨c0, c⟩ := ba c
  obtain ⟨c1, c⟩ := ba c
  obtain ⟨c2, c⟩ := ba c
  obtain ⟨c3, c⟩ := ba c
  obtain ⟨c4, c⟩ := ba c
  obtain ⟨c5, c⟩ := ba c
  obtain ⟨c6, c⟩ := ba c
  obtain ⟨c7, c⟩ := ba c
  obtain ⟨c8, c⟩ := ba c
  obtain ⟨c9, c⟩ := ba c
  obtain ⟨c10, c⟩ := ba c
  obtain ⟨c11, c⟩ := ba c
  obtain ⟨c12, c⟩ := ba c
  obtain ⟨c13, c⟩ := ba c
  obtain ⟨c14, c⟩ := ba c
  obtain ⟨c15, c⟩ := ba c
  obtain ⟨c16, c17⟩ := ba c
  exact ⟨{ cls := clsB_ok c1, sa := eqO_ok c2, ga := eqO_ok c3, gg := eqO_ok c4, iC := eqO_ok c5, tC := of_decide_eq_true c6, kC := c7, exC := of_decide_eq_true c8, veC := of_decide_eq_true c9, tyC := of_decide_eq_true c10, hdC := c11, mroC := of_decide_eq_true c12,
           supC := eqO_ok c13, opq := eqO_ok c14, supG := eqO_ok c15, fn := initB_ok c16 e hfile, ar := S.ar, hks := S.hks, hkc := S.hkc, hka := S.hka, hk := S.hk, hco := S.hco, hgen := S.hgen, hcell := S.hcell, htop := S.htop }, eqO_ok c0, fun f hf => eqO_ok (List.all_eq_true.mp c17 f hf)⟩
section
variable {prog : Program} {w : World} {K : Frag} {h : Heap} {mg : PySem.Str → Option Value} {nm qual0 nm0 file f msg : PySem.Str} {params : Arguments} {scope : Scope} {a1 a2 a3 a4 a5 a6 b1 b2 b3 b4 : Pos}
theorem err1_of (X : K.In h) (G : h.Ns mainGlobals mg) (c : errB K nm [f] file = true) (e : fnZ K (ma K (ga K nm) "__init__") = some (nm0, qual0, params, .stmts [PySem.ErrX.supS msg a1 a2 a3 a4 a5 a6, PySem.ErrX.fldS f b1 b2 b3 b4], scope))
    (hfile : (prog.main.file : PySem.Str) = file) (S : ScopeE prog scope params) (hline : (a3.endLine == a5.line) = true)
    (hbind : ∀ (nm qual : PySem.Str) (kV doc pm : Value) (an : Option Addr) (cdv ct : Value) (cc : Addr) (x y : Value), bindArgs (ksFn nm qual params [PySem.ErrX.supS msg a1 a2 a3 a4 a5 a6, PySem.ErrX.fldS f b1 b2 b3 b4] scope .none kV doc pm an cdv ct cc) ⟨[x, y], []⟩ = pure [(("self" : PySem.Str), x), (f, y)])
    (hkf : scope.names.lookup f = some .local) (hne : (("self" : PySem.Str) == f) = false) (hdf : (f == ("__debug__" : PySem.Str)) = false) : Err1 prog w K mg nm f (ga K nm) := by
  obtain ⟨T, g, hf⟩ := errC_of c e hfile S
  have noN := hf f (List.mem_singleton.mpr rfl)
  exact { gC := mg_of X G g, kC := T.kC, exC := T.exC, tyC := T.tyC, hdC := T.hdC, ga := T.ga, gg := T.gg, noN := noN, made := fun X hl hG hB hr hq => PySem.ErrX.made1 T hline hbind hkf hne hdf noN X hl hG hB hr hq }
end
def excCB (K : Frag) (D : Addr) : Bool := eqO (findIn K (.ref D) "__getattribute__") (some (some (.builtin "BaseException.__getattribute__"))) && (eqO (findIn K (.ref D) "__getattr__") (some none) && (decide (subIn K (.ref D) (.type "BaseException") = some true) &&
  (hasDictIn K D && (eqO (findIn K (.ref D) "__class__") (some (some (.builtin "object.__class__"))) && (eqO (specialIn K (.builtin "object.__class__") "__get__") (some (some (.builtin "getset_descriptor.__get__"))) &&
  (decide (takesIn K (.builtin "object.__class__") = some true) && decide (mroIn K D (.type "object") = some true)))))))
theorem excCB_ok {K : Frag} {D : Addr} (c : excCB K D = true) : ExcC K D := by
  unfold excCB at c
  obtain ⟨c1, c⟩ := ba c
  obtain ⟨c2, c⟩ := ba c
  obtain ⟨c3, c⟩ := ba c
  obtain ⟨c4, c⟩ := ba c
  obtain ⟨c5, c⟩ := ba c
  obtain ⟨c6, c⟩ := ba c
  obtain ⟨c7, c8⟩ := ba c
  exact ⟨eqO_ok c1, eqO_ok c2, of_decide_eq_true c3, c4, eqO_ok c5, eqO_ok c6, of_decide_eq_true c7, of_decide_eq_true c8⟩
def kitB (K : Frag) (x y : Value) (b : Bool) : Bool := decide (kitOne K x y = some b)
theorem kitB_ok {K : Frag} {x y : Value} {b : Bool} (h : kitB K x y b = true) : kitOne K x y = some b := of_decide_eq_true h
def fdOf (K : Frag) (a : Addr) : FuncData := match K.lookup a with
  | some ⟨_, _, .func fd, _⟩ => fd
  | _ => fnOf "" "" ⟨[], [], none, [], [], none, []⟩ [] ⟨.function, [], false, false, []⟩ .none .none .none .none none .none .none
theorem fdOf_eq {K : Frag} {x qual : PySem.Str} {params : Arguments} {body : List Stmt} {scope : Scope} {dvs : List V} {kws : List (PySem.Str × V)} {f : Addr} {fd : FuncData} (F : FunD K x qual params body scope dvs kws f fd) : FunD K x qual params body scope dvs kws f (fdOf K f) := by
  obtain ⟨oc, od, dV, kV, doc, pm, an, cdv, ct, osl, e, lk, r⟩ := F.ex
  have e2 : fdOf K f = fd := by unfold fdOf; rw [lk]
  rw [e2]
  exact F
abbrev AlZ : Type := Bool × List FnZ
def obsZ (fa : List Fa) (ex : List (Frag → Bool)) (its : List It) (K : Frag) : AlZ := ((fa.all fun f => f.ok K) && ((ex.all fun f => f K) && its.all fun d => d.ok K), its.map fun d => fnZ K (d.at_ K))
def valZ (its : List It) : AlZ := (true, its.map It.val)
def SaysZ (fa : List Fa) (ex : List (Frag → Bool)) (its : List It) (K : Frag) : Prop := obsZ fa ex its K = valZ its
section
variable {fa : List Fa} {ex : List (Frag → Bool)} {its : List It} {K : Frag}
theorem SaysZ.fact (c : SaysZ fa ex its K) (i : Nat) {f : Fa} (h : fa[i]? = some f := by rfl) : f.ok K = true := by
  have c1 := (ba (show ((fa.all fun f => f.ok K) && ((ex.all fun f => f K) && its.all fun d => d.ok K)) = true from congrArg (fun z : AlZ => z.1) c)).1
  exact List.all_eq_true.mp c1 f (List.mem_of_getElem? h)
theorem SaysZ.more (c : SaysZ fa ex its K) (i : Nat) {f : Frag → Bool} (h : ex[i]? = some f := by rfl) : f K = true := by
  have c1 := (ba (ba (show ((fa.all fun f => f.ok K) && ((ex.all fun f => f K) && its.all fun d => d.ok K)) = true from congrArg (fun z : AlZ => z.1) c)).2).1
  exact List.all_eq_true.mp c1 f (List.mem_of_getElem? h)
theorem SaysZ.it (c : SaysZ fa ex its K) (i : Nat) {d : It} (h : its[i]? = some d := by rfl) : fnZ K (d.at_ K) = d.val ∧ d.ok K = true := by
  have c2 := (ba (ba (show ((fa.all fun f => f.ok K) && ((ex.all fun f => f K) && its.all fun d => d.ok K)) = true from congrArg (fun z : AlZ => z.1) c)).2).2
  have e : its.map (fun d => fnZ K (d.at_ K)) = its.map It.val := congrArg (fun z : AlZ => z.2) c
  have e2 : (its.map fun d => fnZ K (d.at_ K))[i]? = (its.map It.val)[i]? := by rw [e]
  rw [List.getElem?_map, List.getElem?_map, h] at e2
  exact ⟨Option.some.inj e2, List.all_eq_true.mp c2 d (List.mem_of_getElem? h)⟩
theorem SaysZ.def_ (c : SaysZ fa ex its K) (i : Nat) {d : DefX} (h : its[i]? = some d.it := by rfl) : ∃ fd, FunD K d.name d.qual d.params d.body d.scope (d.dvs K) (d.kws K) (d.at_ K) fd := by
  obtain ⟨e1, e2⟩ := c.it i h
  exact DefX.funD e1 e2
theorem SaysZ.fn (c : SaysZ fa ex its K) (i : Nat) {d : DefX} (h : its[i]? = some d.it := by rfl) : FunD K d.name d.qual d.params d.body d.scope (d.dvs K) (d.kws K) (d.at_ K) (fdOf K (d.at_ K)) := by
  obtain ⟨fd, F⟩ := c.def_ i h
  exact fdOf_eq F
end
theorem walk_ofEB {l : PySem.W.OpenLaw} {n k : Nat} {q : Program} {loose : List PySem.Str} {XP : (PySem.Str → Option Value) → Heap → Prop} {YP : World → Heap → Prop} {d : DefRec} {CX : World → CXT} {x : PySem.Str}
    (hn : l.most = some n) (hn2 : n ≤ sizeLine) (hdf : d.params.defaults = []) (hr : Room k callerA)
    (F : ∀ (w : World) (mg : PySem.Str → Option Value) (fa : Addr) (h : Heap), YP w h → h.Ns mainGlobals mg → mg d.name = some (.ref fa) →
      ∃ (K : PySem.W.Frag) (fd : FuncData) (sp : Sp), K.In h ∧ (∀ (s : Shared) (u : Value), BindsTo s fd ⟨[u], []⟩ [(x, u)]) ∧
        (∀ (H : Hp) (a : Addr) (ns : List Int), ns.length ≤ n → (∀ k ∈ ns, Builtin.Int.intBits k ≤ 1048576) → Only H → SqL K H a (ns.map V.int) → sp [.ref a] H (fun v _ => v = .bl true) fun _ _ _ => False) ∧
        ∀ base : Heap, K.In base → base.Ns mainGlobals mg → FnOk l.prog w K mg base (CX w) k fa fd [x] sp)
    (hCX : ∀ (w : World) (H : Hp) (s : Shared) (e : Value) (s' : Shared), CX w [] H s (fun _ _ _ => False) e s' → False) :
    PySem.W.WalkO q loose XP YP l.row.toRowW d [] (fun f vs => PySem.call f vs) := by
  refine Att.attach_callB hn hdf fun w s₀ s₁ mg mb fa o pm cd doc a vs ns G Y ho hd hcd hmg hobj hints hlen hbits hg => ?_
  obtain ⟨K, fd, sp, KX, hb, hsp, hF⟩ := F w mg fa _ Y G.T.g hmg
  exact law_call KX G.T.g G.T.b G.T.builtins G.T.nolimit hg hobj hints (Nat.le_trans hlen hn2) hr hF hb (fun H hO hS => hsp H a ns hlen hbits hO hS) fun H e s' => hCX w H s₁ e s'
end Hk
namespace Px
open PySem PySem.Spec PyProof.Rows L2
section
variable {X : Cx}
def rAddP (K : PySem.W.Frag) : R2 := fun x y H Q => match x, y with
  | .int i, .int j => Q (.int (i + j)) H
  | .str i, .str j => i.length + j.length ≤ sizeLine ∧ Q (.str (i ++ j)) H
  | .ref a, .ref b => rCat (.ref a) (.ref b) H Q ∨ rCatA K (.ref a) (.ref b) H Q
  | _, _ => False
theorem op_addP : OpR X (binaryOp .Add) (rAddP X.K) := by
  intro pins s σ H x y v u Q I rx ry h
  cases x <;> cases y <;> first
    | exact False.elim h
    | exact op_add pins s σ H _ _ v u Q I rx ry ⟨_, _, rfl, rfl, h⟩
    | exact op_add_str pins s σ H _ _ v u Q I rx ry ⟨_, _, rfl, rfl, h.1, h.2⟩
    | (rcases h with h | h
       · exact op_cat pins s σ H _ _ v u Q I rx ry h
       · exact op_catA pins s σ H _ _ v u Q I rx ry h)
def rIn2 (C : Int → Int → Prop) (g : Int → Int → V) : R2 := fun x y H Q => match x, y with
  | .int i, .int j => C i j ∧ Q (g i j) H
  | _, _ => False
theorem OpR.in2 {f : Value → Value → Sem Value} {C : Int → Int → Prop} {g : Int → Int → V} (h : OpR X f (rI C g)) : OpR X f (rIn2 C g) := by
  intro pins s σ H x y v u Q I rx ry q
  cases x <;> cases y <;> first
    | exact False.elim q
    | exact h pins s σ H _ _ v u Q I rx ry ⟨_, _, rfl, rfl, q.1, q.2⟩
def rIn0 (g : Int → Int → V) : R2 := fun x y H Q => match x, y with
  | .int i, .int j => Q (g i j) H
  | _, _ => False
theorem OpR.in0 {f : Value → Value → Sem Value} {g : Int → Int → V} (h : OpR X f (rI0 g)) : OpR X f (rIn0 g) := by
  intro pins s σ H x y v u Q I rx ry q
  cases x <;> cases y <;> first
    | exact False.elim q
    | exact h pins s σ H _ _ v u Q I rx ry ⟨_, _, rfl, rfl, q⟩
abbrev rSubP : R2 := rIn0 fun i j => .int (i - j)
theorem op_subP : OpR X (binaryOp .Sub) rSubP := OpR.in0 op_sub
def CMulP (i j : Int) : Prop := CMul i j ∨ CMulW i j
abbrev rMulP : R2 := rIn2 CMulP fun i j => .int (i * j)
theorem op_mulP : OpR X (binaryOp .Mult) rMulP := OpR.in2 (opI fun _ _ _ _ _ _ _ hc q => mul_int q (hc.elim CMul.ok CMulW.ok))
def CDivP (_ j : Int) : Prop := j ≠ 0 ∧ j.natAbs.log2 < 9000
abbrev rFdivP : R2 := rIn2 CDivP fun i j => .int (i.fdiv j)
theorem op_fdivP : OpR X (binaryOp .FloorDiv) rFdivP := OpR.in2 (opI fun _ _ _ _ _ _ _ hc q => floordiv_int hc.1 q (.inl (PyProof.noPylong_of_log2 hc.2)))
abbrev rModP : R2 := rIn2 (fun _ j => j ≠ 0) fun i j => .int (i.fmod j)
theorem op_modP : OpR X (binaryOp .Mod) rModP := OpR.in2 op_modN
abbrev rPowP : R2 := rIn2 CPow fun i j => .int (i ^ j.toNat)
theorem op_powP : OpR X (binaryOp .Pow) rPowP := OpR.in2 op_pow
def rEqP (K : PySem.W.Frag) : R2 := fun x y H Q => match scal x y with
  | true => Q (.bl (decide (x = y))) H
  | false => rEqD K x y H Q
theorem op_eqP (hu : X.A.units + 64 < cLine) : OpR X (compareOp .Eq) (rEqP X.K) := by
  intro pins s σ H x y v u Q I rx ry h
  unfold rEqP at h
  cases e : scal x y with
  | true => rw [e] at h; exact op_eq pins s σ H _ _ v u Q I rx ry ⟨e, h⟩
  | false => rw [e] at h; exact op_eqD hu pins s σ H _ _ v u Q I rx ry h
def rNeP (K : PySem.W.Frag) : R2 := fun x y H Q => match scal x y with
  | true => Q (.bl (!decide (x = y))) H
  | false => rNeD K x y H Q
theorem op_neP (hu : X.A.units + 64 < cLine) : OpR X (compareOp .NotEq) (rNeP X.K) := by
  intro pins s σ H x y v u Q I rx ry h
  unfold rNeP at h
  cases e : scal x y with
  | true => rw [e] at h; exact op_ne pins s σ H _ _ v u Q I rx ry ⟨e, h⟩
  | false => rw [e] at h; exact op_neD hu pins s σ H _ _ v u Q I rx ry h
def rLtP : R2 := fun x y H Q => match x, y with
  | .int i, .int j => Q (.bl (decide (i < j))) H
  | .str i, .str j => Q (.bl (decide (i.cps.toList < j.cps.toList))) H
  | _, _ => False
theorem op_ltP : OpR X (compareOp .Lt) rLtP := by
  intro pins s σ H x y v u Q I rx ry h
  cases x <;> cases y <;> first
    | exact False.elim h
    | exact op_lt pins s σ H _ _ v u Q I rx ry ⟨_, _, rfl, rfl, h⟩
    | exact op_lt_str pins s σ H _ _ v u Q I rx ry ⟨_, _, rfl, rfl, h⟩
abbrev rGtP : R2 := rIn0 fun i j => .bl (decide (j < i))
theorem op_gtP : OpR X (compareOp .Gt) rGtP := OpR.in0 op_gt
abbrev rGeP : R2 := rIn0 fun i j => .bl (decide (j ≤ i))
theorem op_geP : OpR X (compareOp .GtE) rGeP := OpR.in0 op_ge
def strIn (i j : Str) : Bool := !(Builtin.Str.occurrences j i 0 j.length 1).isEmpty
def tgtIn (neg b : Bool) : Bool := if neg then !b else b
def rInP (K : PySem.W.Frag) (neg : Bool) : R2 := fun x y H Q => match y with
  | .str j => (match x with
    | .str i => Q (.bl (tgtIn neg (strIn i j))) H
    | _ => False)
  | .ref p => rIn K neg x (.ref p) H Q ∨ ∃ o, DGet H p x o ∧ Q (.bl (tgtIn neg o.isSome)) H
  | _ => False
theorem op_inP (hu : X.A.units + 64 < cLine) : OpR X (compareOp .In) (rInP X.K false) := by
  intro pins s σ H x y v u Q I rx ry h
  cases y <;> first
    | exact False.elim h
    | (cases x <;> first
       | exact False.elim h
       | exact op_in_str pins s σ H _ _ v u Q I rx ry ⟨_, _, rfl, rfl, h⟩)
    | (rcases h with h | ⟨o, g, q⟩
       · exact op_in_seq pins s σ H _ _ v u Q I rx ry h
       · obtain rfl : u = Value.ref _ := ry
         exact d_in (by omega) I g rx fun s3 I3 => ⟨.bl o.isSome, H, I3, rfl, q⟩)
theorem op_ninP (hu : X.A.units + 64 < cLine) : OpR X (compareOp .NotIn) (rInP X.K true) := by
  intro pins s σ H x y v u Q I rx ry h
  cases y <;> first
    | exact False.elim h
    | (cases x <;> first
       | exact False.elim h
       | exact op_notin_str pins s σ H _ _ v u Q I rx ry ⟨_, _, rfl, rfl, h⟩)
    | (rcases h with h | ⟨o, g, q⟩
       · exact op_notIn_seq pins s σ H _ _ v u Q I rx ry h
       · obtain rfl : u = Value.ref _ := ry
         exact d_notIn (by omega) I g rx fun s3 I3 => ⟨.bl (!o.isSome), H, I3, rfl, q⟩)
def rIsP (neg : Bool) : R2 := fun x y H Q => y = .non ∧ Q (.bl (tgtIn neg (decide (x = .non)))) H
theorem op_isP : OpR X (compareOp .Is) (rIsP false) := op_isN
def rIxP (K : PySem.W.Frag) : R2 := fun x y H Q => match x, y with
  | .str z, .int i => z.length ≤ sizeLine ∧ ∃ c, atI z.cps.toList i = some c ∧ Q (.str ⟨#[c]⟩) H
  | .ref p, .int i => ∃ xs v, (SqL K H p xs ∨ SqT K H p xs) ∧ atI xs i = some v ∧ Q v H
  | _, _ => False
theorem ix_P : IxR X (rIxP X.K) := by
  intro value slice pins s σ H x y v u Q I rx ry h hs
  cases x <;> cases y <;> first
    | exact False.elim h
    | (obtain ⟨hz, c, he, q⟩ := h
       exact ix_str value slice pins s σ H _ _ v u Q I rx ry ⟨_, _, c, rfl, rfl, hz, he, q⟩ hs)
    | (obtain ⟨xs, w, hq, he, q⟩ := h
       rcases hq with hq | hq
       · exact ix_list value slice pins s σ H _ _ v u Q I rx ry ⟨_, xs, _, w, rfl, rfl, hq, he, q⟩ hs
       · exact ix_tup value slice pins s σ H _ _ v u Q I rx ry ⟨_, xs, _, w, rfl, rfl, hq, he, q⟩ hs)
def rSlP (K : PySem.W.Frag) : V → Option Int → Option Int → Hp → VK → Prop := fun x lo hi H Q => match x with
  | .str z => z.length ≤ sizeLine ∧ Q (.str (cutS z lo hi)) H
  | .ref a => rSlL K (.ref a) lo hi H Q ∨ rSlA K (.ref a) lo hi H Q
  | _ => False
theorem sl_P : SlR X (rSlP X.K) := by
  intro pins s σ H x v vl vu lo hi sl Q I rx hs pl pu h
  cases x <;> first
    | exact False.elim h
    | exact sl_str pins s σ H _ v vl vu lo hi sl Q I rx hs pl pu ⟨_, rfl, h.1, h.2⟩
    | (rcases h with h | h
       · exact sl_list pins s σ H _ v vl vu lo hi sl Q I rx hs pl pu h
       · exact sl_tupA pins s σ H _ v vl vu lo hi sl Q I rx hs pl pu h)
def rLenP (K : PySem.W.Frag) : List V → Hp → VK → Prop := fun vs H Q => match vs with
  | [.str z] => z.length ≤ sizeLine ∧ Q (.int z.length) H
  | [.ref p] => (∃ xs, (SqL K H p xs ∨ SqT K H p xs) ∧ Q (.int xs.length) H) ∨ ∃ kvs, H p = some (.dK kvs) ∧ Q (.int kvs.length) H
  | _ => False
theorem call_lenP : CallR X (.builtin "len") (rLenP X.K) := by
  intro pins s σ H vs us Q I r h
  match vs, h with
  | [.str z], h => exact call_len_str pins s σ H _ us Q I r ⟨z, rfl, h.1, h.2⟩
  | [.ref p], h =>
    rcases h with ⟨xs, hq, q⟩ | ⟨kvs, hd, q⟩
    · exact call_len_seq pins s σ H _ us Q I r ⟨p, xs, rfl, hq, q⟩
    · exact call_lenD pins s σ H _ us Q I r ⟨p, kvs, rfl, hd, q⟩
  | [], h => exact False.elim h
  | [.non], h => exact False.elim h
  | [.bl _], h => exact False.elim h
  | [.int _], h => exact False.elim h
  | [.byt _], h => exact False.elim h
  | [.flt _], h => exact False.elim h
  | [.ty _], h => exact False.elim h
  | x :: y :: z, h => exact False.elim (by cases x <;> exact h)
def iAnyP (K : PySem.W.Frag) (te : TE) : TI := fun σ H R => te σ H fun x H1 => match x with
  | .str z => R (Its z) H1
  | .ref a => ((∃ xs, SqL K H1 a xs) ∧ R (Itl K a) H1) ∨ ((∃ xs, SqT K H1 a xs) ∧ R (Itt K a) H1)
  | _ => False
theorem pi_anyP {tg e : Expr} {te : TE} (he : PE X e te) : PI X tg e (iAnyP X.K te) := by
  refine ⟨fun pins s σ H R I h => ?_⟩
  refine thn (he.run pins s σ H _ I h) fun v s1 ⟨x, H1, I1, r1, q1⟩ => ?_
  cases x <;> first
    | exact False.elim q1
    | (rename_i x
       obtain ⟨t, rfl⟩ := r1
       cases ha : x.cps.all (· < 128)
       · exact wpAny_pyIter_wide ha (pi_one (tk := s1.toks) I1 _ (turn_str _ x t "str_iterator" (.inr rfl)) ⟨_, Heap.get?_push_size _ rfl, rfl, rfl⟩ q1)
       · exact wpAny_pyIter_ascii ha (pi_one (tk := s1.toks) I1 _ (turn_str _ x t "str_ascii_iterator" (.inl rfl)) ⟨_, Heap.get?_push_size _ rfl, rfl, rfl⟩ q1))
    | (rename_i a
       obtain rfl : v = Value.ref a := r1
       rcases q1 with ⟨⟨xs, hq⟩, q⟩ | ⟨⟨xs, hq⟩, q⟩
       · obtain ⟨its, rv, p, hz⟩ := I1.list hq
         refine wpAny_pyIter_list p.isList ?_
         refine ⟨s1.heap.objs.size, [s1.heap.objs.size], _, _, H1, rfl, I1.kept (t' := s1.toks) fun b o e => Heap.get?_push_of_some _ e, turn_list a _, ⟨_, Heap.get?_push_size _ rfl, rfl, rfl⟩, fun b hb => ?_, q⟩
         have e : b = s1.heap.objs.size := by simpa using hb
         subst e
         exact I1.fpOk (Nat.le_refl _) (I1.hok.fresh (Nat.le_refl _))
       · obtain ⟨its, rv, p, hz⟩ := I1.tuple hq
         refine wpAny_pyIter_tuple (show s1.heap.IsTuple a its.toArray from p) ?_
         refine ⟨s1.heap.objs.size, [s1.heap.objs.size], _, _, H1, rfl, I1.kept (t' := s1.toks) fun b o e => Heap.get?_push_of_some _ e, turn_tuple a _, ⟨_, Heap.get?_push_size _ rfl, rfl, rfl⟩, fun b hb => ?_, q⟩
         have e : b = s1.heap.objs.size := by simpa using hb
         subst e
         exact I1.fpOk (Nat.le_refl _) (I1.hok.fresh (Nat.le_refl _)))
def rSetP : V → V → V → Hp → (Hp → Prop) → Prop := fun o i v H Q => match o with
  | .ref p => rSetL (.ref p) i v H Q ∨ ∃ H', DPut H p i v H' ∧ Q H'
  | _ => False
theorem set_P (hu : X.A.units + 64 < cLine) : PSet X rSetP := by
  intro pins s σ H o i v ov iv u Q I ro ri rv h
  cases o <;> first
    | exact False.elim h
    | (rcases h with h | ⟨H', g, q⟩
       · exact set_list pins s σ H _ i v ov iv u Q I ro ri rv h
       · obtain rfl : ov = Value.ref _ := ro
         exact d_setItem (by omega) I g ri rv fun s4 I4 => ⟨H', I4, q⟩)
def rIntP : List V → Hp → VK → Prop := fun vs H Q => match vs with
  | [.int i] => Q (.int i) H
  | [.bl b] => Q (.int (if b then 1 else 0)) H
  | [.str z] => ∃ n, PySem.intText? z = some n ∧ z.length ≤ 640 ∧ Q (.int n) H
  | _ => False
theorem call_intP : CallR X (.type "int") rIntP := by
  intro pins s σ H vs us Q I r h
  match vs, h with
  | [.int i], h => exact call_int1 pins s σ H _ us Q I r (.inl ⟨i, rfl, h⟩)
  | [.bl b], h => exact call_int1 pins s σ H _ us Q I r (.inr ⟨b, rfl, h⟩)
  | [.str z], ⟨n, e, l, q⟩ => exact call_int_str pins s σ H _ us Q I r ⟨z, n, rfl, e, l, q⟩
  | [], h => exact False.elim h
  | [.non], h => exact False.elim h
  | [.ref _], h => exact False.elim h
  | [.byt _], h => exact False.elim h
  | [.flt _], h => exact False.elim h
  | [.ty _], h => exact False.elim h
  | x :: y :: z, h => exact False.elim (by cases x <;> exact h)
def rListP (K : PySem.W.Frag) : List V → Hp → VK → Prop := fun xs H Q => ∃ p ys, xs = [.ref p] ∧ (SqL K H p ys ∨ SqT K H p ys) ∧ ∀ l, H l = none → Q (.ref l) (upd H l (.lst ys))
theorem call_listP : CallR X (.type "list") (rListP X.K) := call_list_of
def rStrP : List V → Hp → VK → Prop := fun vs H Q => match vs with
  | [.int i] => i.natAbs.log2 < 1920 ∧ Q (.str (toString i)) H
  | [.str z] => Q (.str z) H
  | _ => False
def tCut (t u : TS) : TS := fun D σ H => ∃ Mid : L2.St → Hp → Prop, t { D with nx := Mid } σ H ∧ ∀ σ' H', Mid σ' H' → u D σ' H'
theorem pss_cut {st : Stmt} {rest : List Stmt} {t u : TS} (h1 : PS X st t) (h2 : PSs X rest u) : PSs X (st :: rest) (tCut t u) := by
  refine ⟨fun pins s σ H D I h => ?_⟩
  obtain ⟨Mid, hm, hu⟩ := h
  refine wpAny_execs_cons (thn (h1.run pins s σ H { D with nx := Mid } I hm) fun f s1 q => ?_)
  cases f with
  | next =>
    obtain ⟨σ', H', I', q⟩ := q
    exact h2.run pins s1 σ' H' D I' (hu σ' H' q)
  | ret v => exact q
  | brk => exact q
  | cont => exact q
def Sp1 (P : V → Hp → VK → XK → Prop) : Sp := fun vs H Q E => ∃ x, vs = [x] ∧ P x H Q E
def Sp2 (P : V → V → Hp → VK → XK → Prop) : Sp := fun vs H Q E => ∃ x y, vs = [x, y] ∧ P x y H Q E
def Sp3 (P : V → V → V → Hp → VK → XK → Prop) : Sp := fun vs H Q E => ∃ x y z, vs = [x, y, z] ∧ P x y z H Q E
def Sp4 (P : V → V → V → V → Hp → VK → XK → Prop) : Sp := fun vs H Q E => ∃ x y z u, vs = [x, y, z, u] ∧ P x y z u H Q E
def Sp5 (P : V → V → V → V → V → Hp → VK → XK → Prop) : Sp := fun vs H Q E => ∃ x y z u v, vs = [x, y, z, u, v] ∧ P x y z u v H Q E
theorem Sp5.len {P} {vs H Q E} (h : Sp5 P vs H Q E) : vs.length = 5 := by obtain ⟨_, _, _, _, _, rfl, _⟩ := h; rfl
def Sp9 (P : V → V → V → V → V → V → V → V → V → Hp → VK → XK → Prop) : Sp := fun vs H Q E => ∃ x y z u v a b c d, vs = [x, y, z, u, v, a, b, c, d] ∧ P x y z u v a b c d H Q E
theorem Sp9.len {P} {vs H Q E} (h : Sp9 P vs H Q E) : vs.length = 9 := by obtain ⟨_, _, _, _, _, _, _, _, _, rfl, _⟩ := h; rfl
theorem Sp1.len {P} {vs H Q E} (h : Sp1 P vs H Q E) : vs.length = 1 := by obtain ⟨_, rfl, _⟩ := h; rfl
theorem Sp2.len {P} {vs H Q E} (h : Sp2 P vs H Q E) : vs.length = 2 := by obtain ⟨_, _, rfl, _⟩ := h; rfl
theorem Sp3.len {P} {vs H Q E} (h : Sp3 P vs H Q E) : vs.length = 3 := by obtain ⟨_, _, _, rfl, _⟩ := h; rfl
theorem Sp4.len {P} {vs H Q E} (h : Sp4 P vs H Q E) : vs.length = 4 := by obtain ⟨_, _, _, _, rfl, _⟩ := h; rfl
end
end Px
namespace Px
open PySem PySem.Spec PyProof.Rows L2
section
variable {K : PySem.W.Frag} {σ σ' : L2.St} {H : Hp} {D : Ends} {Q : VK} {QB : Bool → Hp → Prop} {QL : List V → Hp → Prop} {QO : Option Int → Hp → Prop} {QS : L2.St → Hp → Prop} {t u : TS} {te ta tb : TE} {tt tu : TT} {tl : TA} {v x y : V} {g : TG} {r : R2}
theorem s_seq (h : t { D with nx := u D } σ H) : tSeq t u D σ H := h
theorem s_asg (h : te σ H fun x H1 => g x σ H1 D.nx) : tAsg te g D σ H := h
theorem s_ret (h : te σ H D.rt) : tRet te D σ H := h
theorem s_retN (h : D.rt .non H) : tRetN D σ H := h
theorem s_drop (h : te σ H fun _ H1 => D.nx σ H1) : tDrop te D σ H := h
theorem s_ifS (h : tt σ H fun b H1 => if b = true then t D σ H1 else u D σ H1) : tIfS tt t u D σ H := h
theorem s_next (h : D.nx σ H) : tNext D σ H := h
theorem s_break (h : D.bk σ H) : tBreak D σ H := h
theorem s_cont (h : D.ct σ H) : tCont D σ H := h
theorem s_var {i : Nat} (e : σ[i]? = some (some v)) (h : Q v H) : tVar i σ H Q := ⟨v, e, h⟩
theorem s_c (h : Q v H) : tC v σ H Q := h
theorem s_op (h : ta σ H fun x H1 => tb σ H1 fun y H2 => r x y H2 Q) : tOp r ta tb σ H Q := h
theorem s_un {r : V → Hp → VK → Prop} (h : ta σ H fun x H1 => r x H1 Q) : tUn r ta σ H Q := h
theorem s_gname {i : Nat} (h : QS (σ.set i (some v)) H) : gName i v σ H QS := h
theorem s_gsub {to ti : TE} {ts : TSet} (h : to σ H fun o H1 => ti σ H1 fun i H2 => ts o i v H2 fun H3 => QS σ H3) : gSub to ti ts v σ H QS := h
theorem s_test (h : te σ H fun x H' => ∃ k, x = .bl k ∧ QB k H') : tTest te σ H QB := h
theorem s_tB (h : te σ H fun x H' => ∃ k, x = .bl k ∧ QB k H') : tB te σ H QB := h
theorem s_and (h : tt σ H fun c H1 => if c = true then tu σ H1 QB else QB false H1) : tAnd tt tu σ H QB := h
theorem s_or (h : tt σ H fun c H1 => if c = true then QB true H1 else tu σ H1 QB) : tOr tt tu σ H QB := h
theorem s_not (h : tt σ H fun c H1 => QB (!c) H1) : tNot tt σ H QB := h
theorem s_andV (h : ta σ H fun x H1 => ∃ c, x = .bl c ∧ if c = true then tb σ H1 Q else Q (.bl false) H1) : tAndV ta tb σ H Q := h
theorem s_orV (h : ta σ H fun x H1 => ∃ c, x = .bl c ∧ if c = true then Q (.bl true) H1 else tb σ H1 Q) : tOrV ta tb σ H Q := h
theorem s_notV (h : ta σ H fun x H1 => ∃ c, x = .bl c ∧ Q (.bl (!c)) H1) : tNotV ta σ H Q := h
theorem s_ifE (h : tt σ H fun c H1 => if c = true then ta σ H1 Q else tb σ H1 Q) : tIf tt ta tb σ H Q := h
theorem s_exb {b : Bool} {R : Bool → Prop} (h : R b) : ∃ k, (V.bl b = .bl k) ∧ R k := ⟨b, rfl, h⟩
theorem s_exi {b : Int} {R : Int → Prop} (h : R b) : ∃ k, (V.int b = .int k) ∧ R k := ⟨b, rfl, h⟩
theorem s_nil (h : QL [] H) : tNil σ H QL := h
theorem s_cons (h : ta σ H fun x H1 => tl σ H1 fun xs H2 => QL (x :: xs) H2) : tCons ta tl σ H QL := h
theorem s_cb {r : List V → Hp → VK → Prop} (h : tl σ H fun vs H1 => r vs H1 Q) : tCB r tl σ H Q := h
theorem s_call {sp : Sp} {dvs : List V} {E : XK} (h : tl σ H fun vs H1 => sp (vs ++ dvs) H1 Q E) : tCall sp dvs E tl σ H Q := h
theorem s_callS {sp : Sp} {E : L2.St → XK} (h : tl σ H fun vs H1 => sp vs H1 Q (E σ)) : tCallS sp E tl σ H Q := h
theorem s_lst (h : tl σ H fun xs H1 => xs.length ≤ sizeLine ∧ ∀ p, H1 p = none → Q (.ref p) (upd H1 p (.lst xs))) : tLst tl σ H Q := h
theorem s_tup (h : tl σ H fun xs H1 => xs.length ≤ sizeLine ∧ ∀ p, H1 p = none → Q (.ref p) (upd H1 p (.tup xs))) : tTup tl σ H Q := h
theorem s_sl {r : V → Option Int → Option Int → Hp → VK → Prop} {lo hi : TO} (h : te σ H fun x H1 => lo σ H1 fun l H2 => hi σ H2 fun u H3 => r x l u H3 Q) : tSl r te lo hi σ H Q := h
theorem s_nopart (h : QO none H) : tNoPart σ H QO := h
theorem s_part (h : te σ H fun x H1 => ∃ i, x = .int i ∧ QO (some i) H1) : tPart te σ H QO := h
theorem s_yes (h : QB true H) : tYes σ H QB := h
theorem s_addI {i j : Int} (h : Q (.int (i + j)) H) : rAddP K (.int i) (.int j) H Q := h
theorem s_in0 {g : Int → Int → V} {i j : Int} (h : Q (g i j) H) : rIn0 g (.int i) (.int j) H Q := h
theorem s_in2 {C : Int → Int → Prop} {g : Int → Int → V} {i j : Int} (hc : C i j) (h : Q (g i j) H) : rIn2 C g (.int i) (.int j) H Q := ⟨hc, h⟩
theorem s_eqI {i j : Int} (h : Q (.bl (decide (i = j))) H) : rEqP K (.int i) (.int j) H Q := by
  show Q (.bl (decide (V.int i = V.int j))) H
  rw [show decide (V.int i = V.int j) = decide (i = j) from by rw [Bool.eq_iff_iff]; simp]
  exact h
theorem s_eqS {i j : Str} (h : Q (.bl (decide (i = j))) H) : rEqP K (.str i) (.str j) H Q := by
  show Q (.bl (decide (V.str i = V.str j))) H
  rw [show decide (V.str i = V.str j) = decide (i = j) from by rw [Bool.eq_iff_iff]; simp]
  exact h
theorem s_eqB {i j : Bool} (h : Q (.bl (decide (i = j))) H) : rEqP K (.bl i) (.bl j) H Q := by
  show Q (.bl (decide (V.bl i = V.bl j))) H
  rw [show decide (V.bl i = V.bl j) = decide (i = j) from by rw [Bool.eq_iff_iff]; simp]
  exact h
theorem s_neI {i j : Int} (h : Q (.bl (!decide (i = j))) H) : rNeP K (.int i) (.int j) H Q := by
  show Q (.bl (!decide (V.int i = V.int j))) H
  rw [show decide (V.int i = V.int j) = decide (i = j) from by rw [Bool.eq_iff_iff]; simp]
  exact h
theorem s_neS {i j : Str} (h : Q (.bl (!decide (i = j))) H) : rNeP K (.str i) (.str j) H Q := by
  show Q (.bl (!decide (V.str i = V.str j))) H
  rw [show decide (V.str i = V.str j) = decide (i = j) from by rw [Bool.eq_iff_iff]; simp]
  exact h
theorem s_ltI {i j : Int} (h : Q (.bl (decide (i < j))) H) : rLtP (.int i) (.int j) H Q := h
theorem s_ltS {i j : Str} (h : Q (.bl (decide (i.cps.toList < j.cps.toList))) H) : rLtP (.str i) (.str j) H Q := h
theorem s_inS {i j : Str} {neg : Bool} (h : Q (.bl (tgtIn neg (strIn i j))) H) : rInP K neg (.str i) (.str j) H Q := h
theorem s_isN {neg : Bool} (h : Q (.bl (tgtIn neg (decide (x = .non)))) H) : rIsP neg x .non H Q := ⟨rfl, h⟩
theorem s_ixL {p : Addr} {xs : List V} {i : Int} (hp : H p = some (.lst xs)) (e : atI xs i = some v) (h : Q v H) : rIxP K (.ref p) (.int i) H Q := ⟨xs, v, .inl (SqL.of hp), e, h⟩
theorem s_ixT {p : Addr} {xs : List V} {i : Int} (hp : H p = some (.tup xs)) (e : atI xs i = some v) (h : Q v H) : rIxP K (.ref p) (.int i) H Q := ⟨xs, v, .inr (SqT.of hp), e, h⟩
theorem s_lenL {p : Addr} {xs : List V} (hp : H p = some (.lst xs)) (h : Q (.int xs.length) H) : rLenP K [.ref p] H Q := .inl ⟨xs, .inl (SqL.of hp), h⟩
theorem s_lenT {p : Addr} {xs : List V} (hp : H p = some (.tup xs)) (h : Q (.int xs.length) H) : rLenP K [.ref p] H Q := .inl ⟨xs, .inr (SqT.of hp), h⟩
theorem s_setL {p : Addr} {xs : List V} {k : Int} {j : Nat} {QH : Hp → Prop} (hp : H p = some (.lst xs)) (e : ixN xs.length k = some j) (h : QH (upd H p (.lst (xs.set j v)))) : rSetP (.ref p) (.int k) v H QH := .inl ⟨p, xs, k, j, rfl, rfl, hp, e, h⟩
theorem s_neg {i : Int} {f : Int → V} (h : Q (f i) H) : rU f (.int i) H Q := ⟨i, rfl, h⟩
theorem s_itd {p : Prop} [Decidable p] {A B : Prop} (h1 : p → A) (h2 : ¬p → B) : if decide p = true then A else B := by
  by_cases h : p
  · rw [if_pos (decide_eq_true h)]; exact h1 h
  · rw [if_neg (by rw [decide_eq_false h]; exact Bool.false_ne_true)]; exact h2 h
theorem s_itT {c : Bool} {A B : Prop} (hc : c = true) (h : A) : if c = true then A else B := by rw [if_pos hc]; exact h
theorem s_itF {c : Bool} {A B : Prop} (hc : c = false) (h : B) : if c = true then A else B := by rw [hc, if_neg Bool.false_ne_true]; exact h
theorem s_nocut (h : t { D with nx := u D } σ H) : tCut t u D σ H := ⟨u D, h, fun _ _ h => h⟩
theorem s_cut (Mid : L2.St → Hp → Prop) (h : t { D with nx := Mid } σ H) (h2 : ∀ σ' H', Mid σ' H' → u D σ' H') : tCut t u D σ H := ⟨Mid, h, h2⟩
theorem s_setU {p : Addr} {xs : List V} {k : Int} {j : Nat} {QH : Hp → Prop} (e : ixN xs.length k = some j) (h : QH (upd H p (.lst (xs.set j v)))) : rSetP (.ref p) (.int k) v (upd H p (.lst xs)) QH := by
  refine s_setL upd_same e ?_
  rw [upd_upd]
  exact h
theorem s_intI {i : Int} (h : Q (.int i) H) : rIntP [.int i] H Q := h
theorem s_listL {p : Addr} {ys : List V} (hp : SqL K H p ys) (h : ∀ l, H l = none → Q (.ref l) (upd H l (.lst ys))) : rListP K [.ref p] H Q := ⟨p, ys, rfl, .inl hp, h⟩
theorem s_rng1 {ta : TA} {R : L2.It → Hp → Prop} (h : ta σ H fun vs H1 => ∃ j : Int, vs = [.int j] ∧ -(2 ^ 62) ≤ j ∧ j < 2 ^ 62 ∧ R (Itr 0 j.toNat) H1) : iRng1 ta σ H R := h
theorem same_new {p : Addr} {o : HO} (h : H p = none) : Same H (upd H p o) := fun b u e => by
  rw [upd_ne (ne_of_none e h)]
  exact e
def But (a : Addr) (H H' : Hp) : Prop := ∀ b o, H b = some o → b ≠ a → H' b = some o
theorem But.refl (a : Addr) (H : Hp) : But a H H := fun _ _ h _ => h
theorem But.trans {a : Addr} {H H1 H2 : Hp} (h1 : But a H H1) (h2 : But a H1 H2) : But a H H2 := fun b o h n => h2 b o (h1 b o h n) n
theorem But.upd {a : Addr} {H : Hp} {o : HO} : But a H (upd H a o) := fun b u h n => by rw [upd_ne n]; exact h
theorem But.put {a : Addr} {H H1 : Hp} {o : HO} (h : But a H H1) : But a H (L2.upd H1 a o) := h.trans But.upd
end
end Px
namespace Px
open PySem PySem.Spec PyProof.Rows L2
def YieldsAt (J : L2.It) (xs : List V) (i : Nat) (H : Hp) : Prop := (∀ h : i < xs.length, J.go i H ∧ ∀ x H', J.yld i H x H' → H' = H ∧ xs[i]? = some x) ∧ (xs.length ≤ i → J.stop i H)
theorem yields_str (z : Str) (i : Nat) (H : Hp) : YieldsAt (Its z) (z.cps.toList.map fun c => V.str ⟨#[c]⟩) i H := by
  refine ⟨fun h => ⟨?_, fun x H' hy => ?_⟩, fun h => ?_⟩
  · show i < z.cps.size
    simpa using h
  · obtain ⟨e, c, hc, rfl⟩ := hy
    refine ⟨e, ?_⟩
    rw [List.getElem?_map]
    have : z.cps.toList[i]? = some c := by simpa using hc
    rw [this]
    rfl
  · show z.cps.size ≤ i
    simpa using h
theorem yields_range (lo : Int) (n i : Nat) (H : Hp) : YieldsAt (Itr lo n) ((List.range n).map fun (j : Nat) => V.int (lo + (j : Int))) i H := by
  refine ⟨fun h => ⟨?_, fun x H' hy => ?_⟩, fun h => ?_⟩
  · show i < n
    simpa using h
  · obtain ⟨e, rfl⟩ := hy
    refine ⟨e, ?_⟩
    have hi : i < n := by simpa using h
    rw [List.getElem?_map, List.getElem?_range hi]
    rfl
  · show n ≤ i
    simpa using h
theorem yields_list {K : PySem.W.Frag} {a : Addr} {xs : List V} {H : Hp} (h : SqL K H a xs) (i : Nat) : YieldsAt (Itl K a) xs i H := by
  refine ⟨fun hi => ⟨⟨xs, xs[i], h, by simp [hi]⟩, fun x H' hy => ⟨hy.1, hy.2 xs h⟩⟩, fun hi => ⟨xs, h, hi⟩⟩
theorem yields_tup {K : PySem.W.Frag} {a : Addr} {xs : List V} {H : Hp} (h : SqT K H a xs) (i : Nat) : YieldsAt (Itt K a) xs i H := by
  refine ⟨fun hi => ⟨⟨xs, xs[i], h, by simp [hi]⟩, fun x H' hy => ⟨hy.1, hy.2 xs h⟩⟩, fun hi => ⟨xs, h, hi⟩⟩
theorem Same.sqT {K : PySem.W.Frag} {H H' : Hp} {a : Addr} {xs : List V} (e : Same H H') (h : SqT K H a xs) : SqT K H' a xs := by
  rcases h with (h | ⟨o, h⟩) | h
  · exact .inl (.inl (e _ _ h))
  · exact .inl (.inr ⟨o, e _ _ h⟩)
  · exact .inr h
section
variable {K : PySem.W.Frag} {σ : L2.St} {H H1 : Hp} {D : Ends} {Q : VK} {J : L2.It} {xs : List V}
theorem lc_y {g : TG} {tt : TT} {te : TE} {vs : List Nat} {Dr : Addr} {Qd : Hp → Prop} (Pv : Nat → Hp → Prop) (h0 : Pv 0 (upd H1 Dr (.lst []))) (hy : ∀ i H, i ≤ xs.length → Pv i H → YieldsAt J xs i H)
    (hs : ∀ i x H, xs[i]? = some x → Pv i H → g x (wipe σ vs) H fun σ2 H2 => wipe σ2 vs = wipe σ vs ∧ tt σ2 H2 fun b H3 =>
      if b = true then te σ2 H3 fun y H4 => ∃ acc, H4 Dr = some (.lst acc) ∧ acc.length < sizeLine ∧ Pv (i + 1) (upd H4 Dr (.lst (acc ++ [y]))) else Pv (i + 1) H3) (hd : ∀ H, Pv xs.length H → Qd H) :
    ∃ W : Nat → Nat → Hp → Prop, (∃ m, W 0 m (upd H1 Dr (.lst []))) ∧ ∀ i m H, W i m H →
      (J.stop i H ∧ Qd H) ∨ (J.go i H ∧ ∃ Nx : Hp → Prop, (∀ H', Nx H' → ∃ m', m' < m ∧ W (i + 1) m' H') ∧ ∀ x H', J.yld i H x H' → g x (wipe σ vs) H' fun σ2 H2 => wipe σ2 vs = wipe σ vs ∧ tt σ2 H2 fun b H3 =>
        if b = true then te σ2 H3 fun y H4 => ∃ acc, H4 Dr = some (.lst acc) ∧ acc.length < sizeLine ∧ Nx (upd H4 Dr (.lst (acc ++ [y]))) else Nx H3) := by
  refine ⟨fun i m H => m = xs.length - i ∧ i ≤ xs.length ∧ Pv i H, ⟨xs.length, by simp, Nat.zero_le _, h0⟩, ?_⟩
  rintro i m H ⟨rfl, hi, p⟩
  have q := hy i H hi p
  by_cases hlt : i < xs.length
  · refine .inr ⟨(q.1 hlt).1, Pv (i + 1), fun H' p' => ⟨xs.length - (i + 1), by omega, rfl, hlt, p'⟩, fun x H' y => ?_⟩
    obtain ⟨e, hx⟩ := (q.1 hlt).2 x H' y
    subst e
    exact hs i x H' hx p
  · have e : i = xs.length := by omega
    subst e
    exact .inl ⟨q.2 (Nat.le_refl _), hd H p⟩
theorem take_more {α : Type} {l : List α} {i : Nat} {x : α} (h : l[i]? = some x) : l.take (i + 1) = l.take i ++ [x] := by
  obtain ⟨hi, rfl⟩ := List.getElem?_eq_some_iff.mp h
  rw [List.take_succ_eq_append_getElem hi]
theorem lc_map {v : Nat} {te : TE} {f : V → V} (hx : xs.length ≤ 1000000) (hy : ∀ i H, Same H1 H → YieldsAt J xs i H)
    (hf : ∀ x ∈ xs, ∀ H', Same H1 H' → ∀ Q' : VK, (∀ H'', Same H' H'' → Q' (f x) H'') → te (σ.set v (some x)) H' Q')
    (hq : ∀ D H', H1 D = none → Same H1 H' → H' D = some (.lst (xs.map f)) → Q (.ref D) H') :
    ∀ Dr, H1 Dr = none → ∃ W : Nat → Nat → Hp → Prop, (∃ m, W 0 m (upd H1 Dr (.lst []))) ∧ ∀ i m H, W i m H →
      (J.stop i H ∧ Q (.ref Dr) H) ∨ (J.go i H ∧ ∃ Nx : Hp → Prop, (∀ H', Nx H' → ∃ m', m' < m ∧ W (i + 1) m' H') ∧ ∀ x H', J.yld i H x H' → gName v x (wipe σ [v]) H' fun σ2 H2 => wipe σ2 [v] = wipe σ [v] ∧ tYes σ2 H2 fun b H3 =>
        if b = true then te σ2 H3 fun y H4 => ∃ acc, H4 Dr = some (.lst acc) ∧ acc.length < sizeLine ∧ Nx (upd H4 Dr (.lst (acc ++ [y]))) else Nx H3) := by
  intro Dr hD
  refine lc_y (xs := xs) (fun i H => Same H1 H ∧ H Dr = some (.lst ((xs.take i).map f))) ⟨same_new hD, by simp [upd_same]⟩ (fun i H _ p => hy i H p.1) ?_ (fun H p => hq Dr H hD p.1 (by rw [p.2, List.take_length]))
  rintro i x H hi ⟨sm, hl⟩
  have e1 : wipe σ [v] = σ.set v none := rfl
  rw [e1]
  have e2 : (σ.set v none).set v (some x) = σ.set v (some x) := by rw [List.set_set]
  have e3 : wipe (σ.set v (some x)) [v] = σ.set v none := by show (σ.set v (some x)).set v none = _; rw [List.set_set]
  unfold gName
  rw [e2]
  refine ⟨e3, ?_⟩
  unfold tYes
  dsimp only
  rw [if_pos rfl]
  refine hf x (List.mem_of_getElem? hi) H sm _ fun H'' s2 => ?_
  refine ⟨_, s2 _ _ hl, ?_, fun b o e => ?_, ?_⟩
  · rw [List.length_map, List.length_take, sizeLine_eq]
    have := (List.getElem?_eq_some_iff.mp hi).1
    omega
  · rw [upd_ne (ne_of_none e hD)]
    exact s2 _ _ (sm _ _ e)
  · rw [upd_same, take_more hi, List.map_append]
    rfl
def Items (K : PySem.W.Frag) (H : Hp) (x : V) (xs : List V) : Prop := match x with
  | .str z => xs = z.cps.toList.map fun c => V.str ⟨#[c]⟩
  | .ref a => SqL K H a xs ∨ SqT K H a xs
  | _ => False
theorem Items.keep {H' : Hp} {x : V} (h : Items K H x xs) (s : Same H H') : Items K H' x xs := by
  cases x <;> first
    | exact False.elim h
    | exact h
    | (rcases h with h | h
       · exact .inl (s.seq h)
       · exact .inr (Same.sqT s h))
def LcB (J : L2.It) (g : TG) (tt : TT) (te : TE) (vs : List Nat) (σ : L2.St) (Q : VK) (H1 : Hp) : Prop := ∀ D, H1 D = none → ∃ W : Nat → Nat → Hp → Prop, (∃ m, W 0 m (upd H1 D (.lst []))) ∧ ∀ i m H, W i m H →
  (J.stop i H ∧ Q (.ref D) H) ∨ (J.go i H ∧ ∃ Nx : Hp → Prop, (∀ H', Nx H' → ∃ m', m' < m ∧ W (i + 1) m' H') ∧ ∀ x H', J.yld i H x H' → g x (wipe σ vs) H' fun σ2 H2 => wipe σ2 vs = wipe σ vs ∧ tt σ2 H2 fun b H3 =>
    if b = true then te σ2 H3 fun y H4 => ∃ acc, H4 D = some (.lst acc) ∧ acc.length < sizeLine ∧ Nx (upd H4 D (.lst (acc ++ [y]))) else Nx H3)
def LcBody (K : PySem.W.Frag) (g : TG) (tt : TT) (te : TE) (vs : List Nat) (σ : L2.St) (Q : VK) (x : V) (H1 : Hp) : Prop := match x with
  | .str z => LcB (Its z) g tt te vs σ Q H1
  | .ref a => ((∃ xs, SqL K H1 a xs) ∧ LcB (Itl K a) g tt te vs σ Q H1) ∨ ((∃ xs, SqT K H1 a xs) ∧ LcB (Itt K a) g tt te vs σ Q H1)
  | _ => False
theorem s_lcA {te0 te : TE} {g : TG} {tt : TT} {vs : List Nat} (h : te0 σ H fun x H1 => LcBody K g tt te vs σ Q x H1) : tLc (iAnyP K te0) g tt te vs σ H Q := h
def LcBodyR (g : TG) (tt : TT) (te : TE) (vs : List Nat) (σ : L2.St) (Q : VK) (ws : List V) (H1 : Hp) : Prop := ∃ j : Int, ws = [.int j] ∧ -(2 ^ 62) ≤ j ∧ j < 2 ^ 62 ∧ LcB (Itr 0 j.toNat) g tt te vs σ Q H1
theorem s_lcR {ta : TA} {te : TE} {g : TG} {tt : TT} {vs : List Nat} (h : ta σ H fun ws H1 => LcBodyR g tt te vs σ Q ws H1) : tLc (iRng1 ta) g tt te vs σ H Q := h
theorem lcr_map {v : Nat} {te : TE} {j : Int} (f : V → V) (h1 : j ≤ 1000000) (h0 : -1000000 ≤ j)
    (hf : ∀ i : Nat, (i : Int) < j → ∀ H', Same H1 H' → ∀ Q' : VK, (∀ H'', Same H' H'' → Q' (f (.int i)) H'') → te (σ.set v (some (.int i))) H' Q')
    (hq : ∀ D H', H1 D = none → Same H1 H' → H' D = some (.lst ((List.range j.toNat).map fun (i : Nat) => f (.int i))) → Q (.ref D) H') : LcBodyR (gName v) tYes te [v] σ Q [.int j] H1 := by
  refine ⟨j, rfl, by omega, by omega, ?_⟩
  refine lc_map (xs := (List.range j.toNat).map fun (i : Nat) => V.int (0 + (i : Int))) (f := f) (by rw [List.length_map, List.length_range]; omega) (fun i H _ => yields_range 0 j.toNat i H) ?_ ?_
  · intro x hx
    obtain ⟨i, hi, rfl⟩ := List.mem_map.mp hx
    have := List.mem_range.mp hi
    rw [Int.zero_add]
    exact hf i (by omega)
  · intro D H' hD s hl
    refine hq D H' hD s ?_
    rw [hl, List.map_map]
    congr 2
    apply List.map_congr_left
    intro i _
    show f (.int (0 + (i : Int))) = _
    rw [Int.zero_add]
def ForB (J : L2.It) (g : TG) (tb : TS) (D : Ends) (σ : L2.St) (H : Hp) : Prop := ∃ W : Nat → Nat → L2.St → Hp → Prop, (∃ m, W 0 m σ H) ∧ ∀ i m σ H, W i m σ H →
      (J.stop i H ∧ D.nx σ H) ∨ (J.go i H ∧ ∃ N : L2.St → Hp → Prop, (∀ σ' H', N σ' H' → ∃ m', m' < m ∧ W (i + 1) m' σ' H') ∧ ∀ x H', J.yld i H x H' → g x σ H' fun σ2 H2 => tb { D with nx := N, ct := N, bk := D.nx } σ2 H2)
def ForBody (K : PySem.W.Frag) (g : TG) (tb : TS) (D : Ends) (σ : L2.St) (x : V) (H1 : Hp) : Prop := match x with
  | .str z => ForB (Its z) g tb D σ H1
  | .ref a => ((∃ xs, SqL K H1 a xs) ∧ ForB (Itl K a) g tb D σ H1) ∨ ((∃ xs, SqT K H1 a xs) ∧ ForB (Itt K a) g tb D σ H1)
  | _ => False
theorem s_forA {te0 : TE} {g : TG} {tb : TS} (h : te0 σ H fun x H1 => ForBody K g tb D σ x H1) : tFor (iAnyP K te0) g tb D σ H := h
def ForBodyR (g : TG) (tb : TS) (D : Ends) (σ : L2.St) (ws : List V) (H1 : Hp) : Prop := ∃ j : Int, ws = [.int j] ∧ -(2 ^ 62) ≤ j ∧ j < 2 ^ 62 ∧ ForB (Itr 0 j.toNat) g tb D σ H1
theorem s_forR {ta : TA} {g : TG} {tb : TS} (h : ta σ H fun ws H1 => ForBodyR g tb D σ ws H1) : tFor (iRng1 ta) g tb D σ H := h
theorem s_all {a : Addr} {bs : List Bool} (hp : H a = some (.lst (bs.map V.bl))) (h : Q (.bl (bs.all id)) H) : rAll K [.ref a] H Q := ⟨a, bs, rfl, SqL.of hp, h⟩
end
end Px
namespace L2N
open PySem PySem.Spec PyProof.Rows L2
abbrev Cla := Value × Nat × (Addr → Value → Option Addr → TS)
def wList (K : PySem.W.Frag) (Wout : WX) (D : Ends) : List Cla → WX
  | [] => Wout
  | (c, i, ts) :: r => wAs K c i ts (wList K Wout D r) D
inductive Clas (X : Cx) : List ExceptHandler → List Cla → Prop
  | nil : Clas X [] []
  | cons {x n : Str} {c : Value} {i : Nat} {ts : Addr → Value → Option Addr → TS} {b1 : Stmt} {bs : List Stmt} {np p : Pos} {hds : List ExceptHandler} {l : List Cla} (hi : X.N[i]? = some n) (hln : X.env.kindOf n = some .local) (hc : Names X x c)
      (hsu : ∀ (a : Addr) (oe : Obj) (cls : Value) (d : Option Addr) (pn : List (Addr × Obj)), Zn cls d oe → (∃ vs, oe.data = .fields vs) → PSs (X.suite a ((a, oe) :: pn)) (b1 :: bs) (ts a cls d)) (r : Clas X hds l) :
      Clas X (.ExceptHandler (some (.Name x np)) (some n) (b1 :: bs) p :: hds) ((c, i, ts) :: l)
theorem ps_try_list {X : Cx} {body : List Stmt} {h1 : ExceptHandler} {hds : List ExceptHandler} {l : List Cla} {pos : Pos} {tb : WX → TS} {Wout : WX} (hs : X.stack = X.env :: X.outer) (hf : X.env.frame = some X.env.locals) (hN : X.N.Nodup) (tk : Takes X Wout)
    (hb : ∀ (W : WX) (pn : List (Addr × Obj)) (xe : Value → Shared → Prop), Takes (X.tr pn xe) W → PassesOwn (model X.prog X.w) X.A X.env xe → PSs (X.tr pn xe) body (tb W)) (hh : Clas X (h1 :: hds) l) :
    PS X (.Try body (h1 :: hds) [] [] pos) (fun D σ H => tb (wList X.K Wout D l) D σ H) := by
  refine ⟨fun pins s σ H D I h => ?_⟩
  have ok := I.ok
  have hfr : X.A.frames = some (X.env :: X.outer) := (ok.frames).trans (by rw [hs])
  refine wpAny_Try_except ?_
  refine wpAny_mono ((hb (wList X.K Wout D l) (X.pn ++ pins) (fun e s1 => wpAny (model X.prog X.w) X.A (noteFrame e X.env) (fun _ s2 => wpAny (model X.prog X.w) X.A (setFlight e none) (fun _ s3 => wpAny (model X.prog X.w) X.A (handleBy e X.env (h1 :: hds)) (SP X pins D) X.xe s3) X.xe s2) X.xe s1) (fun u s' xx => ?_) PassesOwn.looking).run [] s σ H D (I.toTry _) h) (fun f s1 hsp => ?_) (fun e s1 he => he)
  · obtain ⟨a, B, sI, pins', σ', H', cls, d, rfl, J', nb, up, sky, na, os, ag, w⟩ := xx
    have J : Inv X pins σ' H' sI := J'.ofTry ok
    have sky' : Sky B (X.env :: X.outer) a (Zn cls d) X.env.locals s'.heap := hs ▸ sky
    show wpAny (model X.prog X.w) X.A (noteFrame (.ref a) X.env) _ _ _
    refine Sky.land Zn.steady hfr hf sky' fun h3 fl3 up3 => ?_
    have J3 : Inv X pins σ' H' { s' with heap := h3 } := J.landed nb fl3.1 (up.trans up3) os ag
    obtain ⟨oe3, vs3, he3, hz3, hd3⟩ := fl3.there
    have nfr : a ∉ frs (X.env :: X.outer) := fun hm => by
      obtain ⟨_, o', e', hnf⟩ := fl3.2.2.1.mem hm
      have e4 := he3.symm.trans e'
      cases e4
      exact hnf _ hd3
    have nL : a ≠ X.env.locals := fun z => nfr (List.mem_filterMap.mpr ⟨X.env, List.mem_cons_self, by rw [hf, ← z]⟩)
    have nF : a ∉ X.fs := fun hm => by
      obtain ⟨e, he, q⟩ := List.mem_filterMap.mp hm
      exact nfr (List.mem_filterMap.mpr ⟨e, .tail _ he, q⟩)
    have S3 := J3.suite he3 hd3 na nL nF
    have each : ∀ {hs' : List ExceptHandler} {l' : List Cla}, Clas X hs' l' → wList X.K Wout D l' cls d σ' H' → wpAny (model X.prog X.w) X.A (handleBy (.ref a) X.env hs') (SP X pins D) X.xe { s' with heap := h3 } := by
      intro hs' l' hk
      induction hk with
      | nil =>
        intro w
        refine wpAny_handleBy_nil ?_
        obtain ⟨_, _, _, oe, vs, T, oT, ts', he, hz, hd, g1, hr⟩ := id fl3
        unfold PySem.passOn
        refine wpAny_bind (wpAny_field he hd g1 ?_)
        rw [if_neg (show ¬ ((Value.ref T == Value.none) = true) from nofun)]
        have fin : wpAny (model X.prog X.w) X.A (setFlight (.ref a) X.env.frame) (fun _ s4 => wpAny (model X.prog X.w) X.A (throw (.ref a) : Sem Flow) (SP X pins D) X.xe s4) X.xe { s' with heap := h3 } := by
          rw [hf]
          exact HandSPX.setFlight_upZ fl3 fun h4 hh4 up4 => wpAny_throw (tk _ _ ⟨a, B, sI, pins, σ', H', cls, d, rfl, J, nb, (up.trans up3).trans up4, .inr (.inr (by rw [hs]; exact hh4)), na, os, ag, w⟩)
        first
          | exact wpAny_bind (wpAny_pure (wpAny_bind fin))
          | exact wpAny_bind fin
      | @cons x n c i ts b1 bs np p hds2 l2 hi hln hc hsu r ih =>
        intro w
        obtain ⟨b, hb1, hyes, hno⟩ := w
        refine wpAny_handleBy_cons (codeAny_handlers_test ?_) nofun
        have LT : PySem.W.Looks (model X.prog X.w) h3 (typeOf (.ref a)) cls := fun A Q E s k q => wpAny_typeOf_ref (k _ _ he3) (hz3.1 ▸ q)
        have LM := PySem.W.exm_one (M := model X.prog X.w) J3.kIn LT hb1
        have test : ∀ {Q : Value → Shared → Prop} {E : Value → Shared → Prop}, Q c { s' with heap := h3 } → wpAny (model X.prog X.w) (X.A.mark (some (.ref a))) (eval (.Name x np) X.env) Q E { s' with heap := h3 } := fun {Q E} q => by
          obtain ⟨hg, hdbg, hm | ⟨hm, hv, hnn⟩⟩ := hc
          · exact ld_glob (X := X.suite a ((a, oe3) :: (X.pn ++ pins))) S3 hg hm q hdbg
          · exact ld_blt (X := X.suite a ((a, oe3) :: (X.pn ++ pins))) S3 hg hm hv q hnn hdbg
        refine test (LM.here ?_)
        cases b with
        | false =>
          show wpAny _ X.A (handleBy (.ref a) X.env hds2) _ _ _
          exact ih (hno rfl)
        | true =>
          refine codeAny_handlers_suite_as ?_
          refine HandSPX.lands_againZ fl3 fun h4 fl4 up4 => ?_
          have J4 : Inv X pins σ' H' { s' with heap := h4 } := J.landed nb fl4.1 ((up.trans up3).trans up4) os ag
          obtain ⟨oe4, vs4, he4, hz4, hd4⟩ := fl4.there
          refine store_ok (X := X.suite a ((a, oe4) :: (X.pn ++ pins))) (v := .ref a) (J4.suite he4 hd4 na nL nF) hN hi (.inl hln) rfl (fun s5 S5 => ?_) (.inr hln)
          refine wpAny_mono ((hsu a oe4 cls d (X.pn ++ pins) hz4 ⟨_, hd4⟩).run [] s5 _ H' _ S5 (hyes rfl a na)) (fun f s6 hsp => ?_) (fun _ _ z => z.elim)
          have end_ : ∀ {σ6 : St} {H6 : Hp} {Q : Shared → Prop}, Inv (X.suite a ((a, oe4) :: (X.pn ++ pins))) [] σ6 H6 s6 → (∀ s7, Inv X pins (σ6.set i none) H6 s7 → Q s7) →
              wpAny (model X.prog X.w) X.A (do bindName X.env n .none; unbindBehindTheSuite X.env n p) (fun _ s7 => Q s7) X.xe s6 := fun S6 hq => gone_ok (S6.unsuite ok) hN hi hln hq
          cases f with
          | next =>
            obtain ⟨_, _, S6, q6⟩ := hsp
            exact end_ S6 fun _ J7 => ⟨_, _, J7, q6⟩
          | brk =>
            obtain ⟨_, _, S6, q6⟩ := hsp
            exact end_ S6 fun _ J7 => ⟨_, _, J7, q6⟩
          | cont =>
            obtain ⟨_, _, S6, q6⟩ := hsp
            exact end_ S6 fun _ J7 => ⟨_, _, J7, q6⟩
          | ret u =>
            obtain ⟨_, _, _, S6, r6, q6⟩ := hsp
            exact end_ S6 fun _ J7 => ⟨_, _, _, J7, r6, q6⟩
    exact each hh w
  · cases f with
    | next =>
      obtain ⟨_, _, J', q⟩ := hsp
      exact wpAny_execs_nil ⟨_, _, J'.ofTry ok, q⟩
    | brk =>
      obtain ⟨_, _, J', q⟩ := hsp
      exact ⟨_, _, J'.ofTry ok, q⟩
    | cont =>
      obtain ⟨_, _, J', q⟩ := hsp
      exact ⟨_, _, J'.ofTry ok, q⟩
    | ret u =>
      obtain ⟨_, _, _, J', r, q⟩ := hsp
      exact ⟨_, _, _, J'.ofTry ok, r, q⟩
end L2N
namespace Cl
open PySem PySem.Spec PyProof.Rows L2
theorem cxUpN {P : Program} {w : World} : StX.CXUp (L2N.CX P w) := by
  rintro outer s H s2 H2 E e s' un kp ho ⟨a, B, H', cls, d, ea, fl, hok, ub, na, os, ag, he⟩
  refine ⟨a, B, H', cls, d, ea, fl, hok, ?_, na, os.trans ho, ag, he⟩
  exact { keep := fun b o q n hb => ub.keep b o (kp b o q) (un.free b o q n (by simp)) hb
          slot := fun b o q hb => ub.slot b o (kp b o q) hb
          free := fun b o q n => ub.free b o (kp b o q) (un.free b o q n (by simp))
          there := fun b o q hb => ub.there b o (kp b o q) hb
          tups := fun b xs q => ub.tups b xs (un.tups b xs q)
          frzs := fun b o xs q => ub.frzs b o xs (un.frzs b o xs q)
          tbls := fun b ps q => by
            obtain ⟨m1, e1⟩ := un.tbls b ps q
            obtain ⟨m2, e2⟩ := ub.tbls b _ e1
            exact ⟨m1 ++ m2, by rw [e2, Array.append_assoc]⟩ }
section
variable {X : Cx} {CX : CXT} {k : Nat} {f C : Addr} {sp : Sp} {E : L2.St → XK} {x : Str} {e : Expr} {es : List Expr} {t : TA} {p pos : Pos}
def tMakeS (C : Addr) (sp : Sp) (E : L2.St → XK) (t : TA) : TE := fun σ H Q => t σ H fun vs H1 => ∀ x dx, H1 x = none → H1 dx = none → dx ≠ x →
  sp (V.ref x :: vs) (upd (upd H1 dx (.own x)) x (.ins C dx [])) (fun v H2 => v = .non ∧ Q (.ref x) H2) (E σ)
theorem run_makeS {pins : List (Addr × Obj)} {σ : L2.St} {H : Hp} {s : Shared} {Q : VK} {us : List Value} {vs : List V} (M : Mk X.K C f) (F : FnR X.prog X.w X.K X.mg X.base CX k f sp) (hr : Room (k + 1) X.A) (hx : PassesAt CX X σ (E σ)) (I : Inv X pins σ H s) (r : Vals vs us)
    (h : ∀ x dx, H x = none → H dx = none → dx ≠ x → sp (V.ref x :: vs) (upd (upd H dx (.own x)) x (.ins C dx [])) (fun v H2 => v = .non ∧ Q (.ref x) H2) (E σ)) :
    wpAny (model X.prog X.w) X.A (call (.ref C) us) (EP X pins σ Q) X.xe s := by
  have hq := h (s.heap.objs.size + 1) s.heap.objs.size (I.hok.fresh (Nat.le_succ _)) (I.hok.fresh (Nat.le_refl _)) (Nat.ne_of_lt (Nat.lt_succ_self _))
  have I2 := Inv.made (C := C) I
  refine wpAny_call (make_map (f := f) I.kIn M.makes M.init (beq_iff_eq.mp M.fn) (codeAny_mono (F _ X.stack _ _ (Value.ref (s.heap.objs.size + 1) :: us) _ _ (E σ) (hr.make C us []) (I2.env0.make C us []) (show Vals (V.ref (s.heap.objs.size + 1) :: vs) (Value.ref (s.heap.objs.size + 1) :: us) from .cons rfl r) hq) fun r s' hq' => ?_))
  cases r with
  | error e => exact hx pins _ _ e s' I2 hq'
  | ok fl =>
    cases fl with
    | ret u =>
      obtain ⟨v, H', I3, rv, ev, q3⟩ := I2.after hq'
      subst ev
      exact ⟨rv, V.ref (s.heap.objs.size + 1), H', I3, rfl, q3⟩
    | _ => exact hq'.elim
theorem pe_makeS (M : Mk X.K C f) (F : FnR X.prog X.w X.K X.mg X.base CX k f sp) (hr : Room (k + 1) X.A) (hg : Gl X x) (hm : X.mg x = some (.ref C)) (hx : ∀ σ, PassesAt CX X σ (E σ)) (ha : PA X (e :: es) t) (hdb : (x == ("__debug__" : Str)) = false := by decide)
    (he : starEach (e :: es) X.env = (false, eval e X.env) :: starEach es X.env := by rfl) (hpl : (backTo pos (starEach es X.env)).any (·.1) = false := by rfl) : PE X (.Call (.Name x p) (e :: es) [] pos) (tMakeS C sp E t) := by
  refine ⟨fun pins s σ H Q I h => wpAny_Call_Name_kw (ld_glob I hg hm ?_ hdb)⟩
  exact PySem.W.callWith_K (h₀ := X.base) I.ok.mod.kin M.kp (thn (ha.run pos pins s σ H _ I h) fun us s1 ⟨vs, H1, I1, r, q⟩ => ⟨I1.kIn, run_makeS M F hr (hx σ) I1 r q⟩) he hpl
theorem pe_makeS0 (M : Mk X.K C f) (F : FnR X.prog X.w X.K X.mg X.base CX k f sp) (hr : Room (k + 1) X.A) (hg : Gl X x) (hm : X.mg x = some (.ref C)) (hx : ∀ σ, PassesAt CX X σ (E σ)) (hdb : (x == ("__debug__" : Str)) = false := by decide) :
    PE X (.Call (.Name x p) [] [] pos) (tMakeS C sp E tNil) :=
  ⟨fun pins s σ H Q I h => wpAny_Call_Name_kw (ld_glob I hg hm (PySem.W.callWith_K0 I.kIn M.kp (run_makeS (us := []) M F hr (hx σ) I .nil h)) hdb)⟩
end
theorem toR {P : Program} {w : World} {K : PySem.W.Frag} {mg : Str → Option Value} {base : Heap} {CX : CXT} {k : Nat} {f : Addr} {fd : FuncData} {ps : List Str} {sp : Sp} (F : FnOk P w K mg base CX k f fd ps sp) (hb : Binds K fd ps []) : FnR P w K mg base CX k f sp := by
  intro A outer s H us vs Q E hr e0 r h
  have hl : (us ++ []).length = ps.length := by rw [List.append_nil, ← r.length]; exact F.len _ _ _ _ h
  have z := hb s us (e0.mod.kin.keeps fun b o e => (e0.bs b o e).1) hl
  rw [List.append_nil] at z
  exact F.run A outer s H ⟨us, []⟩ us vs Q E hr e0 z r h
abbrev Alt := Addr → List (Str × V) → L2.St → Hp → VK → Prop
def AltOk (X : Cx) (f : Str) (C : Addr) (r : Alt) : Prop := ∀ (pins : List (Addr × Obj)) (s : Shared) (σ : L2.St) (H : Hp) (a dx : Addr) (fs : List (Str × V)) (Q : VK), Inv X pins σ H s → H a = some (.ins C dx fs) → r a fs σ H Q →
  wpAny (model X.prog X.w) X.A (getAttr (.ref a) f true) (EP X pins σ Q) X.xe s
def tAtt (l : List (Addr × Alt)) (te : TE) : TE := fun σ H Q => te σ H fun x H1 => ∃ (a dx : Addr) (fs : List (Str × V)) (i : Nat) (C : Addr) (r : Alt), x = .ref a ∧ l[i]? = some (C, r) ∧ H1 a = some (.ins C dx fs) ∧ r a fs σ H1 Q
def aFld (f : Str) : Alt := fun _ fs _ H Q => ∃ v, fs.lookup f = some v ∧ Q v H
def aCon (f : Str) (v : V) : Alt := fun _ fs _ H Q => fs.lookup f = none ∧ Q v H
def aProp (sp : Sp) : Alt := fun a _ _ H Q => sp [.ref a] H Q E0
section
variable {X : Cx} {f : Str} {C : Addr} {e : Expr} {te : TE} {pos : Pos}
theorem alt_fld (c : Cls X.K C) (n : NoAttr X.K C f) : AltOk X f C (aFld f) := fun pins s σ H a dx fs Q I ha ⟨v, l, q⟩ => getattr_ok I ha c n l fun u s' I' r => ⟨v, H, I', r, q⟩
theorem alt_con {v : V} {u : Value} (c : Cls X.K C) (n : Con X.K C f v u) : AltOk X f C (aCon f v) := fun pins s σ H a dx fs Q I ha ⟨l, q⟩ => getcon_ok I ha c n l fun s' I' => ⟨v, H, I', n.rel, q⟩
theorem alt_prop {CX : CXT} {k : Nat} {p g : Addr} {fd : FuncData} {ps : List Str} {sp : Sp} (c : Cls X.K C) (hp : PropOf X.K C f p g) (F : FnOk X.prog X.w X.K X.mg X.base CX k g fd ps sp) (hr : Room (k + 1) X.A) (hb : Binds X.K fd ps []) (hx : Passes CX X.nox E0) : AltOk X f C (aProp sp) :=
  fun pins s σ H a dx fs Q I ha q => getprop_ok I ha c hp F hr hb .nil hx q
inductive Alts (X : Cx) (f : Str) : List (Addr × Alt) → Prop
  | nil : Alts X f []
  | cons {C : Addr} {r : Alt} {l : List (Addr × Alt)} : AltOk X f C r → Alts X f l → Alts X f ((C, r) :: l)
theorem Alts.at {l : List (Addr × Alt)} (h : Alts X f l) : ∀ {i : Nat} {r : Alt}, l[i]? = some (C, r) → AltOk X f C r := by
  induction h with
  | nil => intro i r e; cases e
  | cons h _ ih =>
    intro i r e
    cases i with
    | zero => cases e; exact h
    | succ i => exact ih (by simpa using e)
theorem pe_att {l : List (Addr × Alt)} (h : Alts X f l) (he : PE X e te) (hb : attributeBase e f X.env (eval e X.env) = eval e X.env := by rfl) : PE X (.Attribute e f pos) (tAtt l te) := by
  refine ⟨fun pins s σ H Q I q => attr_of hb (thn (he.run pins s σ H _ I q) fun u s1 ⟨x, H1, I1, rx, a, dx, fs, i, C, r, ex, hl, ha, q1⟩ => ?_)⟩
  subst ex
  obtain rfl : u = Value.ref a := rx
  exact h.at hl pins s1 σ H1 a dx fs Q I1 ha q1
def sAtt (l : List Addr) (ta tv : TE) (f : Str) : TS := fun D σ H => tv σ H fun y H1 => ta σ H1 fun x H2 => ∃ a C dx fs, x = .ref a ∧ C ∈ l ∧ H2 a = some (.ins C dx fs) ∧ fs.length < 1000 ∧ D.nx σ (upd H2 a (.ins C dx (putF f y fs)))
theorem ps_att {l : List Addr} {o value : Expr} {ta tv : TE} {pos' : Pos} (h : ∀ C ∈ l, Cls X.K C ∧ NoAttr X.K C f) (ha : PE X o ta) (hv : PE X value tv) (hs : swapsWith value (some (.Attribute o f pos')) pos.line X.env = pure false := by rfl) : PS X (.Assign [.Attribute o f pos'] value pos) (sAtt l ta tv f) := by
  refine ⟨fun pins s σ H D I q => plainObj_wpAny_Assign_Attribute (thn (hv.run pins s σ H _ I q) fun u s1 ⟨y, H1, I1, ry, q1⟩ => thn (ha.run pins s1 σ H1 _ I1 q1) fun ov s2 ⟨x, H2, I2, rx, a, C, dx, fs, ex, hC, ea, l1, q2⟩ => ?_) hs⟩
  subst ex
  obtain rfl : ov = Value.ref a := rx
  exact setattr_ok I2 ea (h C hC).1 (h C hC).2 l1 ry fun s3 I3 => ⟨σ, _, I3, q2⟩
def tCls (v : V) : TE := fun _ H Q => Q v H
theorem pe_cls {mc : Value} {v : V} {u : Value} {x : Str} {p : Pos} (r : ClX.CRead X.K C mc) (k : ClX.CVal X.K C mc f v u) (hg : Gl X x) (hm : X.mg x = some (.ref C)) (hd : (x == ("__debug__" : Str)) = false := by decide) (hb : attributeBase (.Name x p) f X.env (eval (.Name x p) X.env) = eval (.Name x p) X.env := by rfl) : PE X (.Attribute (.Name x p) f pos) (tCls v) :=
  ⟨fun pins s σ H Q I q => attr_of hb (ld_glob I hg hm (ClX.getcval_ok I r k fun s2 I2 => ⟨v, H, I2, k.rel, q⟩) hd)⟩
end
end Cl
namespace L2
open PySem PySem.Spec PyProof.Rows
end L2
namespace Hk
open PySem PySem.W PySem.Spec PyProof.Rows L2 He
def conB (K : Frag) (C : Addr) (f : PySem.Str) (i : Int) : Bool := match findIn K (.ref C) f with
  | some (some (.int j t)) => decide (j = i) && eqO (specialIn K (.int j t) "__get__") (some none)
  | _ => false
theorem conB_ok {K : Frag} {C : Addr} {f : PySem.Str} {i : Int} (h : conB K C f i = true) (cp : copiedNames.contains f = false) : ∃ u, Con K C f (.int i) u := by
  unfold conB at h
  split at h
  · rename_i j t e
    obtain ⟨h1, h2⟩ := ba h
    have e1 := of_decide_eq_true h1
    subst e1
    exact ⟨_, e, ⟨t, rfl⟩, eqO_ok h2, cp⟩
  · cases h
def cvalB (K : Frag) (C : Addr) (f : PySem.Str) (i : Int) : Bool := readsIn K C (.type "type") && (eqO (specialIn K (.ref C) "__getattribute__") (some (some (.builtin "type.__getattribute__"))) && (match findCls K (.ref C) (.type "type") f with
  | some (.val (.int j _)) => decide (j = i)
  | _ => false))
theorem cvalB_ok {K : Frag} {C : Addr} {f : PySem.Str} {i : Int} (h : cvalB K C f i = true) : ClX.CRead K C (.type "type") ∧ ∃ u, ClX.CVal K C (.type "type") f (.int i) u := by
  unfold cvalB at h
  obtain ⟨h1, h⟩ := ba h
  obtain ⟨h2, h3⟩ := ba h
  refine ⟨⟨h1, eqO_ok h2⟩, ?_⟩
  split at h3
  · rename_i j t e
    have e1 := of_decide_eq_true h3
    subst e1
    exact ⟨_, e, ⟨t, rfl⟩⟩
  · cases h3
structure InsK (K : Frag) (C : Addr) : Prop where
  cl : Cls K C
  ha : findIn K (.ref C) "__class__" = some (some (.builtin "object.__class__"))
  hn : specialIn K (.builtin "object.__class__") "__get__" = some (some (.builtin "getset_descriptor.__get__"))
  ht : takesIn K (.builtin "object.__class__") = some true
  hm : mroIn K C (.type "object") = some true
theorem InsK.ty {K : Frag} {C a dx : Addr} {fs : List (PySem.Str × V)} {H : Hp} (k : InsK K C) (h : H a = some (.ins C dx fs)) : TyX K H (.ref a) (.ref C) := .base (.ins h k.cl k.ha k.hn k.ht k.hm)
def insKB (K : Frag) (C : Addr) : Bool := eqO (findIn K (.ref C) "__class__") (some (some (.builtin "object.__class__"))) && (eqO (specialIn K (.builtin "object.__class__") "__get__") (some (some (.builtin "getset_descriptor.__get__"))) && (decide (takesIn K (.builtin "object.__class__") = some true) && decide (mroIn K C (.type "object") = some true)))
theorem insKB_ok {K : Frag} {C : Addr} (c : Cls K C) (h : insKB K C = true) : InsK K C := by
  unfold insKB at h
  obtain ⟨h1, h⟩ := ba h
  obtain ⟨h2, h⟩ := ba h
  obtain ⟨h3, h4⟩ := ba h
  exact ⟨c, eqO_ok h1, eqO_ok h2, of_decide_eq_true h3, of_decide_eq_true h4⟩
end Hk
namespace Px
open PySem PySem.Spec PyProof.Rows L2
def rSortedT (K : PySem.W.Frag) : List V → Hp → VK → Prop := fun vs H Q => ∃ (a : Addr) (xs : List Str), vs = [V.ref a] ∧ SqL K H a (xs.map V.str) ∧ ∀ (ys : List Str) (p : Addr), ys.Perm xs → sortedS ys = true → H p = none → Q (.ref p) (upd H p (.lst (ys.map V.str)))
def rSortAny (K : PySem.W.Frag) : List V → Hp → VK → Prop := fun vs H Q => rSortedT K vs H Q ∨ rSortedI K vs H Q
theorem cr_sortedP2 {X : Cx} : CallR X (.builtin "sorted") (rSortAny X.K) := by
  intro pins s σ H vs us Q I r h
  rcases h with ⟨a, xs, rfl, hs, q⟩ | h
  · obtain ⟨its, rv, hl, hz⟩ := I.list hs
    obtain ⟨u, rfl, ru⟩ := vals1 r
    cases ru
    refine PyProof.Rows.sorted_strsAny hl.isList rv.strs (by rw [← rv.length]; exact hz) fun out ys h1 h2 h3 => ?_
    obtain ⟨ep, he'⟩ := PyProof.Rows.sortedAll_at s.heap its out
    have hlen : (ys.map V.str).length ≤ sizeLine := by
      rw [List.length_map] at hz ⊢
      rw [h2.length_eq]
      exact hz
    exact ⟨.ref _, upd H (s.heap.objs.size + 1) (.lst (ys.map V.str)), I.laid (t' := s.toks) (fun _ _ => PyProof.Rows.sortedAll_old) (Nat.le_succ _) ⟨hlen, out.toList, ep, vals_of_strs h1, he'⟩, rfl, q ys _ h2 h3 (I.hok.fresh (Nat.le_succ _))⟩
  · exact cr_sortedI pins s σ H vs us Q I r h
section
variable {K : PySem.W.Frag} {σ : L2.St} {H H1 : Hp} {D : Ends} {Q : VK} {t : TA} {te to ta tv : TE} {v x y : V} {p : Addr} {xs : List V}
theorem s_bm {T : String} {r : V → List V → Hp → VK → Prop} (h : to σ H fun x H1 => tyV K T x H1 ∧ t σ H1 fun xs H2 => r x xs H2 Q) : tBM K T r to t σ H Q := h
theorem s_tyL {r : V → List V → Hp → VK → Prop} (hp : H p = some (.lst xs)) (h : t σ H fun xs H2 => r (.ref p) xs H2 Q) : tyV K "list" (.ref p) H ∧ t σ H fun xs H2 => r (.ref p) xs H2 Q := ⟨.inl ⟨rfl, _, SqL.of hp⟩, h⟩
theorem s_app (hp : H p = some (.lst xs)) (hl : xs.length ≤ 1000000) (h : Q .non (upd H p (.lst (xs ++ [y])))) : rAppend (.ref p) [y] H Q := ⟨p, xs, y, rfl, rfl, hp, by rw [sizeLine_eq]; omega, h⟩
theorem s_inL {neg : Bool} (hp : H p = some (.lst xs)) (fx : flatV x = true) (fs : xs.all flatV = true) (h : Q (.bl (tgtIn neg (inV x xs))) H) : rInP K neg x (.ref p) H Q := .inl ⟨p, xs, rfl, .inl (SqL.of hp), fx, fs, h⟩
theorem s_inT {neg : Bool} (hp : H p = some (.tup xs)) (fx : flatV x = true) (fs : xs.all flatV = true) (h : Q (.bl (tgtIn neg (inV x xs))) H) : rInP K neg x (.ref p) H Q := .inl ⟨p, xs, rfl, .inr (SqT.of hp), fx, fs, h⟩
theorem flat_strs (ss : List Str) : (ss.map V.str).all flatV = true := by rw [List.all_map]; exact List.all_eq_true.mpr fun _ _ => rfl
theorem inV_strs (z : Str) (ss : List Str) : inV (.str z) (ss.map V.str) = decide (z ∈ ss) := by
  unfold inV
  rw [List.any_map, Bool.eq_iff_iff, List.any_eq_true, decide_eq_true_iff]
  constructor
  · rintro ⟨y, hy, e⟩
    have e2 : (y == z) = true := e
    rw [← eq_of_beq e2]
    exact hy
  · intro h
    exact ⟨z, h, show (z == z) = true from beq_self_eq_true z⟩
theorem inV_ints (z : Int) (ss : List Int) : inV (.int z) (ss.map V.int) = decide (z ∈ ss) := by
  unfold inV
  rw [List.any_map, Bool.eq_iff_iff, List.any_eq_true, decide_eq_true_iff]
  constructor
  · rintro ⟨y, hy, e⟩
    have e2 : (y == z) = true := e
    rw [← eq_of_beq e2]
    exact hy
  · intro h
    exact ⟨z, h, show (z == z) = true from beq_self_eq_true z⟩
theorem s_strS {z : Str} (h : Q (.str z) H) : rStrP [.str z] H Q := h
theorem s_make {C : Addr} {sp : Sp} {E : L2.St → XK} (h : t σ H fun vs H1 => ∀ x dx, H1 x = none → H1 dx = none → dx ≠ x → sp (V.ref x :: vs) (upd (upd H1 dx (.own x)) x (.ins C dx [])) (fun v H2 => v = .non ∧ Q (.ref x) H2) (E σ)) : Cl.tMakeS C sp E t σ H Q := h
theorem s_cls {v : V} (h : Q v H) : Cl.tCls v σ H Q := h
theorem s_att {l : List (Addr × Cl.Alt)} (h : te σ H fun x H1 => ∃ (a dx : Addr) (fs : List (Str × V)) (i : Nat) (C : Addr) (r : Cl.Alt), x = .ref a ∧ l[i]? = some (C, r) ∧ H1 a = some (.ins C dx fs) ∧ r a fs σ H1 Q) : Cl.tAtt l te σ H Q := h
theorem s_setA {l : List Addr} {f : Str} (h : tv σ H fun y H1 => ta σ H1 fun x H2 => ∃ a C dx fs, x = .ref a ∧ C ∈ l ∧ H2 a = some (.ins C dx fs) ∧ fs.length < 1000 ∧ D.nx σ (upd H2 a (.ins C dx (putF f y fs)))) : Cl.sAtt l ta tv f D σ H := h
end
end Px
namespace Cl
open PySem PySem.Spec PyProof.Rows L2
abbrev R2S := L2.St → R2
def OpS (X : Cx) (f : Value → Value → Sem Value) (r : R2S) : Prop := ∀ (pins : List (Addr × Obj)) (s : Shared) (σ : L2.St) (H : Hp) (x y : V) (v u : Value) (Q : VK), Inv X pins σ H s → RelV x v → RelV y u → r σ x y H Q → wpAny (model X.prog X.w) X.A (f v u) (EP X pins σ Q) X.xe s
def tOpS (r : R2S) (ta tb : TE) : TE := fun σ H Q => ta σ H fun x H1 => tb σ H1 fun y H2 => r σ x y H2 Q
section
variable {X : Cx} {CX : CXT} {k : Nat} {f C : Addr} {sp : Sp} {E : L2.St → XK} {a b : Expr} {ta tb : TE} {pos : Pos} {r : R2S}
theorem pe_opS {op : Operator} (ho : OpS X (binaryOp op) r) (ha : PE X a ta) (hb : PE X b tb) : PE X (.BinOp a op b pos) (tOpS r ta tb) :=
  ⟨fun pins s σ H Q I h => wpAny_BinOp (binT ha hb I h fun v u s2 x y H2 I2 rx ry q => ho pins s2 σ H2 x y v u Q I2 rx ry q)⟩
theorem pe_cmpS {op : CmpOp} (ho : OpS X (compareOp op) r) (ha : PE X a ta) (hb : PE X b tb) (hm : behindInMarks op b = false) : PE X (.Compare a [op] [b] pos) (tOpS r ta tb) :=
  ⟨fun pins s σ H Q I h => wpAny_Compare1 (binT ha hb I h fun v u s2 x y H2 I2 rx ry q => ho pins s2 σ H2 x y v u Q I2 rx ry q) hm⟩
theorem pt_cmpS {op : CmpOp} (ho : OpS X (compareOp op) r) (ha : PE X a ta) (hb : PE X b tb) (hm : behindInMarks op b = false) : PT X (.Compare a [op] [b] pos) (tTest (tOpS r ta tb)) := by
  refine ⟨fun pins s σ H Q I h => wpAny_isTrue_Compare1 (thn (ha.run pins s σ H _ I h) fun v s1 ⟨x, H1, I1, r1, q1⟩ => thn (hb.run pins s1 σ H1 _ I1 q1) fun u s2 ⟨y, H2, I2, r2, q2⟩ => thn (ho pins s2 σ H2 x y v u _ I2 r1 r2 q2) fun c s3 ⟨z, H3, I3, r3, k, e, q3⟩ => ?_) hm⟩
  subst e
  cases r3
  exact wpAny_truthy_bool ⟨H3, I3, q3⟩
theorem run_RS {pins : List (Addr × Obj)} {σ : L2.St} {H : Hp} {s : Shared} {Q : VK} {us : List Value} {vs : List V} (F : FnR X.prog X.w X.K X.mg X.base CX k f sp) (hr : Room k X.A) (hx : PassesAt CX X σ (E σ)) (I : Inv X pins σ H s) (rv : Vals vs us) (h : sp vs H Q (E σ)) :
    wpAny (model X.prog X.w) X.A (call (.ref f) us) (EP X pins σ Q) X.xe s := by
  refine wpAny_call (codeAny_mono (F X.A X.stack s H us vs Q (E σ) hr I.env0 rv h) fun r s' hq => ?_)
  cases r with
  | error e => exact hx pins H s e s' I hq
  | ok fl =>
    cases fl with
    | ret u => exact I.after hq
    | _ => exact hq.elim
theorem run_RS1 {pins : List (Addr × Obj)} {σ : L2.St} {H : Hp} {s : Shared} {Q : VK} {us : List Value} {vs : List V} (F : FnR X.prog X.w X.K X.mg X.base CX k f sp) (hr : Room (k + 1) X.A) (hx : PassesAt CX X σ (E σ)) (I : Inv X pins σ H s) (rv : Vals vs us) (h : sp vs H Q (E σ)) :
    wpAny (model X.prog X.w) X.A.in1 (call (.ref f) us) (EP X pins σ Q) X.xe s := by
  refine wpAny_call (codeAny_mono (F X.A.in1 X.stack s H us vs Q (E σ) hr.in1 I.env0.in1 rv h) fun r s' hq => ?_)
  cases r with
  | error e => exact hx pins H s e s' I hq
  | ok fl =>
    cases fl with
    | ret u => exact I.after hq
    | _ => exact hq.elim
theorem back_of {pins : List (Addr × Obj)} {σ : L2.St} {Q : VK} {v : Value} {s' : Shared} (h : EP X pins σ Q v s') : PySem.W.CmpBack (EP X pins σ Q) v s' := by
  obtain ⟨x, H', I, rv, q⟩ := id h
  unfold PySem.W.CmpBack
  cases v <;> first
    | exact h
    | (exfalso; cases x <;> first
        | (cases rv; done)
        | (obtain ⟨_, e⟩ := rv; cases e))
def AltB (X : Cx) (f : Value → Value → Sem Value) (C : Addr) (sp : Sp) (E : L2.St → XK) : Prop := ∀ (pins : List (Addr × Obj)) (s : Shared) (σ : L2.St) (H : Hp) (a b dx dy : Addr) (fs gs : List (Str × V)) (Q : VK), Inv X pins σ H s → H a = some (.ins C dx fs) → H b = some (.ins C dy gs) → sp [.ref a, .ref b] H Q (E σ) →
  wpAny (model X.prog X.w) X.A (f (.ref a) (.ref b)) (EP X pins σ Q) X.xe s
structure OwnOp (K : PySem.W.Frag) (C : Addr) (m : Str) (f : Addr) : Prop where
  at_ : PySem.W.findIn K (.ref C) m = some (some (.ref f))
  fn : PySem.W.isFn K (.ref f) = true
  sf : PySem.W.selfFirst K C = true
theorem alt_bin {op : Operator} {md : Str} (e : PySem.dunder op.info.2 = md) (o : OwnOp X.K C md f) (F : FnR X.prog X.w X.K X.mg X.base CX k f sp) (hr : Room k X.A) (hx : ∀ σ, PassesAt CX X σ (E σ)) : AltB X (binaryOp op) C sp E := by
  subst e
  intro pins s σ H a b dx dy fs gs Q I ha hb h
  obtain ⟨mA, J, _⟩ := ins_get I.hok ha
  obtain ⟨mB, J', _⟩ := ins_get I.hok hb
  obtain ⟨od, J, _⟩ := J.look
  obtain ⟨od', J', _⟩ := J'.look
  obtain ⟨m, hF⟩ := I.fr
  exact PySem.W.binop_K hF I.ok.mod.kin J J'.type o.sf o.at_ o.fn (wpAny_mono (run_RS F hr (hx σ) I (show Vals [V.ref a, V.ref b] [Value.ref a, Value.ref b] from .cons rfl (.cons rfl .nil)) h) (fun _ _ z => back_of z) fun _ _ z => z)
theorem alt_cmp {op : CmpOp} {md : Str} (e : (cmpInfo op).2.1 = md) (o : OwnOp X.K C md f) (F : FnR X.prog X.w X.K X.mg X.base CX k f sp) (hr : Room k X.A) (hx : ∀ σ, PassesAt CX X σ (E σ)) (hop : ∀ x y, compareOp op x y = richCompare op x y := by intro x y; rfl) : AltB X (compareOp op) C sp E := by
  subst e
  intro pins s σ H a b dx dy fs gs Q I ha hb h
  obtain ⟨mA, J, _⟩ := ins_get I.hok ha
  obtain ⟨mB, J', _⟩ := ins_get I.hok hb
  obtain ⟨od, J, _⟩ := J.look
  obtain ⟨od', J', _⟩ := J'.look
  obtain ⟨m, hF⟩ := I.fr
  rw [hop]
  exact PySem.W.cmp_K (op := op) (tb := .ref C) hr.units0 hF I.ok.mod.kin J J'.type (by simp [PySem.W.notFirst]) o.at_ o.fn (wpAny_mono (run_RS F hr (hx σ) I (show Vals [V.ref a, V.ref b] [Value.ref a, Value.ref b] from .cons rfl (.cons rfl .nil)) h) (fun _ _ z => back_of z) fun _ _ z => z)
inductive AltBs (X : Cx) (f : Value → Value → Sem Value) (E : L2.St → XK) : List (Addr × Sp) → Prop
  | nil : AltBs X f E []
  | cons {C : Addr} {sp : Sp} {l : List (Addr × Sp)} : AltB X f C sp E → AltBs X f E l → AltBs X f E ((C, sp) :: l)
theorem AltBs.at {g : Value → Value → Sem Value} {l : List (Addr × Sp)} (h : AltBs X g E l) : ∀ {i : Nat}, l[i]? = some (C, sp) → AltB X g C sp E := by
  induction h with
  | nil => intro i e; cases e
  | cons h _ ih =>
    intro i e
    cases i with
    | zero => cases e; exact h
    | succ i => exact ih (by simpa using e)
def rOwn2 (l : List (Addr × Sp)) (E : L2.St → XK) (base : R2) : R2S := fun σ x y H Q => base x y H Q ∨ ∃ (i : Nat) (C : Addr) (sp : Sp) (a b dx dy : Addr) (fs gs : List (Str × V)), l[i]? = some (C, sp) ∧ x = .ref a ∧ y = .ref b ∧ H a = some (.ins C dx fs) ∧ H b = some (.ins C dy gs) ∧ sp [.ref a, .ref b] H Q (E σ)
theorem op_own {g : Value → Value → Sem Value} {l : List (Addr × Sp)} {base : R2} (h : AltBs X g E l) (hb : OpR X g base) : OpS X g (rOwn2 l E base) := by
  intro pins s σ H x y v u Q I rx ry q
  rcases q with q | ⟨i, C, sp, a, b, dx, dy, fs, gs, hl, rfl, rfl, h1, h2, q⟩
  · exact hb pins s σ H x y v u Q I rx ry q
  · cases rx
    cases ry
    exact h.at hl pins s σ H a b dx dy fs gs Q I h1 h2 q
def AltI (X : Cx) (C : Addr) (sp : Sp) (E : L2.St → XK) : Prop := ∀ (neg : Bool) (pins : List (Addr × Obj)) (s : Shared) (σ : L2.St) (H : Hp) (x : V) (v : Value) (b dy : Addr) (gs : List (Str × V)) (Q : VK), Inv X pins σ H s → RelV x v → H b = some (.ins C dy gs) → sp [.ref b, x] H (fun z H' => ∃ c, z = .bl c ∧ Q (.bl (Px.tgtIn neg c)) H') (E σ) →
  wpAny (model X.prog X.w) X.A (compareOp (if neg then .NotIn else .In) v (.ref b)) (EP X pins σ Q) X.xe s
theorem alt_in (o : OwnOp X.K C "__contains__" f) (F : FnR X.prog X.w X.K X.mg X.base CX k f sp) (hr : Room k X.A) (hx : ∀ σ, PassesAt CX X σ (E σ)) : AltI X C sp E := by
  intro neg pins s σ H x v b dy gs Q I rx hb h
  obtain ⟨mB, J, _⟩ := ins_get I.hok hb
  obtain ⟨od, J, _⟩ := J.look
  obtain ⟨m, hF⟩ := I.fr
  have go := run_RS F hr (hx σ) I (.cons (show RelV (V.ref b) (Value.ref b) from rfl) (.cons rx .nil)) h
  cases neg with
  | false => exact PySem.W.in_K hF I.ok.mod.kin J o.at_ o.fn (wpAny_mono go (fun r s' ⟨z, H', I', rz, c, ez, q⟩ => by subst ez; cases rz; exact wpAny_truthy_bool ⟨.bl c, H', I', rfl, q⟩) fun _ _ z => z)
  | true => exact PySem.W.notIn_K hF I.ok.mod.kin J o.at_ o.fn (wpAny_mono go (fun r s' ⟨z, H', I', rz, c, ez, q⟩ => by subst ez; cases rz; exact wpAny_truthy_bool ⟨.bl (!c), H', I', rfl, q⟩) fun _ _ z => z)
inductive AltIs (X : Cx) (E : L2.St → XK) : List (Addr × Sp) → Prop
  | nil : AltIs X E []
  | cons {C : Addr} {sp : Sp} {l : List (Addr × Sp)} : AltI X C sp E → AltIs X E l → AltIs X E ((C, sp) :: l)
theorem AltIs.at {l : List (Addr × Sp)} (h : AltIs X E l) : ∀ {i : Nat}, l[i]? = some (C, sp) → AltI X C sp E := by
  induction h with
  | nil => intro i e; cases e
  | cons h _ ih =>
    intro i e
    cases i with
    | zero => cases e; exact h
    | succ i => exact ih (by simpa using e)
def rOwnI (l : List (Addr × Sp)) (E : L2.St → XK) (neg : Bool) (base : R2) : R2S := fun σ x y H Q => base x y H Q ∨ ∃ (i : Nat) (C : Addr) (sp : Sp) (b dy : Addr) (gs : List (Str × V)), l[i]? = some (C, sp) ∧ y = .ref b ∧ H b = some (.ins C dy gs) ∧ sp [.ref b, x] H (fun z H' => ∃ c, z = .bl c ∧ Q (.bl (Px.tgtIn neg c)) H') (E σ)
theorem op_ownI {l : List (Addr × Sp)} {base : R2} {neg : Bool} (h : AltIs X E l) (hb : OpR X (compareOp (if neg then .NotIn else .In)) base) : OpS X (compareOp (if neg then .NotIn else .In)) (rOwnI l E neg base) := by
  intro pins s σ H x y v u Q I rx ry q
  rcases q with q | ⟨i, C, sp, b, dy, gs, hl, rfl, h2, q⟩
  · exact hb pins s σ H x y v u Q I rx ry q
  · cases ry
    exact h.at hl neg pins s σ H x v b dy gs Q I rx h2 q
end
theorem dd_add : PySem.dunder Operator.Add.info.2 = ("__add__" : Str) := by decide +kernel
theorem dd_mul : PySem.dunder Operator.Mult.info.2 = ("__mul__" : Str) := by decide +kernel
theorem dd_eq : (cmpInfo CmpOp.Eq).2.1 = ("__eq__" : Str) := by decide +kernel
end Cl
namespace Cl
open PySem PySem.Spec PyProof.Rows L2
def TiO (t it : Addr) : HO := .ext fun h => h.IsTupleIter it t 0
theorem run_self {P : Program} {w : World} {K : PySem.W.Frag} {mg : Str → Option Value} {base : Heap} {x qual : Str} {params : Arguments} {body : List Stmt} {scope : Scope} {kws : List (Str × V)} {f : Addr} {fd : FuncData} {N : List Str} {k : Nat} (F : FunD K x qual params body scope [] kws f fd) (S : FnScope N ["self"] scope) (hb : Binds K fd ["self"] [])
    {A : Around} {outer : List Env} {s : Shared} {H : Hp} {a : Addr} {Q : VK} {E : XK} (hr : Room (k + 1) A) (e0 : Env0 P w K mg base A outer s H)
    (hbody : ∀ cdv : Value, Room k (A.deeper (envOfC qual scope s.heap.objs.size f cdv)) → ∃ t, PSs (cxOf (L2N.CX P w) P w K mg base N qual scope f cdv A outer s H E) body t ∧ t { nx := fun _ H' => Q .non H', rt := Q } (start N [.ref a]) H) :
    codeAny (model P w) A (.call (.ref f) ⟨[.ref a], []⟩) (CR (L2N.CX P w) outer P w H s Q E) s := by
  obtain ⟨oc, od, dV, kV, doc, pm, an, cdv, ct, osl, rfl, lk, hcd, _, _⟩ := F.ex
  have KX : K.In s.heap := e0.mod.kin.keeps fun b o e => (e0.bs b o e).1
  have lim : s.heap.NoLimit := e0.mod.nolimit.keeps fun b o e => (e0.bs b o e).1
  have rv : Vals [V.ref a] [Value.ref a] := .cons rfl .nil
  have hz := hb s [.ref a] KX rfl
  have hkind : ∀ y ∈ (["self"] : List Str).zip [Value.ref a], scope.names.lookup y.1 = some .local ∨ (scope.names.lookup y.1 = some .cell ∧ ((cellsFrom (s.heap.objs.size + 1) scope.names []).lookup y.1).isSome = true) := fun y hy =>
    (S.par y.1 (List.of_mem_zip hy).1).imp id fun q => ⟨q, PySem.W.cellsFrom_some _ _ _ (.inl q)⟩
  refine codeAny_call_function hr.depth (KX _ _ lk) rfl S.co S.gen rfl (PySem.W.codeRec_of KX hcd) (hz _ _ _ _ ?_)
  refine wpAny_newFunctionEnv_cells S.kind hkind fun env he s1 x1 => ?_
  subst he
  refine ⟨lim.keeps x1.toInCall.keep, codeAny_func ?_⟩
  obtain ⟨t, ht, hq⟩ := hbody cdv (hr.deeper _)
  have I : Inv (cxOf (L2N.CX P w) P w K mg base N qual scope f cdv A outer s H E) [] (start N [.ref a]) H s1 := inv_start S hr.hd e0 rfl rv x1
  refine wpAny_mono (ht.run [] s1 _ H _ I hq) (fun fl s' hs => ?_) fun e s' hs => hs
  cases fl with
  | ret u =>
    obtain ⟨v, σ', H', J, rv, q⟩ := hs
    exact ⟨v, H', J.os, J.bare, J.base, J.hok, rv, q⟩
  | next =>
    obtain ⟨σ', H', J, q⟩ := hs
    exact ⟨V.non, H', J.os, J.bare, J.base, J.hok, rfl, q⟩
  | brk =>
    obtain ⟨_, _, _, q⟩ := hs
    exact q.elim
  | cont =>
    obtain ⟨_, _, _, q⟩ := hs
    exact q.elim
structure IterF (P : Program) (w : World) (K : PySem.W.Frag) (mg : Str → Option Value) (base : Heap) (k : Nat) (C : Addr) (f : Str) : Prop where
  run : ∃ fi : Addr, PySem.W.findIn K (.ref C) "__iter__" = some (some (.ref fi)) ∧ PySem.W.isFn K (.ref fi) = true ∧
    ∀ (A : Around) (outer : List Env) (s : Shared) (H : Hp) (a dx t : Addr) (fs : List (Str × V)) (xs : List V), Room k A → Env0 P w K mg base A outer s H → H a = some (.ins C dx fs) → fs.lookup f = some (.ref t) → SqT K H t xs →
      codeAny (model P w) A (.call (.ref fi) ⟨[.ref a], []⟩) (CR (L2N.CX P w) outer P w H s (fun y H' => ∃ it, y = .ref it ∧ H it = none ∧ s.heap.objs.size ≤ it ∧ H' = upd H it (TiO t it)) E0) s
section
variable {X : Cx} {k : Nat} {C : Addr} {f : Str} {pins : List (Addr × Obj)} {σ : L2.St} {H : Hp} {s : Shared} {a dx t : Addr} {fs : List (Str × V)} {xs : List V}
def spLen (C : Addr) (f : Str) : Sp := fun vs H Q _ => ∃ a dx fs t xs, vs = [.ref a] ∧ H a = some (.ins C dx fs) ∧ fs.lookup f = some (.ref t) ∧ H t = some (.tup xs) ∧ xs.length ≤ 1000000 ∧ Q (.int xs.length) H
end
end Cl
namespace Cl
open PySem PySem.Spec PyProof.Rows L2 Px
def WalkC (X : Cx) (C : Addr) (f : Str) : Prop := ∃ (n : Nat) (fl : Addr), IterF X.prog X.w X.K X.mg X.base n C f ∧ OwnOp X.K C "__len__" fl ∧ FnR X.prog X.w X.K X.mg X.base (L2N.CX X.prog X.w) n fl (spLen C f) ∧ Room (n + 3) X.A
inductive WalkCs (X : Cx) : List (Addr × Str) → Prop
  | nil : WalkCs X []
  | cons {C : Addr} {f : Str} {l : List (Addr × Str)} : WalkC X C f → WalkCs X l → WalkCs X ((C, f) :: l)
section
variable {X : Cx} {l : List (Addr × Str)}
theorem WalkCs.at (h : WalkCs X l) : ∀ {i : Nat} {C : Addr} {f : Str}, l[i]? = some (C, f) → WalkC X C f := by
  induction h with
  | nil => intro i C f e; cases e
  | cons h _ ih =>
    intro i C f e
    cases i with
    | zero => cases e; exact h
    | succ i => exact ih (by simpa using e)
def OwnT (l : List (Addr × Str)) (x : V) (H : Hp) (t : Addr) (xs : List V) : Prop := ∃ (i : Nat) (C : Addr) (f : Str) (a dx : Addr) (fs : List (Str × V)), l[i]? = some (C, f) ∧ x = .ref a ∧ H a = some (.ins C dx fs) ∧ fs.lookup f = some (.ref t) ∧ H t = some (.tup xs) ∧ xs.length ≤ 1000000
def AnyB (K : PySem.W.Frag) (x : V) (H1 : Hp) (R : L2.It → Hp → Prop) : Prop := match x with
  | .str z => R (Its z) H1
  | .ref a => ((∃ xs, SqL K H1 a xs) ∧ R (Itl K a) H1) ∨ ((∃ xs, SqT K H1 a xs) ∧ R (Itt K a) H1)
  | _ => False
def iAnyO (K : PySem.W.Frag) (l : List (Addr × Str)) (te : TE) : TI := fun σ H R => te σ H fun x H1 => AnyB K x H1 R ∨ ∃ t xs, OwnT l x H1 t xs ∧ R (Itt K t) H1
end
end Cl
namespace Hk
open PySem PySem.W PySem.Spec PyProof.Rows L2 He
def ownB (K : Frag) (C : Addr) (m : PySem.Str) : Bool := eqO (findIn K (.ref C) m) (some (some (.ref (ma K C m)))) && (isFn K (.ref (ma K C m)) && selfFirst K C)
theorem ownB_ok {K : Frag} {C : Addr} {m : PySem.Str} (h : ownB K C m = true) : Cl.OwnOp K C m (ma K C m) := by
  unfold ownB at h
  obtain ⟨h1, h⟩ := ba h
  obtain ⟨h2, h3⟩ := ba h
  exact ⟨eqO_ok h1, h2, h3⟩
end Hk
namespace Px
open PySem PySem.Spec PyProof.Rows L2
section
variable {K : PySem.W.Frag} {l : List (Addr × Str)} {σ : L2.St} {H : Hp} {D : Ends} {Q : VK} {te ta tb : TE}
theorem s_opS {r : Cl.R2S} (h : ta σ H fun x H1 => tb σ H1 fun y H2 => r σ x y H2 Q) : Cl.tOpS r ta tb σ H Q := h
def ForBodyO (K : PySem.W.Frag) (l : List (Addr × Str)) (g : TG) (tb : TS) (D : Ends) (σ : L2.St) (x : V) (H1 : Hp) : Prop := ForBody K g tb D σ x H1 ∨ ∃ t xs, Cl.OwnT l x H1 t xs ∧ ForB (Itt K t) g tb D σ H1
theorem s_forO {g : TG} {tb : TS} (h : te σ H fun x H1 => ForBodyO K l g tb D σ x H1) : tFor (Cl.iAnyO K l te) g tb D σ H := h
def LcBodyO (K : PySem.W.Frag) (l : List (Addr × Str)) (g : TG) (tt : TT) (te : TE) (vs : List Nat) (σ : L2.St) (Q : VK) (x : V) (H1 : Hp) : Prop := LcBody K g tt te vs σ Q x H1 ∨ ∃ t xs, Cl.OwnT l x H1 t xs ∧ LcB (Itt K t) g tt te vs σ Q H1
theorem s_lcO {g : TG} {tt : TT} {te0 : TE} {vs : List Nat} (h : te0 σ H fun x H1 => LcBodyO K l g tt te vs σ Q x H1) : tLc (Cl.iAnyO K l te0) g tt te vs σ H Q := h
end
end Px
namespace Cl
open PySem PySem.Spec PySem.Calls PyProof.Rows L2 Px
theorem fnIn_of {K : PySem.W.Frag} {x qual : Str} {params : Arguments} {body : List Stmt} {scope : Scope} {dvs : List V} {kws : List (Str × V)} {f : Addr} {fd : FuncData} (F : FunD K x qual params body scope dvs kws f fd) : PySem.W.fnIn K f = true := by
  obtain ⟨oc, od, dV, kV, doc, pm, an, cdv, ct, osl, rfl, lk, _⟩ := F.ex
  unfold PySem.W.fnIn
  rw [lk]
structure OwnM (X : Cx) (m : Str) (E : L2.St → XK) (C : Addr) (sp : Sp) : Prop where
  cls : Cls X.K C
  ex : ∃ (CX : CXT) (k : Nat) (f : Addr), OwnOp X.K C m f ∧ PySem.W.keepIn X.K (.ref f) = true ∧ PySem.W.fnIn X.K f = true ∧ FnR X.prog X.w X.K X.mg X.base CX k f sp ∧ Room (k + 2) X.A ∧ ∀ σ, PassesAt CX X σ (E σ)
inductive OwnMs (X : Cx) (m : Str) (E : L2.St → XK) : List (Addr × Sp) → Prop
  | nil : OwnMs X m E []
  | cons {C : Addr} {sp : Sp} {l : List (Addr × Sp)} : OwnM X m E C sp → OwnMs X m E l → OwnMs X m E ((C, sp) :: l)
section
variable {X : Cx} {CX : CXT} {k : Nat} {f C : Addr} {sp : Sp} {E : L2.St → XK} {m : Str} {l : List (Addr × Sp)} {o e a b : Expr} {es : List Expr} {ta tb te : TE} {t : TA} {apos pos p : Pos} {x : Str}
theorem OwnMs.at (h : OwnMs X m E l) : ∀ {i : Nat} {C : Addr} {sp : Sp}, l[i]? = some (C, sp) → OwnM X m E C sp := by
  induction h with
  | nil => intro i C sp e; cases e
  | cons h _ ih =>
    intro i C sp e
    cases i with
    | zero => cases e; exact h
    | succ i => exact ih (by simpa using e)
theorem ownM_of {x qual : Str} {params : Arguments} {body : List Stmt} {scope : Scope} {dvs : List V} {kws : List (Str × V)} {fd : FuncData} (c : Cls X.K C) (o : OwnOp X.K C m f) (D : FunD X.K x qual params body scope dvs kws f fd) (F : FnR X.prog X.w X.K X.mg X.base CX k f sp) (hr : Room (k + 2) X.A) (hx : ∀ σ, PassesAt CX X σ (E σ)) : OwnM X m E C sp :=
  ⟨c, CX, k, f, o, D.kp, fnIn_of D, F, hr, hx⟩
def tMethO (l : List (Addr × Sp)) (m : Str) (E : L2.St → XK) (ta : TE) (t : TA) : TE := fun σ H Q => ta σ H fun x H1 => ∃ (i : Nat) (C : Addr) (sp : Sp) (a dx : Addr) (fs : List (Str × V)), l[i]? = some (C, sp) ∧ x = .ref a ∧ H1 a = some (.ins C dx fs) ∧ fs.lookup m = none ∧ t σ H1 fun vs H2 => sp (.ref a :: vs) H2 Q (E σ)
def tCallO (l : List (Addr × Sp)) (E : L2.St → XK) (ta : TE) (t : TA) : TE := fun σ H Q => ta σ H fun x H1 => ∃ a, x = .ref a ∧ t σ H1 fun vs H2 => ∃ (i : Nat) (C : Addr) (sp : Sp) (dx : Addr) (fs : List (Str × V)), l[i]? = some (C, sp) ∧ H2 a = some (.ins C dx fs) ∧ sp (.ref a :: vs) H2 Q (E σ)
def rIxO (l : List (Addr × Sp)) (E : L2.St → XK) (base : R2) : R2S := fun σ x y H Q => base x y H Q ∨ ∃ (i : Nat) (C : Addr) (sp : Sp) (a dx : Addr) (fs : List (Str × V)), l[i]? = some (C, sp) ∧ x = .ref a ∧ H a = some (.ins C dx fs) ∧ sp [.ref a, y] H Q (E σ)
theorem pe_ixO {r : R2} (h : OwnMs X "__getitem__" E l) (hr : IxR X r) (ha : PE X a ta) (hb : PE X b tb) (hs : PlainIx b) (hsl : ∀ o i, subscripted b true (.ref o) i = runValue (.builtin "lifetime.subscript" ⟨[.ref o, i], []⟩)) : PE X (.Subscript a b pos) (tOpS (rIxO l E r) ta tb) := by
  refine ⟨fun pins s σ H Q I hh => ?_⟩
  refine Subscript_ (binT ha hb I hh fun v u s2 x y H2 I2 rx ry q => ?_)
  rcases q with q | ⟨i, C, sp, ad, dx, fs, hl, rfl, hA, q⟩
  · exact hr a b pins s2 σ H2 x y v u Q I2 rx ry q (hs _ _)
  · cases rx
    have M := h.at hl
    obtain ⟨CX, k, f, o, hk, hf, F, hr, hx⟩ := M.ex
    obtain ⟨mA, J, _⟩ := ins_get I2.hok hA
    obtain ⟨od, J, _⟩ := J.look
    obtain ⟨m, hF⟩ := I2.fr
    exact PySem.W.sub_K hF I2.ok.mod.kin J o.at_ hf o.fn (run_RS1 (us := [.ref ad, u]) (vs := [.ref ad, y]) F (hr.mono (by omega)) (hx σ) I2 (.cons rfl (.cons ry .nil)) q) (hsl _ _)
end
end Cl
namespace Hk
open PySem PySem.Spec PySem.W PyProof.Rows L2 He
def propB (K : Frag) (C : Addr) (f : PySem.Str) : Bool := eqO (findIn K (.ref C) f) (some (some (.ref (ma K C f)))) && (eqO (specialIn K (.ref (ma K C f)) "__get__") (some (some (.builtin "property.__get__"))) && (decide (takesIn K (.ref (ma K C f)) = some true) && (match recIn K (ma K C f) "property" with | some (.ref _ :: _) => true | _ => false)))
theorem propB_ok {K : Frag} {C : Addr} {f : PySem.Str} (h : propB K C f = true) : PropOf K C f (ma K C f) (He5.wf K C "property" f) := by
  unfold propB at h
  obtain ⟨h1, h⟩ := ba h
  obtain ⟨h2, h⟩ := ba h
  obtain ⟨h3, h4⟩ := ba h
  refine ⟨eqO_ok h1, eqO_ok h2, of_decide_eq_true h3, ?_⟩
  unfold He5.wf
  split at h4
  · rename_i g r e
    exact ⟨r, by rw [e]⟩
  · cases h4
end Hk
namespace Px
open PySem PySem.Spec PyProof.Rows L2
section
variable {K : PySem.W.Frag} {σ : L2.St} {H : Hp} {Q : VK} {ta te : TE} {t : TA}
theorem s_methO {l : List (Addr × Sp)} {m : Str} {E : L2.St → XK} (h : ta σ H fun x H1 => ∃ (i : Nat) (C : Addr) (sp : Sp) (a dx : Addr) (fs : List (Str × V)), l[i]? = some (C, sp) ∧ x = .ref a ∧ H1 a = some (.ins C dx fs) ∧ fs.lookup m = none ∧ t σ H1 fun vs H2 => sp (.ref a :: vs) H2 Q (E σ)) : Cl.tMethO l m E ta t σ H Q := h
theorem s_callO {l : List (Addr × Sp)} {E : L2.St → XK} (h : ta σ H fun x H1 => ∃ a, x = .ref a ∧ t σ H1 fun vs H2 => ∃ (i : Nat) (C : Addr) (sp : Sp) (dx : Addr) (fs : List (Str × V)), l[i]? = some (C, sp) ∧ H2 a = some (.ins C dx fs) ∧ sp (.ref a :: vs) H2 Q (E σ)) : Cl.tCallO l E ta t σ H Q := h
theorem s_exr {a : Addr} {R : Addr → Prop} (h : R a) : ∃ b, (V.ref a = .ref b) ∧ R b := ⟨a, rfl, h⟩
theorem s_m1 {r : V → List V → Hp → VK → Prop} {z : Str} (h : te σ H fun y H2 => r (.str z) [y] H2 Q) : tM1 r (tC (.str z)) te σ H Q := ⟨⟨z, rfl⟩, h⟩
end
end Px
namespace Cl
open PySem PySem.Spec PySem.Calls PyProof.Rows L2 Px
structure SMet (K : PySem.W.Frag) (C : Addr) (m : Str) (p g : Addr) : Prop where
  rd : ClX.CRead K C (.type "type")
  at_ : PySem.W.findCls K (.ref C) (.type "type") m = some (.get (.builtin "staticmethod.__get__") (.ref p) .none (.ref C))
  rc : ∃ rest, PySem.W.recIn K p "staticmethod" = some (.ref g :: rest)
def tSMeth (C : Addr) (sp : Sp) (E : L2.St → XK) (ta : TE) (t : TA) : TE := fun σ H Q => ta σ H fun x H1 => x = .ref C ∧ t σ H1 fun vs H2 => sp vs H2 Q (E σ)
section
variable {X : Cx} {CX : CXT} {k : Nat} {C p g : Addr} {sp : Sp} {E : L2.St → XK} {o e : Expr} {es : List Expr} {m : Str} {pos apos : Pos} {ta : TE} {t : TA} {pl : Sem Bool}
end
end Cl
namespace Hk
open PySem PySem.Spec PySem.W PyProof.Rows L2 He
end Hk
namespace Px
open PySem PySem.Spec PyProof.Rows L2
theorem s_smeth {σ : L2.St} {H : Hp} {Q : VK} {C : Addr} {sp : Sp} {E : L2.St → XK} {t : TA} (h : t σ H fun vs H2 => sp vs H2 Q (E σ)) : Cl.tSMeth C sp E (tC (.ref C)) t σ H Q := ⟨rfl, h⟩
end Px
namespace L2H
open PySem PySem.Spec PyProof.Rows L2 HotX
structure FnE (P : Program) (w : World) (K : PySem.W.Frag) (mg : Str → Option Value) (base : Heap) (CX : CXT) (k : Nat) (f : Addr) (fd : FuncData) (ps : List Str) (sp : Addr → Value → Option Addr → Sp) : Prop where
  len : ∀ a cls d vs H Q E, sp a cls d vs H Q E → vs.length = ps.length
  run : ∀ (A : Around) (outer : List Env) (s : Shared) (H : Hp) (args : Args) (us : List Value) (vs : List V) (Q : VK) (E : XK) (p : Addr × Obj) (cls : Value) (d : Option Addr), RoomH k A → Hot1 A p → Zc cls d p.2 → PinOk outer H s p → Env0 P w K mg base A outer s H → BindsTo s fd args (ps.zip us) → Vals vs us → sp p.1 cls d vs H Q E →
    codeAny (model P w) A (.call (.ref f) args) (CR CX outer P w H s Q E) s
section
variable {X : Cx} {CX : CXT} {k : Nat} {f a : Addr} {fd : FuncData} {ps : List Str} {sp : Addr → Value → Option Addr → Sp} {E : St → XK} {x : Str} {q pos : Pos} {e : Expr} {es : List Expr} {t : TA} {oe : Obj} {cls : Value} {d : Option Addr} {pn : List (Addr × Obj)}
end
end L2H
namespace L2
open PySem PySem.Spec PyProof.Rows
end L2
namespace Cl
open PySem PySem.Spec PySem.Calls PyProof.Rows L2 Px
end Cl
namespace Hk
open PySem PySem.Spec PySem.W PyProof.Rows L2 He
end Hk
namespace Px
open PySem PySem.Spec PyProof.Rows L2
section
variable {σ : L2.St} {H : Hp} {Q : VK} {te : TE}
end
end Px
namespace Cl
open PySem PySem.Spec PySem.Calls PySem.W PyProof.Rows L2 Px
section
variable {prog : Program} {w : World} {M : Model} {A : Around} {E : Value → Shared → Prop} {s : Shared} {K : PySem.W.Frag} {y C L f g : Addr} {h₀ : Heap} {m : Str → Option Value} {oy : Obj} {od : Option Obj}
theorem int_ref {name : String} {fn : Int → Int → Sem Fin} {i : Int} {tk : Tok} {Q : Value → Shared → Prop} (e : s.heap.get? y = some oy) (hd : oy.data = .plain) (h : Q .notImplemented s) :
    wpAny M A (Builtin.Int.intBinary name fn false ⟨[.int i tk, .ref y], []⟩) (fun fin s' => ∃ v, fin = .done (.ret v) ∧ Q v s') E s := by
  unfold Builtin.Int.intBinary
  refine wpAny_bind (wpAny_pure ?_)
  refine wpAny_bind (wpAny_pure ?_)
  refine wpAny_bind ?_
  show wpAny M A (asInt? (.ref y)) _ E s
  unfold asInt?
  refine wpAny_bind (wpAny_load e ?_)
  simp only [hd]
  refine wpAny_pure ?_
  dsimp only
  refine wpAny_bind (wpAny_rule ?_)
  exact wpAny_pure ⟨_, rfl, h⟩
def NoInt (B : Builtin) : Prop := ∀ (M : Model) (A : Around) (E : Value → Shared → Prop) (s : Shared) (y : Addr) (oy : Obj) (i : Int) (tk : Tok) (Q : Value → Shared → Prop), s.heap.get? y = some oy → oy.data = .plain → Q .notImplemented s → wpAny M A (B ⟨[.int i tk, .ref y], []⟩) (fun fin s' => ∃ v, fin = .done (.ret v) ∧ Q v s') E s
theorem noInt_bin (name : String) (fn : Int → Int → Sem Fin) : NoInt (Builtin.Int.intBinary name fn) := fun _ _ _ _ _ _ _ _ _ e hd h => int_ref e hd h
theorem try_int {name : Str} {id : String} {B : Builtin} {i : Int} {tk : Tok} {Q : Option Value → Shared → Prop} (hB : NoInt B) (e : s.heap.get? y = some oy) (hd : oy.data = .plain) (slot : Slot "int" name id) (entry : entryFor table id = some B) (args : argsOk id ⟨[.int i tk, .ref y], []⟩) (h : Q none s) :
    wpAny (model prog w) A (tryMethod (.int i tk) name (.ref y)) Q E s := by
  unfold tryMethod
  refine wpAny_bind (wpAny_callSpecial?_slot (typeIs_int s i tk) slot (wpAny_call_entry slot (typeIs_int s i tk) entry (hB _ _ _ _ _ _ _ _ (fun v s' => wpAny (model prog w) A (match some v with | some .notImplemented | none => pure none | some v => pure (some v)) Q E s') e hd ?_) args))
  exact wpAny_pure h
theorem rbin1 {op : Operator} {i : Int} {tk : Tok} {id : String} {B : Builtin} {Q : Value → Shared → Prop} (hB : NoInt B) (F : Fr h₀ L s.heap m) (X₀ : K.In h₀) (I : InstAt s.heap y oy C od) (hd : oy.data = .plain) (hc : selfFirst K C = true)
    (hs : findIn K (.ref C) (PySem.dunder op.info.2) = some (some (.ref f))) (hr : findIn K (.ref C) (dunderR op.info.2) = some (some (.ref g))) (hg : isFn K (.ref g) = true) (hsub : subIn K (.ref C) (.type "int") = some false)
    (fills : fillsNumberSlot (.type "int") op.info.2 = pure true) (slot : Slot "int" (PySem.dunder op.info.2) id) (entry : entryFor table id = some B) (args : argsOk id ⟨[.int i tk, .ref y], []⟩)
    (h : wpAny (model prog w) A (call (.ref g) [.ref y, .int i tk]) (PySem.W.CmpBack Q) E s) : wpAny (model prog w) A (binaryOp1 op.info.2 (.int i tk) (.ref y)) (fun r s' => ∃ v, r = some v ∧ Q v s') E s := by
  have X := X₀.keeps F.keep
  obtain ⟨cd, rest, hcd, hm⟩ := ksp_first hc
  rcases hi : op.info with ⟨sym, nm'⟩
  rw [hi] at hs hr fills slot
  dsimp only at hs hr fills slot ⊢
  have one := ksp_try X I hr hg h
  have e := I.at_
  have zero : ∀ {Q : Option Value → Shared → Prop}, Q none s → wpAny (model prog w) A (tryMethod (.int i tk) (PySem.dunder nm') (.ref y)) Q E s := fun h => try_int hB e hd slot entry args h
  obtain ⟨hh, g0, d, tt, os⟩ := s
  have L1 : Looks (model prog w) hh (typeOf (.ref y)) (.ref C) := I.type
  have L3 : Looks (model prog w) hh (fillsNumberSlot (.ref C) nm') true := fills_K X hcd hm hs
  have L4 : Looks (model prog w) hh (fillsNumberSlot (.type "int") nm') true := Looks.of_pure fills
  have L5 : Looks (model prog w) hh (isSubtype (.ref C) (.type "int")) false := looks_subIn X hsub
  have L7 : Looks (model prog w) hh (numberSlotInPython (.type "int") nm') false := Looks.of_pure rfl
  have hne : (Value.type "int" == Value.ref C) = false := Bool.eq_false_iff.mpr fun q => by cases beq_iff_eq.mp q
  unfold binaryOp1
  refine wpAny_bind (wpAny_pure ?_)
  refine wpAny_bind (L1.at (wpAny_bind (L4.at ?_)))
  simp only [hne, Bool.false_eq_true, if_false]
  ksp_lk
  refine zero ?_
  ksp_lk
  refine wpAny_mono one (fun r s' hr' => ?_) fun _ _ e => e
  obtain ⟨v, rfl, hq⟩ := hr'
  ksp_lk
  exact ⟨_, rfl, hq⟩
theorem bin1C {op : Operator} {x : Addr} {ox : Obj} {b : Value} {Q : Value → Shared → Prop} (F : Fr h₀ L s.heap m) (X₀ : K.In h₀) (I : InstAt s.heap x ox C od) (hb : Looks (model prog w) s.heap (typeOf b) (.ref C)) (hc : selfFirst K C = true)
    (hs : findIn K (.ref C) (PySem.dunder op.info.2) = some (some (.ref f))) (hf : isFn K (.ref f) = true)
    (h : wpAny (model prog w) A (call (.ref f) [.ref x, b]) (PySem.W.CmpBack Q) E s) : wpAny (model prog w) A (binaryOp1 op.info.2 (.ref x) b) (fun r s' => ∃ v, r = some v ∧ Q v s') E s := by
  have X := X₀.keeps F.keep
  obtain ⟨cd, rest, hcd, hm⟩ := ksp_first hc
  rcases hi : op.info with ⟨sym, nm'⟩
  rw [hi] at hs
  dsimp only at hs ⊢
  have one := ksp_try X I hs hf h
  obtain ⟨hh, g0, d, tt, os⟩ := s
  have L1 : Looks (model prog w) hh (typeOf (.ref x)) (.ref C) := I.type
  have L2 : Looks (model prog w) hh (typeOf b) (.ref C) := hb
  have L3 : Looks (model prog w) hh (fillsNumberSlot (.ref C) nm') true := fills_K X hcd hm hs
  unfold binaryOp1
  refine wpAny_bind (L1.at (wpAny_bind (L2.at (wpAny_bind (L3.at ?_)))))
  simp only [beq_self_eq_true, if_true]
  ksp_lk
  refine wpAny_mono one (fun r s' hr' => ?_) fun _ _ e => e
  obtain ⟨v, rfl, hq⟩ := hr'
  ksp_lk
  exact ⟨_, rfl, hq⟩
theorem bin1T {op : Operator} {x : Addr} {ox : Obj} {T : String} {b : Value} {fo ro rc : Option Value} {Q : Value → Shared → Prop} (F : Fr h₀ L s.heap m) (X₀ : K.In h₀) (I : InstAt s.heap x ox C od) (hb : typeOf b = pure (.type T)) (hc : selfFirst K C = true)
    (hs : findIn K (.ref C) (PySem.dunder op.info.2) = some (some (.ref f))) (hf : isFn K (.ref f) = true) (hr : findIn K (.ref C) (dunderR op.info.2) = some rc) (hp : rc = none ∨ ∃ g : Addr, rc = some (.ref g))
    (h1 : findIn K (.type T) (PySem.dunder op.info.2) = some fo) (h2 : findIn K (.type T) (dunderR op.info.2) = some ro) (hsub : subIn K (.type T) (.ref C) = some false)
    (h : wpAny (model prog w) A (call (.ref f) [.ref x, b]) (PySem.W.CmpBack Q) E s) : wpAny (model prog w) A (binaryOp1 op.info.2 (.ref x) b) (fun r s' => ∃ v, r = some v ∧ Q v s') E s := by
  have X := X₀.keeps F.keep
  obtain ⟨cd, rest, hcd, hm⟩ := ksp_first hc
  rcases hi : op.info with ⟨sym, nm'⟩
  rw [hi] at hs hr h1 h2
  dsimp only at hs hr h1 h2 ⊢
  have one := ksp_try X I hs hf h
  obtain ⟨hh, g0, d, tt, os⟩ := s
  have L1 : Looks (model prog w) hh (typeOf (.ref x)) (.ref C) := I.type
  have L2 : Looks (model prog w) hh (typeOf b) (.type T) := Looks.of_pure hb
  have L3 : Looks (model prog w) hh (fillsNumberSlot (.ref C) nm') true := fills_K X hcd hm hs
  have L4 : Looks (model prog w) hh (fillsNumberSlot (.type T) nm') ((fo.isSome && !isSeqSlot fo) || (ro.isSome && !isSeqSlot ro)) := ksp_fillsT X h1 h2
  have L5 : Looks (model prog w) hh (isSubtype (.type T) (.ref C)) false := looks_subIn X hsub
  have L6 : Looks (model prog w) hh (numberSlotInPython (.ref C) nm') true := ksp_inPy X hs hr hp
  have L7 : Looks (model prog w) hh (numberSlotInPython (.type T) nm') false := Looks.of_pure rfl
  have L8 : Looks (model prog w) hh (typeLookup (.type T) (dunderR nm')) ro := looks_findIn X h2
  generalize ((fo.isSome && !isSeqSlot fo) || (ro.isSome && !isSeqSlot ro)) = right at L4
  have hne : (Value.ref C == Value.type T) = false := Bool.eq_false_iff.mpr fun q => by cases beq_iff_eq.mp q
  unfold binaryOp1
  refine wpAny_bind (L1.at (wpAny_bind (L2.at (wpAny_bind (L3.at ?_)))))
  simp only [hne, Bool.false_eq_true, if_false]
  cases right with
  | false =>
    ksp_lk
    refine wpAny_mono one (fun r s' hr' => ?_) fun _ _ e => e
    obtain ⟨v, rfl, hq⟩ := hr'
    ksp_lk
    exact ⟨_, rfl, hq⟩
  | true =>
    ksp_lk
    refine wpAny_mono one (fun r s' hr' => ?_) fun _ _ e => e
    obtain ⟨v, rfl, hq⟩ := hr'
    ksp_lk
    exact ⟨_, rfl, hq⟩
theorem bin_of1 {op : Operator} {a b : Value} {Q : Value → Shared → Prop} (h : wpAny (model prog w) A (binaryOp1 op.info.2 a b) (fun r s' => ∃ v, r = some v ∧ Q v s') E s) : wpAny (model prog w) A (binaryOp op a b) Q E s := by
  unfold binaryOp
  refine wpAny_holding (wpAny_bind (wpAny_mono h (fun r s' hr' => ?_) fun _ _ e => e))
  obtain ⟨v, rfl, hq⟩ := hr'
  exact wpAny_pure hq
end
end Cl
namespace Cl
open PySem PySem.Spec PySem.Calls PyProof.Rows L2 Px
structure MixOp (K : PySem.W.Frag) (C : Addr) (op : Operator) (f g : Addr) : Prop where
  at_ : PySem.W.findIn K (.ref C) (PySem.dunder op.info.2) = some (some (.ref f))
  fn : PySem.W.isFn K (.ref f) = true
  sf : PySem.W.selfFirst K C = true
  rat : PySem.W.findIn K (.ref C) (dunderR op.info.2) = some (some (.ref g))
  rfn : PySem.W.isFn K (.ref g) = true
  i1 : ∃ fo, PySem.W.findIn K (.type "int") (PySem.dunder op.info.2) = some fo
  i2 : ∃ ro, PySem.W.findIn K (.type "int") (dunderR op.info.2) = some ro
  s1 : PySem.W.subIn K (.type "int") (.ref C) = some false
  s2 : PySem.W.subIn K (.ref C) (.type "int") = some false
  ni : ∃ cd, PySem.W.clsIn K C = some cd ∧ ∀ c ∈ cd.mro, PySem.W.findIn K c (dunderI op.info.2) = some none
structure IntOp (op : Operator) : Prop where
  fills : fillsNumberSlot (.type "int") op.info.2 = pure true
  ex : ∃ (id : String) (B : Builtin), NoInt B ∧ Slot "int" (PySem.dunder op.info.2) id ∧ entryFor table id = some B ∧ ∀ a b : Value, argsOk id ⟨[a, b], []⟩
theorem int_mul : IntOp .Mult := ⟨PySem.F.fills_int_mul, "int.__mul__", _, noInt_bin _ _, PySem.F.slot_int_mul, PySem.F.entry_int_mul, PySem.F.args_int_mul_2⟩
structure MixAt (X : Cx) (op : Operator) (E : L2.St → XK) (C : Addr) (sp spr : Sp) : Prop where
  fwd : ∀ (pins : List (Addr × Obj)) (s : Shared) (σ : L2.St) (H : Hp) (a dx : Addr) (fs : List (Str × V)) (y : V) (u : Value) (Q : VK), Inv X pins σ H s → H a = some (.ins C dx fs) → RelV y u → ((∃ b dy gs, y = .ref b ∧ H b = some (.ins C dy gs)) ∨ ∃ n, y = .int n) → sp [.ref a, y] H Q (E σ) →
    wpAny (model X.prog X.w) X.A (binaryOp1 op.info.2 (.ref a) u) (fun r s' => ∃ v, r = some v ∧ EP X pins σ Q v s') X.xe s
  bwd : ∀ (pins : List (Addr × Obj)) (s : Shared) (σ : L2.St) (H : Hp) (b dy : Addr) (gs : List (Str × V)) (n : Int) (tk : Tok) (Q : VK), Inv X pins σ H s → H b = some (.ins C dy gs) → spr [.ref b, .int n] H Q (E σ) →
    wpAny (model X.prog X.w) X.A (binaryOp1 op.info.2 (.int n tk) (.ref b)) (fun r s' => ∃ v, r = some v ∧ EP X pins σ Q v s') X.xe s
  ni : ∃ cd, PySem.W.clsIn X.K C = some cd ∧ ∀ c ∈ cd.mro, PySem.W.findIn X.K c (dunderI op.info.2) = some none
theorem mix_of {X : Cx} {CX CX' : CXT} {k k' : Nat} {op : Operator} {E : L2.St → XK} {C f g : Addr} {sp spr : Sp} (i : IntOp op) (o : MixOp X.K C op f g) (F : FnR X.prog X.w X.K X.mg X.base CX k f sp) (G : FnR X.prog X.w X.K X.mg X.base CX' k' g spr) (hr : Room k X.A) (hr' : Room k' X.A) (hx : ∀ σ, PassesAt CX X σ (E σ)) (hx' : ∀ σ, PassesAt CX' X σ (E σ)) : MixAt X op E C sp spr := by
  refine ⟨?_, ?_, o.ni⟩
  · intro pins s σ H a dx fs y u Q I ha ry hy h
    obtain ⟨mA, J, _⟩ := ins_get I.hok ha
    obtain ⟨od, J, _⟩ := J.look
    obtain ⟨m, hF⟩ := I.fr
    have go := wpAny_mono (run_RS F hr (hx σ) I (show Vals [V.ref a, y] [Value.ref a, u] from .cons rfl (.cons ry .nil)) h) (fun _ _ z => back_of z) fun _ _ z => z
    rcases hy with ⟨b, dy, gs, rfl, hb⟩ | ⟨n, rfl⟩
    · cases ry
      obtain ⟨mB, J', _⟩ := ins_get I.hok hb
      obtain ⟨od', J', _⟩ := J'.look
      exact bin1C hF I.ok.mod.kin J J'.type o.sf o.at_ o.fn go
    · obtain ⟨tk, rfl⟩ := ry
      obtain ⟨fo, h1⟩ := o.i1
      obtain ⟨ro, h2⟩ := o.i2
      exact bin1T (T := "int") hF I.ok.mod.kin J rfl o.sf o.at_ o.fn o.rat (.inr ⟨g, rfl⟩) h1 h2 o.s1 go
  · intro pins s σ H b dy gs n tk Q I hb h
    obtain ⟨mB, J, _⟩ := ins_get I.hok hb
    obtain ⟨od, J, _⟩ := J.look
    obtain ⟨m, hF⟩ := I.fr
    obtain ⟨id, B, hB, slot, entry, args⟩ := i.ex
    exact rbin1 hB hF I.ok.mod.kin J rfl o.sf o.at_ o.rat o.rfn o.s2 i.fills slot entry (args _ _) (wpAny_mono (run_RS G hr' (hx' σ) I (show Vals [V.ref b, V.int n] [Value.ref b, Value.int n tk] from .cons rfl (.cons ⟨tk, rfl⟩ .nil)) h) (fun _ _ z => back_of z) fun _ _ z => z)
inductive Mixes (X : Cx) (op : Operator) (E : L2.St → XK) : List (Addr × Sp × Sp) → Prop
  | nil : Mixes X op E []
  | cons {C : Addr} {sp spr : Sp} {l : List (Addr × Sp × Sp)} : MixAt X op E C sp spr → Mixes X op E l → Mixes X op E ((C, sp, spr) :: l)
theorem Mixes.at {X : Cx} {op : Operator} {E : L2.St → XK} {l : List (Addr × Sp × Sp)} (h : Mixes X op E l) : ∀ {i : Nat} {C : Addr} {sp spr : Sp}, l[i]? = some (C, sp, spr) → MixAt X op E C sp spr := by
  induction h with
  | nil => intro i C sp spr e; cases e
  | cons h _ ih =>
    intro i C sp spr e
    cases i with
    | zero => cases e; exact h
    | succ i => exact ih (by simpa using e)
def rMix (l : List (Addr × Sp × Sp)) (E : L2.St → XK) (base : R2) : R2S := fun σ x y H Q => base x y H Q ∨ ∃ (i : Nat) (C : Addr) (sp spr : Sp), l[i]? = some (C, sp, spr) ∧
  ((∃ a dx fs, x = .ref a ∧ H a = some (.ins C dx fs) ∧ ((∃ b dy gs, y = .ref b ∧ H b = some (.ins C dy gs)) ∨ ∃ n, y = .int n) ∧ sp [.ref a, y] H Q (E σ)) ∨
   ∃ n b dy gs, x = .int n ∧ y = .ref b ∧ H b = some (.ins C dy gs) ∧ spr [.ref b, .int n] H Q (E σ))
theorem op_mix {X : Cx} {op : Operator} {E : L2.St → XK} {l : List (Addr × Sp × Sp)} {base : R2} (h : Mixes X op E l) (hb : OpR X (binaryOp op) base) : OpS X (binaryOp op) (rMix l E base) := by
  intro pins s σ H x y v u Q I rx ry q
  rcases q with q | ⟨i, C, sp, spr, hl, ⟨a, dx, fs, rfl, ha, hy, q⟩ | ⟨n, b, dy, gs, rfl, rfl, hbb, q⟩⟩
  · exact hb pins s σ H x y v u Q I rx ry q
  · cases rx
    exact bin_of1 ((h.at hl).fwd pins s σ H a dx fs y u Q I ha ry hy q)
  · obtain ⟨tk, rfl⟩ := rx
    cases ry
    exact bin_of1 ((h.at hl).bwd pins s σ H b dy gs n tk Q I hbb q)
def tAugO (i : Nat) (te : TE) (r : R2S) : TS := fun D σ H => ∃ x, σ[i]? = some (some x) ∧ te σ H fun y H1 => r σ x y H1 fun z H2 => D.nx (σ.set i (some z)) H2
theorem ps_augO {X : Cx} {pos : Pos} {i : Nat} {x : Str} {e : Expr} {te : TE} {op : Operator} {r : R2S} {pos' : Pos} (hN : X.N.Nodup) (hi : X.N[i]? = some x) (hx : Loc X.env.scope x) (he : PE X e te) (ho : OpS X (inplaceOp op) r) (hf : X.fn x = true ∨ X.env.scope.names.lookup x = some .local := by first | exact .inl rfl | exact .inr rfl | assumption) :
    PS X (.AugAssign (.Name x pos') op e pos) (tAugO i te r) := by
  refine ⟨fun pins s σ H D I h => ?_⟩
  obtain ⟨v, e1, h⟩ := h
  obtain ⟨m, hn, hl⟩ := I.loc
  have vis : Vis X.env.scope x := hx.elim .inl fun k => .inr (.inl k)
  obtain ⟨u, rel, l⟩ := hl i x v hi e1 vis
  have go : wpAny (model X.prog X.w) X.A (eval e X.env) (fun w s₂ => wpAny (model X.prog X.w) X.A (inplaceOp op u w) (fun r s₃ => wpAny (model X.prog X.w) X.A (storeName X.env x r) (fun _ => SP X pins D .next) X.xe s₃) X.xe s₂) X.xe s :=
    thn (he.run pins s σ H _ I h) fun w s1 ⟨y, H1, I1, r1, q1⟩ => thn (ho pins s1 σ H1 v y u w _ I1 rel r1 q1) fun z s2 ⟨zv, H2, I2, r2, q2⟩ => store_ok I2 hN hi hx r2 (fun s3 I3 => ⟨_, H2, I3, q2⟩) hf
  refine wpAny_AugAssign_Name ?_
  rcases l with ⟨hk, hm⟩ | ⟨hk, c, hc, hcell⟩
  · exact wpAny_loadName_local I.ok.kind hk hn hm go
  · rcases hk with hk | hk
    · exact wpAny_loadName_cell I.ok.kind hk hc hcell go
    · have e2 : X.env.scope.names.lookup x = some .free := hk
      rcases hx with k | k <;> (rw [k] at e2; cases e2)
end Cl
namespace Hk
open PySem PySem.Spec PySem.W PyProof.Rows L2 He
def mixB (K : Frag) (C : Addr) (m r i : PySem.Str) : Bool := ownB K C m && (eqO (findIn K (.ref C) r) (some (some (.ref (ma K C r)))) && (isFn K (.ref (ma K C r)) && ((findIn K (.type "int") m).isSome && ((findIn K (.type "int") r).isSome && (decide (subIn K (.type "int") (.ref C) = some false) && (decide (subIn K (.ref C) (.type "int") = some false) && (match clsIn K C with
  | some cd => cd.mro.all fun c => eqO (findIn K c i) (some none)
  | none => false)))))))
theorem mixB_ok {K : Frag} {C : Addr} {m r i : PySem.Str} {op : Operator} (h : mixB K C m r i = true) (e1 : PySem.dunder op.info.2 = m) (e2 : dunderR op.info.2 = r) (e3 : dunderI op.info.2 = i) : Cl.MixOp K C op (ma K C m) (ma K C r) := by
  subst e1 e2 e3
  unfold mixB at h
  obtain ⟨h1, h⟩ := ba h
  obtain ⟨h2, h⟩ := ba h
  obtain ⟨h3, h⟩ := ba h
  obtain ⟨h4, h⟩ := ba h
  obtain ⟨h5, h⟩ := ba h
  obtain ⟨h6, h⟩ := ba h
  obtain ⟨h7, h8⟩ := ba h
  have o := ownB_ok h1
  refine ⟨o.at_, o.fn, o.sf, eqO_ok h2, h3, Option.isSome_iff_exists.mp h4, Option.isSome_iff_exists.mp h5, of_decide_eq_true h6, of_decide_eq_true h7, ?_⟩
  split at h8
  · rename_i cd e
    exact ⟨cd, e, fun c hc => eqO_ok (List.all_eq_true.mp h8 c hc)⟩
  · cases h8
theorem rd_mul : dunderR Operator.Mult.info.2 = ("__rmul__" : PySem.Str) := by decide +kernel
theorem di_add : dunderI Operator.Add.info.2 = ("__iadd__" : PySem.Str) := by decide +kernel
theorem di_mul : dunderI Operator.Mult.info.2 = ("__imul__" : PySem.Str) := by decide +kernel
end Hk
namespace Px
open PySem PySem.Spec PyProof.Rows L2
theorem s_augO {i : Nat} {te : TE} {r : Cl.R2S} {D : Ends} {σ : L2.St} {H : Hp} {v : V} (e : σ[i]? = some (some v)) (h : te σ H fun y H1 => r σ v y H1 fun z H2 => D.nx (σ.set i (some z)) H2) : Cl.tAugO i te r D σ H := ⟨v, e, h⟩
end Px
namespace Cl
open PySem PySem.Spec PySem.Calls PySem.W PyProof.Rows L2 Px
section
variable {prog : Program} {w : World} {M : Model} {A : Around} {E : Value → Shared → Prop} {s : Shared} {K : PySem.W.Frag} {y C L f g : Addr} {h₀ : Heap} {m : Str → Option Value} {oy : Obj} {od : Option Obj}
end
end Cl
namespace Cl
open PySem PySem.Spec PySem.Calls PyProof.Rows L2 Px
structure CmpK (K : PySem.W.Frag) (C : Addr) (op : CmpOp) (f g : Addr) : Prop where
  at_ : PySem.W.findIn K (.ref C) (cmpInfo op).2.1 = some (some (.ref f))
  fn : PySem.W.isFn K (.ref f) = true
  rat : PySem.W.findIn K (.ref C) (cmpInfo op).2.2 = some (some (.ref g))
  rfn : PySem.W.isFn K (.ref g) = true
  sub : ∀ T ∈ (["int", "str", "tuple", "list"] : List String), PySem.W.subIn K (.type T) (.ref C) = some false ∧ PySem.W.subIn K (.ref C) (.type T) = some false
inductive Beside (H : Hp) (C : Addr) : V → Prop
  | own {b dy : Addr} {gs : List (Str × V)} : H b = some (.ins C dy gs) → Beside H C (.ref b)
  | int (n : Int) : Beside H C (.int n)
  | str (z : Str) : Beside H C (.str z)
  | tup {b : Addr} {xs : List V} : H b = some (.tup xs) → Beside H C (.ref b)
  | lst {b : Addr} {xs : List V} : H b = some (.lst xs) → Beside H C (.ref b)
inductive LeftOk : CmpOp → V → Prop
  | int {op : CmpOp} (n : Int) : LeftOk op (.int n)
  | str (z : Str) : LeftOk .Eq (.str z)
structure IntCmp (op : CmpOp) : Prop where
  ex : ∃ (id : String) (B : Builtin), NoInt B ∧ Slot "int" (cmpInfo op).2.1 id ∧ entryFor table id = some B ∧ ∀ a b : Value, argsOk id ⟨[a, b], []⟩
  hop : ∀ x y, compareOp op x y = richCompare op x y
structure CmpAt (X : Cx) (op : CmpOp) (E : L2.St → XK) (C : Addr) (sp spr : Sp) : Prop where
  fwd : ∀ (pins : List (Addr × Obj)) (s : Shared) (σ : L2.St) (H : Hp) (a dx : Addr) (fs : List (Str × V)) (y : V) (u : Value) (Q : VK), Inv X pins σ H s → H a = some (.ins C dx fs) → RelV y u → Beside H C y → sp [.ref a, y] H Q (E σ) →
    wpAny (model X.prog X.w) X.A (compareOp op (.ref a) u) (EP X pins σ Q) X.xe s
  bwd : ∀ (pins : List (Addr × Obj)) (s : Shared) (σ : L2.St) (H : Hp) (b dy : Addr) (gs : List (Str × V)) (x : V) (u : Value) (Q : VK), Inv X pins σ H s → H b = some (.ins C dy gs) → RelV x u → LeftOk op x → spr [.ref b, x] H Q (E σ) →
    wpAny (model X.prog X.w) X.A (compareOp op u (.ref b)) (EP X pins σ Q) X.xe s
inductive CmpAts (X : Cx) (op : CmpOp) (E : L2.St → XK) : List (Addr × Sp × Sp) → Prop
  | nil : CmpAts X op E []
  | cons {C : Addr} {sp spr : Sp} {l : List (Addr × Sp × Sp)} : CmpAt X op E C sp spr → CmpAts X op E l → CmpAts X op E ((C, sp, spr) :: l)
theorem CmpAts.at {X : Cx} {op : CmpOp} {E : L2.St → XK} {l : List (Addr × Sp × Sp)} (h : CmpAts X op E l) : ∀ {i : Nat} {C : Addr} {sp spr : Sp}, l[i]? = some (C, sp, spr) → CmpAt X op E C sp spr := by
  induction h with
  | nil => intro i C sp spr e; cases e
  | cons h _ ih =>
    intro i C sp spr e
    cases i with
    | zero => cases e; exact h
    | succ i => exact ih (by simpa using e)
section
variable {X : Cx} {l : List (Addr × Sp)}
end
end Cl
namespace Hk
open PySem PySem.Spec PySem.W PyProof.Rows L2 He
end Hk
namespace Cl
open PySem PySem.Spec PyProof.Rows L2 Px
def tListVals (te : TE) : TE := fun σ H Q => te σ H fun x H1 => ∃ d kvs, x = .ref d ∧ H1 d = some (.dK kvs) ∧ ∀ q, H1 q = none → Q (.ref q) (upd H1 q (.lst (kvs.map Prod.snd)))
theorem kv_vals : ∀ {kvs : List (Key × V)} {vs : List (Key × Value)}, KV kvs vs → Vals (kvs.map Prod.snd) (vs.map Prod.snd)
  | _, _, .nil => .nil
  | _, _, .cons h t => .cons h.2 (kv_vals t)
section
variable {X : Cx} {e : Expr} {te : TE} {p apos cpos pos : Pos}
theorem pe_listVals (hc : X.calm = true) (hg : Gl X "list") (hm : X.mg "list" = none) (he : PE X e te) (hbase : attributeBase e "values" X.env (eval e X.env) = eval e X.env := by rfl) (hline : (apos.endLine == cpos.line) = true := by rfl)
    (na : starEach [.Call (.Attribute e "values" apos) [] [] cpos] X.env = (false, eval (.Call (.Attribute e "values" apos) [] [] cpos) X.env) :: starEach [] X.env := by rfl) :
    PE X (.Call (.Name "list" p) [.Call (.Attribute e "values" apos) [] [] cpos] [] pos) (tListVals te) := by
  refine ⟨fun pins s σ H Q I h => Call_ (ld_blt I hg hm boot_list (PyProof.Rows.callWith_type1 (args_cons ?_ na) na))⟩
  refine wpAny_Call_method (id := "dict.values") (T := "dict") hbase rfl hline PySem.F.plainAttrs_dict PySem.F.slot_dict_values PySem.F.type_dict_values (thn (he.run pins s σ H _ I h) fun u s1 ⟨x, H1, I1, rx, d, kvs, ex, hd, q⟩ => ?_)
  subst ex
  obtain rfl : u = Value.ref d := rx
  obtain ⟨hz, lo, vs, rk, hdo⟩ := (show ObjOk X.prog X.w H1 s1.heap d (.dK kvs) from I1.hok d _ hd)
  obtain ⟨ep, hat⟩ := hdo.dictAt
  have hl : kvs.length = vs.length := Paired.length rk
  have I2 : Inv X pins σ H1 { s1 with heap := s1.heap.push { cls := .type "dict_values", data := .fields #[.ref d] } } := I1.kept (t' := s1.toks) fun b ob z => Heap.get?_push_of_some _ z
  refine ⟨hdo.typeIs, hdo.mapOf.noDict, ?_⟩
  show wpAny _ _ (callWith cpos (.builtin "dict.values") [.ref d] [] []) _ X.xe s1
  refine method_meetsIn PySem.F.slot_dict_values PySem.F.entry_dict_values rfl (PySem.evalArgs_none ⟨rfl, hdo.typeIs, PySem.F.args_dict_values_1 _, _, meets_dict_values (mixKind X.prog X.w) d lo, ⟨vs, hdo⟩, ?_⟩)
  refine args_nil ?_
  refine PySem.W.kdl_call (PySem.W.kdl_values (knd := mixKind X.prog X.w) (kvs := vs) (ep := ep) (d := d) (r := s1.heap.objs.size)) (I2.ok.hd hc) ⟨⟨_, Heap.get?_push_size _ rfl, rfl, rfl⟩, hat.push _⟩ (by rw [← hl]; exact hz) fun h' tk acc c' hk hS hacc => ?_
  refine ⟨.ref _, upd H1 _ (.lst (kvs.map Prod.snd)), I2.laid hk (Nat.le_refl _) (show ObjOk X.prog X.w _ _ _ (.lst (kvs.map Prod.snd)) from ⟨?_, acc.toList, c', ?_, ?_⟩), rfl, q _ (I2.hok.fresh (Nat.le_refl _))⟩
  · rw [List.length_map]; exact hz
  · have ev : acc.toList = vs.map Prod.snd := PySem.W.kdl_vals_eq acc.toList (by rw [Array.length_toList]; exact hacc.1) fun j v z => hacc.2 j v (by rw [← Array.getElem?_toList]; exact z)
    rw [ev]
    exact kv_vals rk
  · rw [Array.toArray_toList]; exact hS
end
end Cl
namespace Px
open PySem PySem.Spec PyProof.Rows L2
section
variable {K : PySem.W.Frag} {σ : L2.St} {H H1 : Hp} {D : Ends} {Q : VK} {te td : TE} {d : Addr} {kvs : List (Key × V)}
theorem s_listV (h : te σ H fun x H1 => ∃ d kvs, x = .ref d ∧ H1 d = some (.dK kvs) ∧ ∀ q, H1 q = none → Q (.ref q) (upd H1 q (.lst (kvs.map Prod.snd)))) : Cl.tListVals te σ H Q := h
theorem s_dget {ty : TE} (h : td σ H fun x H1 => ty σ H1 fun y H2 => ∃ a v, x = .ref a ∧ DGet H2 a y (some v) ∧ Q v H2) : tDGet td ty σ H Q := h
theorem yields_keys {od : Obj} (h : H d = some (.frz od (.dK kvs))) (i : Nat) : YieldsAt (Itk d od kvs) (kvs.map fun p => kV p.1) i H := by
  refine ⟨fun hi => ⟨⟨h, by simpa using hi⟩, fun x H' y => ?_⟩, fun hi => ⟨h, by simpa using hi⟩⟩
  obtain ⟨e, k, v, hk, rfl⟩ := y
  exact ⟨e, by rw [List.getElem?_map, hk]; rfl⟩
@[reducible] def lk (H : Hp) (d : Addr) (od : Obj) (kvs : List (Key × V)) : Hp := upd H d (.frz od (.dK kvs))
def L2B (g : TG) (tt : TT) (wi1 : TI) (g1 : TG) (tt1 : TT) (te : TE) (vs vs1 : List Nat) (σ : L2.St) (Q : VK) : L2.It → Hp → Prop := fun J H1 => ∀ D, H1 D = none → ∃ W : Nat → Nat → Hp → Prop, (∃ m, W 0 m (upd H1 D (.lst []))) ∧ ∀ i m H, W i m H →
  (J.stop i H ∧ Q (.ref D) H) ∨ (J.go i H ∧ ∃ Nx : Hp → Prop, (∀ H', Nx H' → ∃ m', m' < m ∧ W (i + 1) m' H') ∧ ∀ x H', J.yld i H x H' → g x (wipe σ vs) H' fun σ2 H2 => wipe σ2 vs = wipe σ vs ∧ tt σ2 H2 fun b H3 =>
    if b = true then wi1 σ2 H3 fun J1 H4 => ∃ W1 : Nat → Nat → Hp → Prop, (∃ m, W1 0 m H4) ∧ ∀ j k H, W1 j k H →
      (J1.stop j H ∧ Nx H) ∨ (J1.go j H ∧ ∃ Nx1 : Hp → Prop, (∀ H', Nx1 H' → ∃ k', k' < k ∧ W1 (j + 1) k' H') ∧ ∀ x H', J1.yld j H x H' → g1 x (wipe σ2 vs1) H' fun σ3 H5 => wipe σ3 vs1 = wipe σ2 vs1 ∧ tt1 σ3 H5 fun b H6 =>
        if b = true then te σ3 H6 fun y H7 => ∃ acc, H7 D = some (.lst acc) ∧ acc.length < sizeLine ∧ Nx1 (upd H7 D (.lst (acc ++ [y]))) else Nx1 H6)
    else Nx H3)
end
end Px
namespace Cl
open PySem PySem.Spec PySem.Calls PyProof.Rows L2 Px
section
variable {M : Model} {A : Around} {E : Value → Shared → Prop} {s : Shared} {K : PySem.W.Frag}
def KwTo {α : Type} (D : Addr) : List (Str × Value) → Sem α → Sem α → Prop
  | [], t, r => t = r
  | q :: l, t, r => ∃ (β γ : Type) (k1 : Option Value → Sem β) (k2 : β → Sem γ) (k3 : γ → Sem α) (a : β), t = ((nsGet D q.1 >>= k1) >>= k2) >>= k3 ∧ k1 (some q.2) = pure a ∧ KwTo D l (k2 a >>= k3) r
theorem KwTo.run {α : Type} {D : Addr} {Q : α → Shared → Prop} {r : Sem α} (X : K.In s.heap) : ∀ {l : List (Str × Value)} {t : Sem α}, (∀ q ∈ l, PySem.W.nsIn K D q.1 = some (some q.2)) → KwTo D l t r → wpAny M A r Q E s → wpAny M A t Q E s
  | [], t, _, e, h => by rw [show t = r from e]; exact h
  | q :: l, t, hl, e, h => by
    obtain ⟨β, γ, k1, k2, k3, a, e1, e2, e3⟩ := e
    have l1 : PySem.W.Looks M s.heap (nsGet D q.1 >>= k1) a := (PySem.W.looks_nsIn X (hl q List.mem_cons_self)).andThen (PySem.W.Looks.of_pure e2)
    rw [e1, bind_assoc]
    exact wpAny_bind (l1.here (KwTo.run X (fun p hp => hl p (List.mem_cons_of_mem _ hp)) e3 h))
end
def FnRK (P : Program) (w : World) (K : PySem.W.Frag) (mg : Str → Option Value) (base : Heap) (CX : CXT) (k : Nat) (f : Addr) (ks : List Str) (sp : List V → Sp) : Prop :=
  ∀ (A : Around) (outer : List Env) (s : Shared) (H : Hp) (us ws : List Value) (vs zs : List V) (Q : VK) (E : XK), Room k A → Env0 P w K mg base A outer s H → Vals vs us → Vals zs ws → zs.length = ks.length → sp zs vs H Q E →
    codeAny (model P w) A (.call (.ref f) ⟨us, ks.zip ws⟩) (CR CX outer P w H s Q E) s
section
variable {P : Program} {w : World} {K : PySem.W.Frag} {mg : Str → Option Value} {base : Heap} {x qual pv p1 : Str} {params : Arguments} {body : List Stmt} {scope : Scope} {kws : List (Str × V)} {f : Addr} {fd : FuncData} {N : List Str} {k : Nat} {sp : Sp}
theorem okStarK (F : FunD K x qual params body scope [] kws f fd) (hk : kws ≠ []) (S : FnScope N (p1 :: (kws.map (·.1) ++ [pv])) scope)
    (hb : ∀ (D : Addr) (doc pm : Value) (an : Option Addr) (cdv ct : Value) (u : Value) (rest ds : List Value), ds.length = kws.length →
      KwTo D ((kws.map (·.1)).zip ds) (bindArgs (PySem.W.fnOf x qual params body scope .none (.ref D) doc pm an cdv ct) ⟨u :: rest, []⟩) (newTuple rest >>= fun t => pure ((p1, u) :: ((kws.map (·.1)).zip ds ++ [(pv, t)]))))
    (hbody : ∀ (cdv : Value) (A : Around) (outer : List Env) (s : Shared) (H : Hp) (vs : List V) (Q : VK) (E : XK), Room k (A.deeper (envOfC qual scope s.heap.objs.size f cdv)) → sp vs H Q E →
      ∃ t, PSs (cxOf (L2N.CX P w) P w K mg base N qual scope f cdv A outer s H E) body t ∧ t { nx := fun _ H' => Q .non H', rt := Q } (start N vs) H) :
    FnR P w K mg base (L2N.CX P w) (k + 1) f (fun vs H Q E => ∃ v rest, vs = v :: rest ∧ rest.length ≤ sizeLine ∧ ∀ p, H p = none → sp (v :: (kws.map (·.2) ++ [V.ref p])) (upd H p (.tup rest)) Q E) := by
  obtain ⟨oc, od, dV, kV, doc, pm, an, cdv, ct, osl, rfl, lk, hcd, hD, hK⟩ := F.ex
  rcases hD with ⟨_, rfl⟩ | ⟨e, _⟩
  rotate_left
  · exact absurd rfl e
  rcases hK with e | ⟨D, rfl, hq⟩
  · exact absurd e hk
  obtain ⟨ds, hl, rk, hks⟩ := kwd_vals hq
  intro A outer s H us vs Q E hr e0 r hsp
  obtain ⟨v, rest, rfl, hz, hsp⟩ := hsp
  cases r with
  | @cons _ u _ ur r1 r2 =>
    have hn : H s.heap.objs.size = Option.none := e0.hok.fresh (Nat.le_refl _)
    have hl2 : ur.length ≤ sizeLine := by rw [← r2.length]; exact hz
    refine StX.run_bnd lk hcd S hr e0 (G := fun xs H2 => ∃ p, H p = Option.none ∧ xs = v :: (kws.map (·.2) ++ [V.ref p]) ∧ H2 = upd H p (.tup rest)) (fun A' Ex Q' h => ?_) fun s2 H2 xs ⟨p, hp, ex, eH⟩ hr' => ?_
    · refine KwTo.run (e0.mod.kin.keeps fun b o e => (e0.bs b o e).1) hks (hb D doc pm an cdv ct u ur ds hl) ?_
      refine wpAny_bind (wpAny_newTuple (wpAny_pure ?_) hl2)
      have new : ObjOk P w (upd H s.heap.objs.size (.tup rest)) (s.heap.push ({ cls := .type "tuple", data := .seq ur.toArray } : Obj)) s.heap.objs.size (.tup rest) := ⟨hz, ur, r2, ⟨_, Heap.get?_push_size _ rfl, rfl, _, rfl⟩⟩
      have un := StX.un_laid (fs := frs outer) (s := s) (o := ({ cls := .type "tuple", data := .seq ur.toArray } : Obj)) (u := .tup rest) hn
      have z := h _ _ (v :: (kws.map (·.2) ++ [V.ref s.heap.objs.size])) (u :: (ds ++ [Value.ref s.heap.objs.size])) (StX.env0_laid e0 new) un rfl (fun e s' => cxUpN outer s H _ _ E e s' un (fun b o q => Heap.get?_push_of_some _ q) rfl) (.cons r1 (rk.append (.cons rfl .nil)))
        (by simp) ⟨_, hn, rfl, rfl⟩
      rw [List.zip_cons_cons, List.zip_append (by rw [List.length_map, hl])] at z
      exact z
    · subst ex eH
      exact hbody cdv A outer s2 _ _ Q E hr' (hsp p hp)
theorem okStarKW (F : FunD K x qual params body scope [] kws f fd) (ks : List Str) (S : FnScope N (p1 :: (ks ++ [pv])) scope)
    (hb : ∀ (kV doc pm : Value) (an : Option Addr) (cdv ct : Value) (u : Value) (rest ws : List Value), ws.length = ks.length →
      bindArgs (PySem.W.fnOf x qual params body scope .none kV doc pm an cdv ct) ⟨u :: rest, ks.zip ws⟩ = (newTuple rest >>= fun t => pure ((p1, u) :: (ks.zip ws ++ [(pv, t)]))))
    (hbody : ∀ (cdv : Value) (A : Around) (outer : List Env) (s : Shared) (H : Hp) (vs : List V) (Q : VK) (E : XK), Room k (A.deeper (envOfC qual scope s.heap.objs.size f cdv)) → sp vs H Q E →
      ∃ t, PSs (cxOf (L2N.CX P w) P w K mg base N qual scope f cdv A outer s H E) body t ∧ t { nx := fun _ H' => Q .non H', rt := Q } (start N vs) H) :
    FnRK P w K mg base (L2N.CX P w) (k + 1) f ks (fun zs vs H Q E => ∃ v rest, vs = v :: rest ∧ rest.length ≤ sizeLine ∧ ∀ p, H p = none → sp (v :: (zs ++ [V.ref p])) (upd H p (.tup rest)) Q E) := by
  obtain ⟨oc, od, dV, kV, doc, pm, an, cdv, ct, osl, rfl, lk, hcd, hD, hK⟩ := F.ex
  rcases hD with ⟨_, rfl⟩ | ⟨e, _⟩
  rotate_left
  · exact absurd rfl e
  intro A outer s H us ws vs zs Q E hr e0 r rz hlz hsp
  obtain ⟨v, rest, rfl, hz, hsp⟩ := hsp
  have hlw : ws.length = ks.length := by rw [← rz.length]; exact hlz
  cases r with
  | @cons _ u _ ur r1 r2 =>
    have hn : H s.heap.objs.size = Option.none := e0.hok.fresh (Nat.le_refl _)
    have hl2 : ur.length ≤ sizeLine := by rw [← r2.length]; exact hz
    refine StX.run_bnd lk hcd S hr e0 (G := fun xs H2 => ∃ p, H p = Option.none ∧ xs = v :: (zs ++ [V.ref p]) ∧ H2 = upd H p (.tup rest)) (fun A' Ex Q' h => ?_) fun s2 H2 xs ⟨p, hp, ex, eH⟩ hr' => ?_
    · rw [hb kV doc pm an cdv ct u ur ws hlw]
      refine wpAny_bind (wpAny_newTuple (wpAny_pure ?_) hl2)
      have new : ObjOk P w (upd H s.heap.objs.size (.tup rest)) (s.heap.push ({ cls := .type "tuple", data := .seq ur.toArray } : Obj)) s.heap.objs.size (.tup rest) := ⟨hz, ur, r2, ⟨_, Heap.get?_push_size _ rfl, rfl, _, rfl⟩⟩
      have un := StX.un_laid (fs := frs outer) (s := s) (o := ({ cls := .type "tuple", data := .seq ur.toArray } : Obj)) (u := .tup rest) hn
      have z := h _ _ (v :: (zs ++ [V.ref s.heap.objs.size])) (u :: (ws ++ [Value.ref s.heap.objs.size])) (StX.env0_laid e0 new) un rfl (fun e s' => cxUpN outer s H _ _ E e s' un (fun b o q => Heap.get?_push_of_some _ q) rfl) (.cons r1 (rz.append (.cons rfl .nil)))
        (by simp [hlz]) ⟨_, hn, rfl, rfl⟩
      rw [List.zip_cons_cons, List.zip_append hlw.symm] at z
      exact z
    · subst ex eH
      exact hbody cdv A outer s2 _ _ Q E hr' (hsp p hp)
end
section
variable {X : Cx} {CX : CXT} {k : Nat} {f C : Addr} {ks : List Str} {spK : List V → Sp} {E : L2.St → XK} {x : Str} {e : Expr} {te : TE} {tk : TA} {p pos sp_ : Pos} {kws : List Keyword}
def tMakeSK (K : PySem.W.Frag) (C : Addr) (m : Nat) (spK : List V → Sp) (E : L2.St → XK) (te : TE) (tk : TA) : TE := fun σ H Q => te σ H fun y H1 => tk σ H1 fun zs H2 => ∃ a xs, y = .ref a ∧ zs.length = m ∧ (SqT K H2 a xs ∨ SqL K H2 a xs) ∧ ∀ x dx, H2 x = none → H2 dx = none → dx ≠ x →
  spK zs (V.ref x :: xs) (upd (upd H2 dx (.own x)) x (.ins C dx [])) (fun v H3 => v = .non ∧ Q (.ref x) H3) (E σ)
end
end Cl
namespace Cl
open PySem PySem.Spec PyProof.Rows L2 Px
def KiO (d it : Addr) (n : Nat) (od : Obj) : HO := .ext fun h => ∃ es ep, od.data = .dict es ep ∧ h.IsKeyIter it d 0 n ep
theorem kiO_ok {P : Program} {w : World} {H : Hp} {h : Heap} {d it : Addr} {n ep : Nat} {od : Obj} {es : Array DictEntry} (e1 : od.data = .dict es ep) (e : h.IsKeyIter it d 0 n ep) : ObjOk P w H h it (KiO d it n od) := by
  refine ⟨⟨es, ep, e1, e⟩, ?_, fun h1 h2 ⟨es, ep, e1, q⟩ k => ⟨es, ep, e1, q.at k⟩⟩
  obtain ⟨o, ho, _⟩ := e
  exact ⟨o, ho⟩
def rIterK (n : Nat) : List V → Hp → VK → Prop := fun xs H Q => ∃ (d : Addr) (od : Obj) (kvs : List (Key × V)), xs = [.ref d] ∧ H d = some (.frz od (.dK kvs)) ∧ ∀ it, H it = none → n ≤ it → Q (.ref it) (upd H it (KiO d it kvs.length od))
theorem call_iterK {X : Cx} : CallR X (.builtin "iter") (rIterK X.s_0.heap.objs.size) := by
  intro pins s σ H xs us Q I r h
  obtain ⟨d, od, kvs, rfl, hd, q⟩ := h
  obtain ⟨u, rfl, ru⟩ := vals1 r
  cases ru
  obtain ⟨hs, hgd, hx, es, ep, vs, hdt, hsz, kv, hm⟩ := I.frzK hd
  refine Calls.call_function_entry (by decide +kernel) (by decide +kernel) PySem.W.kdk_entry_iter (PySem.W.kdk_args_iter _) ?_
  unfold Builtin.«iter»
  refine wpAny_bind (m := someArgs "iter" 1 2 _) (wpAny_of_eq (a := [Value.ref d]) (by first | rfl | kernel_rfl!) ?_)
  show wpAny _ _ (pyIter (.ref d) >>= _) _ _ _
  refine wpAny_bind (iter_keys hs hgd hx hdt (wpAny_pure ⟨_, rfl, ?_⟩))
  have hit : (s.heap.push { cls := .type "dict_keyiterator", data := .fields #[.ref d, .int 0 0, .int es.size 0, .int ep 0] }).IsKeyIter s.heap.objs.size d 0 kvs.length ep := ⟨_, Heap.get?_push_size _ rfl, rfl, by rw [hsz]; rfl⟩
  exact ⟨.ref s.heap.objs.size, _, I.laid (t' := s.toks) (fun b u e => Heap.get?_push_of_some _ e) (Nat.le_refl _) (kiO_ok hdt hit), rfl, q _ (I.hok.fresh (Nat.le_refl _)) I.sz⟩
structure IterK (P : Program) (w : World) (K : PySem.W.Frag) (mg : Str → Option Value) (base : Heap) (k : Nat) (C : Addr) (f : Str) : Prop where
  run : ∃ fi : Addr, PySem.W.findIn K (.ref C) "__iter__" = some (some (.ref fi)) ∧ PySem.W.isFn K (.ref fi) = true ∧
    ∀ (A : Around) (outer : List Env) (s : Shared) (H : Hp) (a dx d : Addr) (fs : List (Str × V)) (kvs : List (Key × V)) (od : Obj), Room k A → Env0 P w K mg base A outer s H → H a = some (.ins C dx fs) → fs.lookup f = some (.ref d) → H d = some (.frz od (.dK kvs)) →
      codeAny (model P w) A (.call (.ref fi) ⟨[.ref a], []⟩) (CR (L2N.CX P w) outer P w H s (fun y H' => ∃ it, y = .ref it ∧ H it = none ∧ s.heap.objs.size ≤ it ∧ H' = upd H it (KiO d it kvs.length od)) E0) s
theorem iterK_of {P : Program} {w : World} {K : PySem.W.Frag} {mg : Str → Option Value} {base : Heap} {qual f : Str} {params : Arguments} {body : List Stmt} {scope : Scope} {kws : List (Str × V)} {C fi : Addr} {fd : FuncData} {N : List Str} {k : Nat} {p1 p2 p3 p4 p5 : Pos} (F : FunD K "__iter__" qual params body scope [] kws fi fd) (S : FnScope N ["self"] scope) (hb : Binds K fd ["self"] [])
    (hbo : body = [.Return (some (.Call (.Name "iter" p1) [.Attribute (.Name "self" p2) f p3] [] p4)) p5]) (hN : N[0]? = some ("self" : Str)) (hgl : scope.names.lookup ("iter" : Str) = some .globalImplicit) (hm : mg "iter" = none) (c : Cls K C) (n : NoAttr K C f) (o : OwnOp K C "__iter__" fi)
    (hg : ∀ (cdv : Value) (A : Around) (outer : List Env) (s : Shared) (H : Hp), Gl (cxOf (L2N.CX P w) P w K mg base N qual scope fi cdv A outer s H E0) "iter") (hab : ∀ (cdv : Value) (A : Around) (outer : List Env) (s : Shared) (H : Hp), attributeBase (.Name "self" p2) f (cxOf (L2N.CX P w) P w K mg base N qual scope fi cdv A outer s H E0).env (eval (.Name "self" p2) (cxOf (L2N.CX P w) P w K mg base N qual scope fi cdv A outer s H E0).env) = eval (.Name "self" p2) (cxOf (L2N.CX P w) P w K mg base N qual scope fi cdv A outer s H E0).env) :
    IterK P w K mg base (k + 1) C f := by
  refine ⟨fi, o.at_, o.fn, fun A outer s H a dx d fs kvs od hr e0 ha hl ht => ?_⟩
  refine run_self F S hb hr e0 fun cdv _ => ?_
  subst hbo
  refine ⟨_, pss_one (ps_ret (pe_callB (call_iterK (X := cxOf (L2N.CX P w) P w K mg base N qual scope fi cdv A outer s H E0)) (hg _ _ _ _ _) hm PyProof.Rows.Boot.«iter» (pa_cons (pe_att (l := [(C, aFld f)]) (.cons (alt_fld c n) .nil) (pe_var (i := 0) hN ((S.par "self" (List.Mem.head _)).elim (fun z => .inl z) (fun z => .inr (.inl z)))) (hab _ _ _ _ _)) pa_nil))), ?_⟩
  refine ⟨.ref a, by rfl, a, dx, fs, 0, C, _, rfl, rfl, ha, .ref d, hl, ?_⟩
  exact ⟨d, od, kvs, rfl, ht, fun it h0 h1 => ⟨it, rfl, h0, h1, rfl⟩⟩
def rLenR (K : PySem.W.Frag) : List V → Hp → VK → Prop := fun vs H Q => rLenP K vs H Q ∨ ∃ p kvs, vs = [.ref p] ∧ Rd H p (.dK kvs) ∧ Q (.int kvs.length) H
theorem call_lenR {X : Cx} : CallR X (.builtin "len") (rLenR X.K) := by
  intro pins s σ H xs us Q I r h
  rcases h with h | ⟨a, kvs, rfl, ha, q⟩
  · exact call_lenP pins s σ H xs us Q I r h
  · obtain ⟨u, rfl, ru⟩ := vals1 r
    cases ru
    exact d_len I ha fun t s' I' => ⟨.int kvs.length, H, I', ⟨t, rfl⟩, q⟩
section
variable {X : Cx} {k : Nat} {C : Addr} {f : Str} {pins : List (Addr × Obj)} {σ : L2.St} {H : Hp} {s : Shared} {a dx d : Addr} {fs : List (Str × V)} {kvs : List (Key × V)} {od : Obj}
theorem iter_beginK {A : Around} {Q : Value → Shared → Prop} {E' : Value → Shared → Prop} (W : IterK X.prog X.w X.K X.mg X.base k C f) (hr : Room k A) (hfr : A.frames = X.A.frames) (I : Inv X pins σ H s) (ha : H a = some (.ins C dx fs)) (hl : fs.lookup f = some (.ref d)) (hd : H d = some (.frz od (.dK kvs)))
    (h : ∀ it s' es ep, H it = none → s.heap.objs.size ≤ it → od.data = .dict es ep → s'.heap.IsKeyIter it d 0 kvs.length ep → Inv X pins σ H s' → Q (.ref it) s') : wpAny (model X.prog X.w) A (pyIter (.ref a)) Q E' s := by
  obtain ⟨fi, hat, hfn, run⟩ := W.run
  obtain ⟨mA, J, _⟩ := ins_get I.hok ha
  obtain ⟨oo, J, _⟩ := J.look
  obtain ⟨m, hF⟩ := I.fr
  have e0 : Env0 X.prog X.w X.K X.mg X.base A X.stack s H := by
    have e := I.env0
    exact ⟨hfr.trans e.frames, e.mod, e.bs, e.bsz, e.funs, e.frf, e.hok, e.bare⟩
  refine PySem.W.owit_iter hF I.ok.mod.kin J hat hfn (wpAny_call (codeAny_mono (run A X.stack s H a dx d fs kvs od hr e0 ha hl hd) fun r s' hq => ?_))
  cases r with
  | error e =>
    obtain ⟨_, _, _, _, _, _, _, _, _, _, _, _, z⟩ := hq
    exact z.elim
  | ok fl =>
    cases fl with
    | ret u =>
      obtain ⟨v, H', I3, rv, it, ev, h0, h1, eH⟩ := I.after hq
      subst ev eH
      obtain rfl : u = Value.ref it := rv
      obtain ⟨es, ep, ed, hit⟩ := (I3.hok it _ upd_same).1
      have I4 := ItX.inv_drop I3 (show upd H it (KiO d it kvs.length od) it = some (KiO d it kvs.length od) from upd_same)
      rw [ItX.dropH_upd h0] at I4
      unfold PySem.W.OwitIt
      exact wpAny_specialOf hit.typeIs PySem.F.slot_dict_keyiterator_next.lookup (h it s' es ep h0 h1 ed hit I4)
    | _ => exact hq.elim
theorem list_loopK {A1 : Around} {S it : Addr} {ep : Nat} {es : Array DictEntry} {Rs : Result → Shared → Prop} (hh : A1.in1.handled = none) (hn : kvs.length ≤ 1000000) (hSH : H S = none) (hSd : S ≠ d) (hit : H it = none) (hiS : it ≠ S) (hL : it ≠ X.env.locals) (h1 : it ∈ X.ex ∨ X.s_0.heap.objs.size ≤ it)
    (h2 : ∀ x c, X.env.cells.lookup x = some c → c ≠ it) (h3 : ∀ p ∈ X.pn ++ pins, p.1 ≠ it) (hd : H d = some (.frz od (.dK kvs))) (hep : od.data = .dict es ep) (hfin : ∀ s', Inv X pins σ (upd H S (.lst (kvs.map fun p => kV p.1))) s' → Rs (.ok (.ret .none)) s') :
    ∀ (j i : Nat) (s : Shared), kvs.length - i = j → i ≤ kvs.length → Inv X pins σ (upd H S (.lst ((kvs.take i).map fun p => kV p.1))) s → s.heap.IsKeyIter it d i kvs.length ep → codeAny (model X.prog X.w) A1 (.builtin "list.extend.loop" ⟨[.ref S, .ref it, .none], []⟩) Rs s := by
  have dS : ∀ i, upd H S (.lst ((kvs.take i).map fun p => kV p.1)) d = some (.frz od (.dK kvs)) := fun i => by rw [upd_ne hSd.symm]; exact hd
  have itS : ∀ i, upd H S (.lst ((kvs.take i).map fun p => kV p.1)) it = none := fun i => by rw [upd_ne hiS]; exact hit
  have at_ : ∀ (i : Nat) (s : Shared), Inv X pins σ (upd H S (.lst ((kvs.take i).map fun p => kV p.1))) s → ∃ vs : List (Key × Value), KV kvs vs ∧ vs.length = kvs.length ∧ s.heap.DictAt (mixKind X.prog X.w) d vs ep := fun i s I => by
    obtain ⟨_, _, _, es', ep', vs, hdt, _, kv, hm⟩ := I.frzK (dS i)
    obtain ⟨_, rfl⟩ := dict_ep hep hdt
    exact ⟨vs, kv, (Paired.length kv).symm, hm⟩
  intro j
  induction j with
  | zero =>
    intro i s hj hi I st
    have e : i = kvs.length := by omega
    subst e
    obtain ⟨vs, kv, hl, hm⟩ := at_ _ s I
    refine codeAny_builtin PySem.F.entry_extend_loop ?_
    rw [Around.under_plainId PySem.F.plain_extend_loop _]
    show wpAny _ A1.in1 (pyNext (.ref it) >>= _) _ _ s
    refine wpAny_bind (wpAny_pyNext_dict_end (knd := mixKind X.prog X.w) hh (by rw [hl]; exact st) hm (List.getElem?_eq_none (by omega)) fun h' eb => ?_)
    refine wpAny_pure (hfin _ ?_)
    have I2 := I.turned (t' := s.toks) (fun b o hb e => eb b o hb e) (itS _) hL h1 h2 h3
    rw [List.take_length] at I2
    exact I2
  | succ j ih =>
    intro i s hj hi I st
    have hlt : i < kvs.length := by omega
    obtain ⟨vs, kv, hl, hm⟩ := at_ _ s I
    have hlv : i < vs.length := by omega
    have hx : vs[i]? = some (vs[i].1, vs[i].2) := by rw [List.getElem?_eq_getElem hlv]
    have ek : kvs[i].1 = vs[i].1 := by
      have e1 := KV.keys kv
      have e2 : (kvs.map (·.1))[i]? = (vs.map (·.1))[i]? := by rw [e1]
      rw [List.getElem?_map, List.getElem?_map, List.getElem?_eq_getElem hlt, List.getElem?_eq_getElem hlv] at e2
      exact Option.some.inj e2
    refine codeAny_builtin PySem.F.entry_extend_loop ?_
    rw [Around.under_plainId PySem.F.plain_extend_loop _]
    show wpAny _ A1.in1 (pyNext (.ref it) >>= _) _ _ s
    refine wpAny_bind (wpAny_pyNext_dict_item (knd := mixKind X.prog X.w) (by rw [hl]; exact st) hm hx fun u h' hu st' sb => ?_)
    rw [hl] at st'
    have ru : RelV (kV kvs[i].1) u := by rw [ek]; exact keyIs_rel hu
    have I1 : Inv X pins σ (upd H S (.lst ((kvs.take i).map fun p => kV p.1))) { s with heap := h' } := I.turned (t' := s.toks) (fun b o hb e => (sb.2 b hb).trans e) (itS _) hL h1 h2 h3
    show wpAny _ A1.in1 (updateSeq S (·.push u) >>= _) _ _ _
    obtain ⟨z, its2, k2, r2, hl2, e2⟩ := I1.lstM upd_same
    have hlen : ((kvs.take i).map fun p => kV p.1).length = i := by rw [List.length_map, List.length_take]; omega
    refine wpAny_bind (wpAny_updateSeq e2 rfl (wpAny_pure ⟨plainId_quiet PySem.F.plain_extend_loop _, ?_⟩) (by rw [List.size_toArray]; omega) (by show (its2.toArray.push u).size ≤ sizeLine + 1; rw [Array.size_push, List.size_toArray]; omega))
    have I2 := I1.lset (f := fun z => z.push u) (its' := its2 ++ [u]) (ys := ((kvs.take i).map fun p => kV p.1) ++ [kV kvs[i].1]) (t' := s.toks) upd_same e2 (by simp) (r2.append (.cons ru .nil)) (by rw [List.length_append, hlen, sizeLine_eq]; show i + 1 ≤ _; omega)
    have et : ((kvs.take i).map fun p => kV p.1) ++ [kV kvs[i].1] = (kvs.take (i + 1)).map fun p => kV p.1 := by rw [List.take_succ_eq_append_getElem hlt, List.map_append]; rfl
    rw [upd_upd, et] at I2
    refine ih (i + 1) _ (by omega) hlt I2 ?_
    obtain ⟨o, eo, c, dd⟩ := st'
    exact ⟨o, (Heap.get?_update_other _ _ (Ne.symm hiS)).trans eo, c, dd⟩
def spLenK (C : Addr) (f : Str) : Sp := fun vs H Q _ => ∃ a dx fs d kvs, vs = [.ref a] ∧ H a = some (.ins C dx fs) ∧ fs.lookup f = some (.ref d) ∧ Rd H d (.dK kvs) ∧ kvs.length ≤ 1000000 ∧ Q (.int kvs.length) H
theorem call_lenOK {n : Nat} {fl : Addr} (o : OwnOp X.K C "__len__" fl) (F : FnR X.prog X.w X.K X.mg X.base (L2N.CX X.prog X.w) n fl (spLenK C f)) {A : Around} {E' : Value → Shared → Prop} {Q : Value → Shared → Prop} (hr : Room (n + 1) A) (hfr : A.frames = X.A.frames) (I : Inv X pins σ H s) (ha : H a = some (.ins C dx fs)) (hl : fs.lookup f = some (.ref d)) (ht : Rd H d (.dK kvs)) (hn : kvs.length ≤ 1000000)
    (h : ∀ tk s', Inv X pins σ H s' → (∀ b o, s.heap.get? b = some o → H b = none → b ∉ frs X.stack → s'.heap.get? b = some o) → Q (.int kvs.length tk) s') : wpAny (model X.prog X.w) A (call (.builtin "len") [.ref a]) Q E' s := by
  obtain ⟨mA, J, _⟩ := ins_get I.hok ha
  obtain ⟨oo, J, _⟩ := J.look
  obtain ⟨m, hF⟩ := I.fr
  refine PySem.W.len_K hF I.ok.mod.kin J o.at_ o.fn ?_
  have e0 : Env0 X.prog X.w X.K X.mg X.base A.in1 X.stack s H := by
    have e := I.env0
    exact ⟨hfr.trans e.frames, e.mod, e.bs, e.bsz, e.funs, e.frf, e.hok, e.bare⟩
  refine wpAny_call (codeAny_mono (F A.in1 X.stack s H [.ref a] [.ref a] (fun y H' => y = .int kvs.length ∧ H' = H) E0 hr.in1 e0 (.cons rfl .nil) ⟨a, dx, fs, d, kvs, rfl, ha, hl, ht, hn, rfl, rfl⟩) fun r s' hq => ?_)
  cases r with
  | error e =>
    obtain ⟨_, _, _, _, _, _, _, _, _, _, _, _, z⟩ := hq
    exact z.elim
  | ok fl =>
    cases fl with
    | ret u =>
      have un : ∀ b o, s.heap.get? b = some o → H b = none → b ∉ frs X.stack → s'.heap.get? b = some o := by
        obtain ⟨_, _, _, _, un, _⟩ := id hq
        exact fun b o e n hb => un.keep b o e n hb (by simp)
      obtain ⟨v, H', I3, rv, ev, eH⟩ := I.after hq
      subst ev eH
      obtain ⟨tk, rfl⟩ := rv
      exact ⟨⟨by omega, by omega⟩, h _ _ (I3.tok _) un⟩
    | _ => exact hq.elim
theorem list_ownK {n fl : Nat} (W : IterK X.prog X.w X.K X.mg X.base n C f) (o : OwnOp X.K C "__len__" fl) (F : FnR X.prog X.w X.K X.mg X.base (L2N.CX X.prog X.w) n fl (spLenK C f)) (hr : Room (n + 3) X.A) {Q : VK} (I00 : Inv X pins σ H s) (ha0 : H a = some (.ins C dx fs)) (hl : fs.lookup f = some (.ref d)) (hd0 : H d = some (.dK kvs)) (hn : kvs.length ≤ 1000000)
    (hq : ∀ q, H q = none → Q (.ref q) (upd H q (.lst (kvs.map fun p => kV p.1)))) : wpAny (model X.prog X.w) X.A (call (.type "list") [.ref a]) (EP X pins σ Q) X.xe s := by
  obtain ⟨od, I⟩ := I00.lock hd0 trivial
  have nofr := I00.nofrz hd0 trivial
  have had : a ≠ d := ne_of ha0 hd0 (fun z => by cases z)
  have fr0 : H s.heap.objs.size = none := I00.hok.fresh (Nat.le_refl _)
  generalize hG : upd H d (.frz od (.dK kvs)) = G at I
  have ha : G a = some (.ins C dx fs) := by rw [← hG, upd_ne had]; exact ha0
  have hd : G d = some (.frz od (.dK kvs)) := by rw [← hG, upd_same]
  refine callType_codes (Q₁ := fun obj s₁ => obj = .ref s.heap.objs.size ∧ s₁ = { s with heap := s.heap.push { cls := .type "list", data := .seq #[] } }) PySem.F.called_list (PySem.F.typeCall_list_1 _) PySem.F.entry_list_init
    (code_list_new _ ⟨rfl, rfl⟩) fun obj s₁ h₁ => ?_
  obtain ⟨rfl, rfl⟩ := h₁
  have hS : (s.heap.push { cls := .type "list", data := .seq #[] }).get? s.heap.objs.size = some { cls := .type "list", data := .seq #[] } := Heap.get?_push_size _ rfl
  refine ⟨⟨_, hS, rfl⟩, PySem.F.args_list_init_2 _ _, ?_⟩
  have fr : G s.heap.objs.size = none := I.hok.fresh (Nat.le_refl _)
  have I1 : Inv X pins σ (upd G s.heap.objs.size (.lst [])) { s with heap := s.heap.push { cls := .type "list", data := .seq #[] } } := I.lnew (its := []) (t' := s.toks) .nil (Nat.zero_le _)
  show wpAny _ _ (do let old ← Builtin.List.listItems (.ref s.heap.objs.size); Builtin.List.listUpdate (.ref s.heap.objs.size) (fun _ => #[]); letGo old.toList.reverse; Builtin.List.listExtendWith (.ref s.heap.objs.size) (.ref a) .none) _ _ _
  refine wpAny_bind ?_
  unfold Builtin.List.listItems
  refine wpAny_bind (wpAny_seqItems hS rfl (wpAny_pure ?_))
  show wpAny _ _ (updateSeq s.heap.objs.size (fun _ => #[]) >>= fun _ => letGo (#[] : Array Value).toList.reverse >>= fun _ => Builtin.List.listExtendWith (.ref s.heap.objs.size) (.ref a) .none) _ _ _
  refine wpAny_bind (wpAny_updateSeq hS rfl ?_)
  have I2 := I1.lset (f := fun _ => #[]) (its := []) (its' := []) (ys := []) (t' := s.toks) upd_same hS rfl .nil (Nat.zero_le _)
  rw [upd_upd] at I2
  refine wpAny_bind (wpAny_letGo ?_)
  generalize hSe : s.heap.objs.size = S at *
  have haS : a ≠ S := ne_of_none ha fr
  have hdS : d ≠ S := ne_of_none hd fr
  have ha2 : upd G S (.lst []) a = some (.ins C dx fs) := by rw [upd_ne haS]; exact ha
  have hd2 : upd G S (.lst []) d = some (.frz od (.dK kvs)) := by rw [upd_ne hdS]; exact hd
  obtain ⟨mA, J, _⟩ := ins_get I2.hok ha2
  obtain ⟨oo, J, _⟩ := J.look
  unfold Builtin.List.listExtendWith
  refine wpAny_bind (J.type.here ?_)
  have h1 : Builtin.List.listSameRef (.ref S) (.ref a) = false := by simp [Builtin.List.listSameRef, haS.symm]
  have h2 : (Value.ref C == Value.type "list") = false := rfl
  have h3 : (Value.ref C == Value.type "tuple") = false := rfl
  simp only [h1, h2, h3, Bool.or_false, Bool.false_eq_true, if_false]
  have hr2 : Room (n + 1) X.A.in1.in1 := hr.in1.in1
  refine wpAny_bind (iter_beginK W (hr2.mono (by omega)) rfl I2 ha2 hl hd2 fun it s' es ep h0 hge hep hit I3 => ?_)
  refine wpAny_bind (wpAny_holding ?_)
  unfold Builtin.List.listLengthHint
  obtain ⟨mA3, J3, _⟩ := ins_get I3.hok ha2
  obtain ⟨od3, J3, _⟩ := J3.look
  refine wpAny_bind (wpAny_bind (J3.type.here ((PySem.W.looks_findIn I3.kIn o.at_).here ?_)))
  refine PySem.W.KFB.if_not rfl ?_
  refine PySem.W.KFB.if_so rfl ?_
  refine wpAny_bind (wpAny_rule ?_)
  refine wpAny_bind (wpAny_attempt (call_lenOK o F hr2 rfl I3 ha2 hl (.inr ⟨od, hd2⟩) hn fun tk s4 I4 un4 => ?_))
  have nfr : it ∉ frs X.stack := fun hm => by
    obtain ⟨_, ob, hob, _⟩ := I2.env0.funs.mem hm
    exact absurd (Heap.lt_size hob) (Nat.not_lt.mpr hge)
  have hit4 : s4.heap.IsKeyIter it d 0 kvs.length ep := by
    obtain ⟨ob, hob, r⟩ := hit
    exact ⟨ob, un4 it ob hob h0 nfr, r⟩
  have hSit : it ≠ S := fun e => by rw [e, upd_same] at h0; cases h0
  have hitH : G it = none := by rw [upd_ne hSit] at h0; exact h0
  obtain ⟨_, q1, q2, q3, q4, q5⟩ := I2.fpOk (H' := upd G S (.lst [])) hge h0
  have fin : ∀ s', Inv X pins σ (upd G S (.lst (kvs.map fun p => kV p.1))) s' → EP X pins σ Q (.ref S) s' := fun s' I6 => by
    have I7 := I6.unlock (d := d) (od := od) (u := .dK kvs) (by rw [upd_ne hdS]; exact hd) nofr
    have eH : upd (upd G S (.lst (kvs.map fun p => kV p.1))) d (.dK kvs) = upd H S (.lst (kvs.map fun p => kV p.1)) := by
      funext b
      by_cases hb : b = d
      · subst hb; rw [upd_same, upd_ne hdS, hd0]
      · by_cases hb2 : b = S
        · subst hb2; rw [upd_ne hb, upd_same, upd_same]
        · rw [upd_ne hb, upd_ne hb2, upd_ne hb2, ← hG, upd_ne hb]
    rw [eH] at I7
    exact ⟨.ref S, _, I7, rfl, hq S fr0⟩
  have loop : ∀ s5, Inv X pins σ (upd G S (.lst [])) s5 → s5.heap.IsKeyIter it d 0 kvs.length ep → codeAny (model X.prog X.w) X.A.in1 (.builtin "list.extend.loop" ⟨[.ref S, .ref it, .none], []⟩) (wants (fun r s₂ => r = .none ∧ EP X pins σ Q (.ref S) s₂) X.xe) s5 := fun s5 I5 hit5 =>
    list_loopK hr2.hd hn fr hdS.symm hitH hSit q1 q3 q4 q5 hd hep (fun s6 I6 => ⟨rfl, fin s6 I6⟩) kvs.length 0 s5 rfl (Nat.zero_le _) I5 hit5
  dsimp only
  refine wpAny_bind (wpAny_of_eq (a := some (kvs.length : Int)) (by first | rfl | kernel_rfl!) ?_)
  dsimp only
  have hlong : Builtin.List.listTooLong ((kvs.length : Int)).toNat = false := notLongL (by rw [sizeLine_eq]; omega)
  rw [hlong, if_neg Bool.false_ne_true]
  refine wpAny_pure ?_
  refine wpAny_ite_split (fun _ => ?_) (fun _ => wpAny_pure ⟨plainId_quiet PySem.F.plain_extend_loop _, loop s4 I4 hit4⟩)
  refine wpAny_bind (wpAny_rule ?_)
  refine wpAny_bind ?_
  show wpAny _ _ (updateSeq S (·.push .none) >>= fun _ => updateSeq S (·.pop)) _ _ _
  obtain ⟨z, its, k3, r3, hl3, e3⟩ := I4.lstM upd_same
  cases r3
  refine wpAny_bind (wpAny_updateSeq e3 rfl ?_)
  have I5 := I4.lset (f := (·.push Value.none)) (its' := [Value.none]) (ys := [.non]) (t' := s4.toks) upd_same e3 (by simp) (.cons rfl .nil) (by rw [List.length_singleton, sizeLine_eq]; decide)
  rw [upd_upd] at I5
  obtain ⟨z4, its4, k4, r4, hl4, e4⟩ := I5.lstM upd_same
  obtain ⟨u4, rfl, ru4⟩ := r4.one
  refine wpAny_updateSeq e4 rfl ?_ (by show 1 ≤ sizeLine; rw [sizeLine_eq]; decide) (by show 0 ≤ sizeLine + 1; exact Nat.zero_le _)
  have I6 := I5.lset (f := (·.pop)) (its := [u4]) (its' := []) (ys := []) (t' := s4.toks) upd_same e4 (by rfl) .nil (Nat.zero_le _)
  rw [upd_upd] at I6
  refine wpAny_pure ⟨plainId_quiet PySem.F.plain_extend_loop _, loop _ I6 ?_⟩
  obtain ⟨ob, hob, rr⟩ := hit4
  exact ⟨ob, (Heap.get?_update_other _ _ (Ne.symm hSit)).trans ((Heap.get?_update_other _ _ (Ne.symm hSit)).trans hob), rr⟩
end
def WalkK (X : Cx) (C : Addr) (f : Str) : Prop := ∃ (n : Nat) (fl : Addr), IterK X.prog X.w X.K X.mg X.base n C f ∧ OwnOp X.K C "__len__" fl ∧ FnR X.prog X.w X.K X.mg X.base (L2N.CX X.prog X.w) n fl (spLenK C f) ∧ Room (n + 3) X.A
inductive WalkKs (X : Cx) : List (Addr × Str) → Prop
  | nil : WalkKs X []
  | cons {C : Addr} {f : Str} {l : List (Addr × Str)} : WalkK X C f → WalkKs X l → WalkKs X ((C, f) :: l)
section
variable {X : Cx} {l : List (Addr × Str)}
theorem WalkKs.at (h : WalkKs X l) : ∀ {i : Nat} {C : Addr} {f : Str}, l[i]? = some (C, f) → WalkK X C f := by
  induction h with
  | nil => intro i C f e; cases e
  | cons h _ ih =>
    intro i C f e
    cases i with
    | zero => cases e; exact h
    | succ i => exact ih (by simpa using e)
def OwnK (l : List (Addr × Str)) (x : V) (H : Hp) (kvs : List (Key × V)) : Prop := ∃ (i : Nat) (C : Addr) (f : Str) (a dx d : Addr) (fs : List (Str × V)), l[i]? = some (C, f) ∧ x = .ref a ∧ H a = some (.ins C dx fs) ∧ fs.lookup f = some (.ref d) ∧ H d = some (.dK kvs) ∧ kvs.length ≤ 1000000
def rLenK (K : PySem.W.Frag) (l : List (Addr × Str)) : List V → Hp → VK → Prop := fun vs H Q => rLenP K vs H Q ∨ ∃ x kvs, vs = [x] ∧ OwnK l x H kvs ∧ Q (.int kvs.length) H
theorem call_lenK (h : WalkKs X l) : CallR X (.builtin "len") (rLenK X.K l) := by
  intro pins s σ H vs us Q I r q
  rcases q with q | ⟨x, kvs, rfl, ⟨i, C, f, a, dx, d, fs, hl, rfl, ha, hf, ht, hn⟩, q⟩
  · exact call_lenP pins s σ H vs us Q I r q
  · obtain ⟨u, rfl, ru⟩ := vals1 r
    cases ru
    obtain ⟨n, fl, W, o, F, hr⟩ := h.at hl
    exact call_lenOK o F (hr.mono (by omega)) rfl I ha hf (.inl ht) hn fun tk s' I' _ => ⟨.int kvs.length, H, I', ⟨tk, rfl⟩, q⟩
def rListK (K : PySem.W.Frag) (l : List (Addr × Str)) : List V → Hp → VK → Prop := fun vs H Q => rListP K vs H Q ∨ ∃ x kvs, vs = [x] ∧ OwnK l x H kvs ∧ ∀ q, H q = none → Q (.ref q) (upd H q (.lst (kvs.map fun p => kV p.1)))
theorem call_listK (h : WalkKs X l) : CallR X (.type "list") (rListK X.K l) := by
  intro pins s σ H vs us Q I r q
  rcases q with q | ⟨x, kvs, rfl, ⟨i, C, f, a, dx, d, fs, hl, rfl, ha, hf, ht, hn⟩, q⟩
  · exact call_listP pins s σ H vs us Q I r q
  · obtain ⟨u, rfl, ru⟩ := vals1 r
    cases ru
    obtain ⟨n, fl, W, o, F, hr⟩ := h.at hl
    exact list_ownK W o F hr I ha hf ht hn q
end
end Cl
namespace ZiX
open PySem
section
variable {prog : Program} {w : World}
structure Walk1 (prog : Program) (w : World) (it l : Addr) (xs : Array Value) (St : Nat → Heap → Prop) : Prop where
  item : ∀ (A : Around) (E : Value → Shared → Prop) (s : Shared) (i : Nat) (x : Value) (Q : Value → Shared → Prop), St i s.heap → xs[i]? = some x → (∀ h', St (i + 1) h' → Heap.SameBut it s.heap h' → Q x { s with heap := h' }) → wpAny (model prog w) A (Builtin.SmallTypes.nextOf (.ref it)) Q E s
  fin : ∀ (A : Around) (E : Value → Shared → Prop) (s : Shared) (i : Nat) (Q : Value → Shared → Prop), A.handled = none → St i s.heap → xs[i]? = none → (∀ h' e, Heap.ExtBut it s.heap h' → (∃ o, h'.get? e = some o ∧ o.cls = .type "StopIteration") → E (.ref e) { s with heap := h' }) → wpAny (model prog w) A (Builtin.SmallTypes.nextOf (.ref it)) Q E s
  keep : ∀ i h h', St i h → (∀ o, h.get? it = some o → h'.get? it = some o) → (∀ o, h.get? l = some o → h'.get? l = some o) → St i h'
variable {A : Around} {E : Value → Shared → Prop} {s : Shared} {z TI TO i1 i2 l1 l2 : Addr} {xs ys : Array Value} {S1 S2 : Nat → Heap → Prop}
end
def g1 (h : Heap) (l : Addr) : Heap := h.push { cls := .type "list_iterator", data := .fields #[.ref l, .int 0 0] }
def g2 (h : Heap) (l m : Addr) : Heap := (g1 h l).push { cls := .type "tuple_iterator", data := .fields #[.ref m, .int 0 0] }
def g3 (h : Heap) (l m : Addr) : Heap := (g2 h l m).push { cls := .type "tuple", data := .seq #[.ref h.objs.size, .ref (g1 h l).objs.size] }
def g4 (h : Heap) (l m : Addr) : Heap := (g3 h l m).push { cls := .type "tuple", data := .seq #[.none, .none] }
def g5 (h : Heap) (l m : Addr) : Heap := (g4 h l m).push { cls := .type "zip", data := .fields #[.none, .bool false, .bool false, .ref (g2 h l m).objs.size, .ref (g3 h l m).objs.size] }
end ZiX
namespace ZiX
open PySem PySem.Spec PyProof.Rows L2
section
variable {prog : Program} {w : World} {A : Around} {E : Value → Shared → Prop} {s : Shared}
end
end ZiX
namespace Cl
open PySem PySem.Spec PySem.Calls PyProof.Rows L2 Px
section
variable {X : Cx} {CX : CXT} {k : Nat} {f C : Addr} {sp : Sp} {E : L2.St → XK}
def AltN (X : Cx) (op : Operator) (C : Addr) (sp : Sp) (E : L2.St → XK) : Prop := ∀ (pins : List (Addr × Obj)) (s : Shared) (σ : L2.St) (H : Hp) (a dx : Addr) (fs : List (Str × V)) (y : V) (u : Value) (Q : VK), Inv X pins σ H s → H a = some (.ins C dx fs) → RelV y u → sp [.ref a, y] H Q (E σ) →
  wpAny (model X.prog X.w) X.A (inplaceOp op (.ref a) u) (EP X pins σ Q) X.xe s
theorem alt_inp {op : Operator} {md : Str} (e : dunderI op.info.2 = md) (o : OwnOp X.K C md f) (F : FnR X.prog X.w X.K X.mg X.base CX k f sp) (hr : Room k X.A) (hx : ∀ σ, PassesAt CX X σ (E σ)) : AltN X op C sp E := by
  subst e
  intro pins s σ H a dx fs y u Q I ha ry h
  obtain ⟨mA, J, _⟩ := ins_get I.hok ha
  obtain ⟨od, J, _⟩ := J.look
  obtain ⟨m, hF⟩ := I.fr
  exact PySem.W.ksp_inplace hF I.ok.mod.kin J o.sf o.at_ o.fn (wpAny_mono (run_RS F hr (hx σ) I (show Vals [V.ref a, y] [Value.ref a, u] from .cons rfl (.cons ry .nil)) h) (fun _ _ z => back_of z) fun _ _ z => z)
inductive AltNs (X : Cx) (op : Operator) (E : L2.St → XK) : List (Addr × Sp) → Prop
  | nil : AltNs X op E []
  | cons {C : Addr} {sp : Sp} {l : List (Addr × Sp)} : AltN X op C sp E → AltNs X op E l → AltNs X op E ((C, sp) :: l)
theorem AltNs.at {op : Operator} {l : List (Addr × Sp)} (h : AltNs X op E l) : ∀ {i : Nat} {C : Addr} {sp : Sp}, l[i]? = some (C, sp) → AltN X op C sp E := by
  induction h with
  | nil => intro i C sp e; cases e
  | cons h _ ih =>
    intro i C sp e
    cases i with
    | zero => cases e; exact h
    | succ i => exact ih (by simpa using e)
def rInp (l : List (Addr × Sp)) (E : L2.St → XK) (base : R2) : R2S := fun σ x y H Q => base x y H Q ∨ ∃ (i : Nat) (C : Addr) (sp : Sp) (a dx : Addr) (fs : List (Str × V)), l[i]? = some (C, sp) ∧ x = .ref a ∧ H a = some (.ins C dx fs) ∧ sp [.ref a, y] H Q (E σ)
theorem iop_own {op : Operator} {l : List (Addr × Sp)} {base : R2} (h : AltNs X op E l) (hb : OpR X (inplaceOp op) base) : OpS X (inplaceOp op) (rInp l E base) := by
  intro pins s σ H x y v u Q I rx ry q
  rcases q with q | ⟨i, C, sp, a, dx, fs, hl, rfl, ha, q⟩
  · exact hb pins s σ H x y v u Q I rx ry q
  · cases rx
    exact h.at hl pins s σ H a dx fs y u Q I ha ry q
theorem iop_addP : OpR X (inplaceOp .Add) (rIn0 fun i j => .int (i + j)) := OpR.in0 iop_add
def gSubO (to ti : TE) (ts : L2.St → TSet) : TG := fun v σ H Q => to σ H fun o H1 => ti σ H1 fun i H2 => ts σ o i v H2 fun H3 => Q σ H3
def PSetS (X : Cx) (t : L2.St → TSet) : Prop := ∀ (pins : List (Addr × Obj)) (s : Shared) (σ : L2.St) (H : Hp) (o i v : V) (ov iv u : Value) (Q : Hp → Prop), Inv X pins σ H s → RelV o ov → RelV i iv → RelV v u → t σ o i v H Q → wpAny (model X.prog X.w) X.A (setItem ov iv u) (fun _ s' => ∃ H', Inv X pins σ H' s' ∧ Q H') X.xe s
theorem pg_subO {o i : Expr} {to ti : TE} {t : L2.St → TSet} {pos : Pos} (ho : PE X o to) (hi : PE X i ti) (hs : PSetS X t)
    (ha : ∀ v, assign (.Subscript o i pos) X.env v = (do let ov ← holding [v] (eval o X.env); let iv ← holding [v, ov] (eval i X.env); standAt pos; holding [v, ov, iv] (setItem ov iv v); release [v, ov, iv] []) := by intro _; rfl) : PG X (.Subscript o i pos) (gSubO to ti t) := by
  refine ⟨fun pins s σ H v u Q I r h => ?_⟩
  rw [ha]
  refine wpAny_bind (wpAny_holding (thn (ho.run pins s σ H _ I h) fun ov s1 ⟨x, H1, I1, r1, q1⟩ => wpAny_bind (wpAny_holding (thn (hi.run pins s1 σ H1 _ I1 q1) fun iv s2 ⟨y, H2, I2, r2, q2⟩ => ?_))))
  refine wpAny_bind (wpAny_standAt (wpAny_bind (wpAny_holding (thn (hs pins s2 σ H2 x y v ov iv u _ I2 r1 r2 r q2) fun _ s3 ⟨H3, I3, q3⟩ => ?_))))
  exact wpAny_release ⟨σ, H3, I3, q3⟩
def AltS (X : Cx) (C : Addr) (sp : Sp) (E : L2.St → XK) : Prop := ∀ (pins : List (Addr × Obj)) (s : Shared) (σ : L2.St) (H : Hp) (a dx : Addr) (fs : List (Str × V)) (y z : V) (u w : Value) (Q : Hp → Prop), Inv X pins σ H s → H a = some (.ins C dx fs) → RelV y u → RelV z w → sp [.ref a, y, z] H (fun _ H' => Q H') (E σ) →
  wpAny (model X.prog X.w) X.A (setItem (.ref a) u w) (fun _ s' => ∃ H', Inv X pins σ H' s' ∧ Q H') X.xe s
theorem alt_set (nq : PySem.W.noSeq X.K C = true) (o : OwnOp X.K C "__setitem__" f) (F : FnR X.prog X.w X.K X.mg X.base CX k f sp) (hr : Room k X.A) (hx : ∀ σ, PassesAt CX X σ (E σ)) : AltS X C sp E := by
  intro pins s σ H a dx fs y z u w Q I ha ry rz h
  obtain ⟨mA, J, _⟩ := ins_get I.hok ha
  obtain ⟨od, J, _⟩ := J.look
  obtain ⟨m, hF⟩ := I.fr
  exact PySem.W.ksp_setItem hF I.ok.mod.kin J nq o.at_ o.fn (wpAny_mono (run_RS F hr (hx σ) I (show Vals [V.ref a, y, z] [Value.ref a, u, w] from .cons rfl (.cons ry (.cons rz .nil))) h) (fun _ s' ⟨_, H', I', _, q⟩ => ⟨H', I', q⟩) fun _ _ z => z)
inductive AltSs (X : Cx) (E : L2.St → XK) : List (Addr × Sp) → Prop
  | nil : AltSs X E []
  | cons {C : Addr} {sp : Sp} {l : List (Addr × Sp)} : AltS X C sp E → AltSs X E l → AltSs X E ((C, sp) :: l)
theorem AltSs.at {l : List (Addr × Sp)} (h : AltSs X E l) : ∀ {i : Nat} {C : Addr} {sp : Sp}, l[i]? = some (C, sp) → AltS X C sp E := by
  induction h with
  | nil => intro i C sp e; cases e
  | cons h _ ih =>
    intro i C sp e
    cases i with
    | zero => cases e; exact h
    | succ i => exact ih (by simpa using e)
def rSetO (l : List (Addr × Sp)) (E : L2.St → XK) : L2.St → TSet := fun σ o i v H Q => rSetP o i v H Q ∨ ∃ (j : Nat) (C : Addr) (sp : Sp) (a dx : Addr) (fs : List (Str × V)), l[j]? = some (C, sp) ∧ o = .ref a ∧ H a = some (.ins C dx fs) ∧ sp [.ref a, i, v] H (fun _ H' => Q H') (E σ)
theorem set_own {l : List (Addr × Sp)} (hu : X.A.units + 64 < cLine) (h : AltSs X E l) : PSetS X (rSetO l E) := by
  intro pins s σ H o i v ov iv u Q I ro ri rv q
  rcases q with q | ⟨j, C, sp, a, dx, fs, hl, rfl, ha, q⟩
  · exact set_P hu pins s σ H o i v ov iv u Q I ro ri rv q
  · cases ro
    exact h.at hl pins s σ H a dx fs i v iv u Q I ha ri rv q
def sAttA (l : List Addr) (ta tv : TE) (rd : R2) (f : Str) : TS := fun D σ H => ta σ H fun x H1 => ∃ a C dx fs v, x = .ref a ∧ C ∈ l ∧ H1 a = some (.ins C dx fs) ∧ fs.lookup f = some v ∧ tv σ H1 fun y H2 => rd v y H2 fun z H3 => ∃ dx' fs', H3 a = some (.ins C dx' fs') ∧ fs'.length < 1000 ∧ D.nx σ (upd H3 a (.ins C dx' (putF f z fs')))
end
end Cl
namespace Hk
open PySem PySem.Spec PySem.W PyProof.Rows L2 He
end Hk
namespace Px
open PySem PySem.Spec PyProof.Rows L2
section
variable {σ : L2.St} {H : Hp} {D : Ends} {v : V} {QS : L2.St → Hp → Prop} {ta tv td ty : TE}
theorem s_gsubO {to ti : TE} {ts : L2.St → TSet} (h : to σ H fun o H1 => ti σ H1 fun i H2 => ts σ o i v H2 fun H3 => QS σ H3) : Cl.gSubO to ti ts v σ H QS := h
theorem s_attA {l : List Addr} {rd : R2} {f : Str} (h : ta σ H fun x H1 => ∃ a C dx fs v, x = .ref a ∧ C ∈ l ∧ H1 a = some (.ins C dx fs) ∧ fs.lookup f = some v ∧ tv σ H1 fun y H2 => rd v y H2 fun z H3 => ∃ dx' fs', H3 a = some (.ins C dx' fs') ∧ fs'.length < 1000 ∧ D.nx σ (upd H3 a (.ins C dx' (putF f z fs')))) : Cl.sAttA l ta tv rd f D σ H := h
theorem s_ddel (h : td σ H fun x H1 => ty σ H1 fun y H2 => ∃ a kvs k, x = .ref a ∧ H2 a = some (.dK kvs) ∧ y = kV k ∧ (valV kvs k).isSome = true ∧ D.nx σ (upd H2 a (.dK (dropK kvs k)))) : sDDel td ty D σ H := h
end
end Px
namespace Px
open PySem PySem.Spec PyProof.Rows L2
section
variable {K : PySem.W.Frag} {σ : L2.St} {H : Hp} {Q : VK} {C a dx : Addr} {fs : List (Str × V)} {sp spr : Sp} {E : L2.St → XK} {y : V}
theorem ix_of {α : Type} {l : List α} {x : α} (h : x ∈ l) : ∃ i : Nat, l[i]? = some x := List.mem_iff_getElem?.mp h
theorem att_go {l : List (Addr × Cl.Alt)} {r : Cl.Alt} (hm : (C, r) ∈ l) (ha : H a = some (.ins C dx fs)) (h : r a fs σ H Q) : ∃ (a' dx : Addr) (fs : List (Str × V)) (i : Nat) (C : Addr) (r : Cl.Alt), V.ref a = .ref a' ∧ l[i]? = some (C, r) ∧ H a' = some (.ins C dx fs) ∧ r a' fs σ H Q := by
  obtain ⟨i, hi⟩ := ix_of hm
  exact ⟨a, dx, fs, i, C, r, rfl, hi, ha, h⟩
theorem fld_go (f : Str) {v : V} {l : List (Addr × Cl.Alt)} (hm : (C, Cl.aFld f) ∈ l) (ha : H a = some (.ins C dx fs)) (hl : fs.lookup f = some v) (h : Q v H) : ∃ (a' dx : Addr) (fs : List (Str × V)) (i : Nat) (C : Addr) (r : Cl.Alt), V.ref a = .ref a' ∧ l[i]? = some (C, r) ∧ H a' = some (.ins C dx fs) ∧ r a' fs σ H Q := att_go hm ha ⟨v, hl, h⟩
theorem ixO_go (sp : Sp) {l : List (Addr × Sp)} {base : R2} (hm : (C, sp) ∈ l) (ha : H a = some (.ins C dx fs)) (h : sp [.ref a, y] H Q (E σ)) : Cl.rIxO l E base σ (.ref a) y H Q := by
  obtain ⟨i, hi⟩ := ix_of hm
  exact .inr ⟨i, C, sp, a, dx, fs, hi, rfl, ha, h⟩
theorem inp_go (sp : Sp) {l : List (Addr × Sp)} {base : R2} (hm : (C, sp) ∈ l) (ha : H a = some (.ins C dx fs)) (h : sp [.ref a, y] H Q (E σ)) : Cl.rInp l E base σ (.ref a) y H Q := by
  obtain ⟨i, hi⟩ := ix_of hm
  exact .inr ⟨i, C, sp, a, dx, fs, hi, rfl, ha, h⟩
theorem set_go (sp : Sp) {l : List (Addr × Sp)} {k v : V} {QH : Hp → Prop} (hm : (C, sp) ∈ l) (ha : H a = some (.ins C dx fs)) (h : sp [.ref a, k, v] H (fun _ H' => QH H') (E σ)) : Cl.rSetO l E σ (.ref a) k v H QH := by
  obtain ⟨i, hi⟩ := ix_of hm
  exact .inr ⟨i, C, sp, a, dx, fs, hi, rfl, ha, h⟩
theorem in_go (sp : Sp) {l : List (Addr × Sp)} {base : R2} {neg : Bool} {x : V} (hm : (C, sp) ∈ l) (ha : H a = some (.ins C dx fs)) (h : sp [.ref a, x] H (fun z H' => ∃ c, z = .bl c ∧ Q (.bl (tgtIn neg c)) H') (E σ)) : Cl.rOwnI l E neg base σ x (.ref a) H Q := by
  obtain ⟨i, hi⟩ := ix_of hm
  exact .inr ⟨i, C, sp, a, dx, fs, hi, rfl, ha, h⟩
theorem own2_go (sp : Sp) {l : List (Addr × Sp)} {base : R2} {b dy : Addr} {gs : List (Str × V)} (hm : (C, sp) ∈ l) (ha : H a = some (.ins C dx fs)) (hb : H b = some (.ins C dy gs)) (h : sp [.ref a, .ref b] H Q (E σ)) : Cl.rOwn2 l E base σ (.ref a) (.ref b) H Q := by
  obtain ⟨i, hi⟩ := ix_of hm
  exact .inr ⟨i, C, sp, a, b, dx, dy, fs, gs, hi, rfl, rfl, ha, hb, h⟩
theorem ownK_go {l : List (Addr × Str)} {f : Str} {d : Addr} {kvs : List (Key × V)} (hm : (C, f) ∈ l) (ha : H a = some (.ins C dx fs)) (hf : fs.lookup f = some (.ref d)) (hd : H d = some (.dK kvs)) (hn : kvs.length ≤ 1000000) : Cl.OwnK l (.ref a) H kvs := by
  obtain ⟨i, hi⟩ := ix_of hm
  exact ⟨i, C, f, a, dx, d, fs, hi, rfl, ha, hf, hd, hn⟩
theorem s_lstRg2 {ta tb : TE} (h : ta σ H fun x H1 => tb σ H1 fun y H2 => ∃ i j, x = .int i ∧ y = .int j ∧ RgOk i j ∧ ∀ q, H2 q = none → Q (.ref q) (upd H2 q (.lst (rgV i j)))) : tLstRg (tRg2 ta tb) σ H Q := h
theorem s_lstRg1 {ta : TE} (h : ta σ H fun x H1 => ∃ n, x = .int n ∧ RgOk 0 n ∧ ∀ q, H1 q = none → Q (.ref q) (upd H1 q (.lst (rgV 0 n)))) : tLstRg (tRg1 ta) σ H Q := h
theorem s_makeK {m : Nat} {spK : List V → Sp} {te : TE} {tk : TA} (h : te σ H fun y H1 => tk σ H1 fun zs H2 => ∃ a xs, y = .ref a ∧ zs.length = m ∧ (SqT K H2 a xs ∨ SqL K H2 a xs) ∧ ∀ x dx, H2 x = none → H2 dx = none → dx ≠ x → spK zs (V.ref x :: xs) (upd (upd H2 dx (.own x)) x (.ins C dx [])) (fun v H3 => v = .non ∧ Q (.ref x) H3) (E σ)) : Cl.tMakeSK K C m spK E te tk σ H Q := h
theorem s_lc2 {te0 te : TE} {g g1 : TG} {tt tt1 : TT} {wi1 : TI} {vs vs1 : List Nat} (h : te0 σ H fun x H1 => Cl.AnyB K x H1 (L2B g tt wi1 g1 tt1 te vs vs1 σ Q)) : tLc2 (iAnyP K te0) g tt wi1 g1 tt1 te vs vs1 σ H Q := h
theorem s_anyB {te0 : TE} {R : L2.It → Hp → Prop} (h : te0 σ H fun x H1 => Cl.AnyB K x H1 R) : iAnyP K te0 σ H R := h
end
end Px
namespace Cl
open PySem PySem.Spec PySem.Calls PyProof.Rows L2 Px
def tCMethS (C : Addr) (sp : Sp) (E : L2.St → XK) (ta : TE) (t : TA) : TE := fun σ H Q => ta σ H fun x H1 => x = .ref C ∧ t σ H1 fun vs H2 => sp (.ref C :: vs) H2 Q (E σ)
def tMakeV (C : Addr) (sp : Sp) (E : L2.St → XK) (ta : TE) : TE := fun σ H Q => ta σ H fun y H1 => y = .ref C ∧ ∀ x dx, H1 x = none → H1 dx = none → dx ≠ x → sp [V.ref x] (upd (upd H1 dx (.own x)) x (.ins C dx [])) (fun v H2 => v = .non ∧ Q (.ref x) H2) (E σ)
def tClsV (C : Addr) (v : V) (ta : TE) : TE := fun σ H Q => ta σ H fun y H1 => y = .ref C ∧ Q v H1
section
variable {X : Cx} {CX : CXT} {k : Nat} {C p g : Addr} {mc : Value} {sp : Sp} {E : L2.St → XK} {o e : Expr} {es : List Expr} {f m : Str} {pos apos : Pos} {ta : TE} {t : TA} {pl : Sem Bool}
end
end Cl
namespace Hk
open PySem PySem.Spec PySem.W PyProof.Rows L2 He
end Hk
namespace Px
open PySem PySem.Spec PyProof.Rows L2
theorem s_cmeth {σ : L2.St} {H : Hp} {Q : VK} {C : Addr} {sp : Sp} {E : L2.St → XK} {t : TA} (h : t σ H fun vs H2 => sp (.ref C :: vs) H2 Q (E σ)) : Cl.tCMethS C sp E (tC (.ref C)) t σ H Q := ⟨rfl, h⟩
theorem s_makeV {σ : L2.St} {H : Hp} {Q : VK} {C : Addr} {sp : Sp} {E : L2.St → XK} {ta : TE} (h : ta σ H fun y H1 => y = .ref C ∧ ∀ x dx, H1 x = none → H1 dx = none → dx ≠ x → sp [V.ref x] (upd (upd H1 dx (.own x)) x (.ins C dx [])) (fun v H2 => v = .non ∧ Q (.ref x) H2) (E σ)) : Cl.tMakeV C sp E ta σ H Q := h
theorem s_clsV {σ : L2.St} {H : Hp} {Q : VK} {C : Addr} {v : V} {ta : TE} (h : ta σ H fun y H1 => y = .ref C ∧ Q v H1) : Cl.tClsV C v ta σ H Q := h
end Px
namespace Cl
open PySem PySem.Spec PyProof.Rows L2 Px
section
variable {X : Cx} {l : List (Addr × Str)}
end
def wLk (W : WX) (d : Addr) (od : Obj) (u : HO) : WX := fun c x σ H => H d = some (.frz od u) ∧ W c x σ (upd H d u)
def tLockW (W : WX) (t : WX → TS) : TS := fun D σ H => ∃ d u, H d = some u ∧ Mut (some u) ∧ ∀ od, t (wLk W d od u) ⟨fun σ' H' => H' d = some (.frz od u) ∧ D.nx σ' (upd H' d u), fun v H' => H' d = some (.frz od u) ∧ D.rt v (upd H' d u), fun σ' H' => H' d = some (.frz od u) ∧ D.bk σ' (upd H' d u), fun σ' H' => H' d = some (.frz od u) ∧ D.ct σ' (upd H' d u)⟩ σ (upd H d (.frz od u))
section
variable {X : Cx} {W : WX}
theorem takes_lk {d : Addr} {od : Obj} {u : HO} (tk : L2N.Takes X W) (hn : ∀ o' u', X.H_0 d ≠ some (.frz o' u')) : L2N.Takes X (wLk W d od u) := fun v s' ⟨a, B, sI, pins, σ, H, cls, dd, e, I, nb, up, sky, na, os, ag, hd, w⟩ =>
  tk v s' ⟨a, B, sI, pins, σ, upd H d u, cls, dd, e, I.unlock hd hn, nb, up, sky, by rw [upd_ne (fun z => by rw [z, hd] at na; cases na)]; exact na, os, ag, w⟩
theorem ps_lockW {st : Stmt} {t : WX → TS} (tk : L2N.Takes X W) (h : ∀ W', L2N.Takes X W' → PS X st (t W')) : PS X st (tLockW W t) := by
  refine ⟨fun pins s σ H D I hw => ?_⟩
  obtain ⟨d, u, hd, mu, hw⟩ := hw
  obtain ⟨od, I1⟩ := I.lock hd mu
  refine thn ((h _ (takes_lk tk (I.nofrz hd mu))).run pins s σ _ _ I1 (hw od)) fun f s1 q => ?_
  cases f with
  | next => obtain ⟨σ', H', I2, e, q⟩ := q; exact ⟨σ', _, I2.unlock e (I.nofrz hd mu), q⟩
  | brk => obtain ⟨σ', H', I2, e, q⟩ := q; exact ⟨σ', _, I2.unlock e (I.nofrz hd mu), q⟩
  | cont => obtain ⟨σ', H', I2, e, q⟩ := q; exact ⟨σ', _, I2.unlock e (I.nofrz hd mu), q⟩
  | ret v => obtain ⟨x, σ', H', I2, r, e, q⟩ := q; exact ⟨x, σ', _, I2.unlock e (I.nofrz hd mu), r, q⟩
end
end Cl
namespace Cl
open PySem PySem.Spec PyProof.Rows L2 Px
structure PairOp (K : PySem.W.Frag) (C D : Addr) (op : Operator) (f g : Addr) : Prop where
  l : OwnOp K C (PySem.dunder op.info.2) f
  r : OwnOp K D (PySem.dunder op.info.2) g
  lr : PySem.W.findIn K (.ref C) (dunderR op.info.2) = some none
  rr : PySem.W.findIn K (.ref D) (dunderR op.info.2) = some none
  sub : PySem.W.subIn K (.ref D) (.ref C) = some false
  ne : C ≠ D
section
open PySem.W
variable {K : PySem.W.Frag} {h₀ : Heap} {L : Addr} {s : Shared} {m : Str → Option Value} {A : Around} {E : Value → Shared → Prop} {x y C D f g : Addr} {ox oy : Obj} {od od' : Option Obj} {prog : Program} {w : World}
end
section
variable {X : Cx} {CX : CXT} {k : Nat} {f g C D : Addr} {sp : Sp} {E : L2.St → XK}
def AltP (X : Cx) (F : Value → Value → Sem Value) (C D : Addr) (sp : Sp) (E : L2.St → XK) : Prop := ∀ (pins : List (Addr × Obj)) (s : Shared) (σ : L2.St) (H : Hp) (a b dx dy : Addr) (fs gs : List (Str × V)) (Q : VK), Inv X pins σ H s → H a = some (.ins C dx fs) → H b = some (.ins D dy gs) → sp [.ref a, .ref b] H Q (E σ) →
  wpAny (model X.prog X.w) X.A (F (.ref a) (.ref b)) (EP X pins σ Q) X.xe s
inductive AltPs (X : Cx) (F : Value → Value → Sem Value) (E : L2.St → XK) : List (Addr × Addr × Sp) → Prop
  | nil : AltPs X F E []
  | cons {C D : Addr} {sp : Sp} {l : List (Addr × Addr × Sp)} : AltP X F C D sp E → AltPs X F E l → AltPs X F E ((C, D, sp) :: l)
theorem AltPs.at {F : Value → Value → Sem Value} {l : List (Addr × Addr × Sp)} (h : AltPs X F E l) (hm : (C, D, sp) ∈ l) : AltP X F C D sp E := by
  induction h with
  | nil => cases hm
  | cons h _ ih =>
    rcases List.mem_cons.mp hm with e | hm
    · cases e; exact h
    · exact ih hm
end
end Cl
namespace Hk
open PySem PySem.W PySem.Spec PyProof.Rows L2 He
end Hk
namespace Hk
open PySem PySem.W PySem.Spec PyProof.Rows L2 He
end Hk
namespace Cl
open PySem PySem.Spec PyProof.Rows L2 Px
end Cl
namespace Cl
open PySem PySem.Spec PyProof.Rows L2 Px
end Cl
namespace Cl
open PySem PySem.Spec PyProof.Rows L2 Px
def stIx (n : Nat) (lo hi st : Option Int) : List Nat := sliceRange (sliceBounds lo hi st n).1 (sliceBounds lo hi st n).2.1 (sliceBounds lo hi st n).2.2
def stL {α : Type} (xs : List α) (lo hi st : Option Int) : List α := (stIx xs.length lo hi st).filterMap fun i => xs[i]?
section
variable {X : Cx} {e : Expr} {te : TE} {lo hi : Option Expr} {st : Expr} {tl tu ts : TO} {p3 pos : Pos}
end
end Cl
namespace Px
open PySem PySem.Spec PyProof.Rows L2
end Px
namespace Cl
open PySem PySem.Spec PySem.Calls PyProof.Rows L2 Px
end Cl
namespace Cl
open PySem PySem.Spec PySem.Calls PySem.W PyProof.Rows L2 Px
section
variable {prog : Program} {w : World} {κ : Type} [DecidableEq κ] {knd : KeyKind prog w κ} {A : Around} {E : Value → Shared → Prop} {s : Shared}
end
section
variable {X : Cx} {CX : CXT} {k : Nat} {f C : Addr} {sp : Sp} {E : L2.St → XK}
def AltE (X : Cx) (C : Addr) (sp : Sp) (E : L2.St → XK) : Prop := ∀ (pins : List (Addr × Obj)) (s : Shared) (σ : L2.St) (H : Hp) (a b dx dy : Addr) (fs gs : List (Str × V)) (Q : VK), Inv X pins σ H s → H a = some (.ins C dx fs) → H b = some (.ins C dy gs) → sp [.ref a, .ref b] H Q (E σ) →
  wpAny (model X.prog X.w) X.A.in1 (richCompare .Eq (.ref a) (.ref b)) (EP X pins σ Q) X.xe s
inductive AltEs (X : Cx) (E : L2.St → XK) : List (Addr × Sp) → Prop
  | nil : AltEs X E []
  | cons {C : Addr} {sp : Sp} {l : List (Addr × Sp)} : AltE X C sp E → AltEs X E l → AltEs X E ((C, sp) :: l)
theorem AltEs.at {l : List (Addr × Sp)} (h : AltEs X E l) : ∀ {i : Nat}, l[i]? = some (C, sp) → AltE X C sp E := by
  induction h with
  | nil => intro i e; cases e
  | cons h _ ih =>
    intro i e
    cases i with
    | zero => cases e; exact h
    | succ i => exact ih (by simpa using e)
@[reducible] def lk2 (H : Hp) (a b : Addr) (oa ob : Obj) (ks ls : List (Key × V)) : Hp := upd (upd H a (.frz oa (.dK ks))) b (.frz ob (.dK ls))
@[reducible] def off2 (H : Hp) (a b : Addr) (ks ls : List (Key × V)) : Hp := upd (upd H b (.dK ls)) a (.dK ks)
end
end Cl
namespace Dx
open PySem PySem.Spec PyProof.Rows L2 Px
inductive D where
  | non
  | bl (b : Bool)
  | int (i : Int)
  | str (s : Str)
  | lst (ds : List D)
  | tup (ds : List D)
  | obj (C : Str) (fs : List (Str × D))
  | dic (lk : Bool) (kvs : List (Key × D))
  | hdl (n : Nat)
  | fz
structure Ads where
  c : List (Option Addr)
  x : List Addr
structure Out (A : Ads) (a : Addr) : Prop where
  c : ¬ (some a ∈ A.c)
  x : ¬ (a ∈ A.x)
mutual
inductive Dt (K : PySem.W.Frag) (H : Hp) (A : Ads) : V → D → Prop
  | non : Dt K H A .non .non
  | bl (b : Bool) : Dt K H A (.bl b) (.bl b)
  | int (i : Int) : Dt K H A (.int i) (.int i)
  | str (s : Str) : Dt K H A (.str s) (.str s)
  | lst {a : Addr} {xs : List V} {ds : List D} : H a = some (.lst xs) → Out A a → Dts K H A xs ds → Dt K H A (.ref a) (.lst ds)
  | tup {a : Addr} {xs : List V} {ds : List D} : H a = some (.tup xs) → Out A a → Dts K H A xs ds → Dt K H A (.ref a) (.tup ds)
  | obj {a dx : Addr} {C : Str} {fs : List (Str × V)} {gs : List (Str × D)} : H a = some (.ins (He.ga K C) dx fs) → Out A a → Dtf K H A fs gs → Dt K H A (.ref a) (.obj C gs)
  | dic {a : Addr} {kvs : List (Key × V)} {ds : List (Key × D)} {lk : Bool} : Rd H a (.dK kvs) → Out A a → Dtk K H A kvs ds → Dt K H A (.ref a) (.dic lk ds)
  | hdl {n : Nat} {a : Addr} : A.c[n]? = some (some a) → Dt K H A (.ref a) (.hdl n)
  | fz {a : Addr} : (∀ H' : Hp, SqT K H' a []) → Dt K H A (.ref a) .fz
inductive Dts (K : PySem.W.Frag) (H : Hp) (A : Ads) : List V → List D → Prop
  | nil : Dts K H A [] []
  | cons {v : V} {d : D} {vs : List V} {ds : List D} : Dt K H A v d → Dts K H A vs ds → Dts K H A (v :: vs) (d :: ds)
inductive Dtf (K : PySem.W.Frag) (H : Hp) (A : Ads) : List (Str × V) → List (Str × D) → Prop
  | nil : Dtf K H A [] []
  | cons {f : Str} {v : V} {d : D} {vs : List (Str × V)} {ds : List (Str × D)} : Dt K H A v d → Dtf K H A vs ds → Dtf K H A ((f, v) :: vs) ((f, d) :: ds)
inductive Dtk (K : PySem.W.Frag) (H : Hp) (A : Ads) : List (Key × V) → List (Key × D) → Prop
  | nil : Dtk K H A [] []
  | cons {f : Key} {v : V} {d : D} {vs : List (Key × V)} {ds : List (Key × D)} : Dt K H A v d → Dtk K H A vs ds → Dtk K H A ((f, v) :: vs) ((f, d) :: ds)
end
structure Kp (H : Hp) (A : Ads) (H' : Hp) (A' : Ads) : Prop where
  keep : ∀ a o, H a = some o → Out A a → H' a = some o ∧ Out A' a
  live : ∀ (n : Nat) (a : Addr), A.c[n]? = some (some a) → A'.c[n]? = some (some a)
  len : A.c.length ≤ A'.c.length
  old : ∀ (n : Nat) (a : Addr), n < A.c.length → A'.c[n]? = some (some a) → A.c[n]? = some (some a)
structure Later (H : Hp) (A : Ads) (H' : Hp) (A' : Ads) : Prop extends Kp H A H' A' where
  ex : ∀ a, a ∈ A.x → H' a = H a ∧ a ∈ A'.x
  fz : ∀ a od u, H a = some (.frz od u) → H' a = some (.frz od u)
theorem Kp.refl (H : Hp) (A : Ads) : Kp H A H A := ⟨fun _ _ h n => ⟨h, n⟩, fun _ _ h => h, Nat.le_refl _, fun _ _ _ h => h⟩
theorem Kp.trans {H H1 H2 : Hp} {A A1 A2 : Ads} (x : Kp H A H1 A1) (y : Kp H1 A1 H2 A2) : Kp H A H2 A2 :=
  ⟨fun a o h n => let ⟨h1, n1⟩ := x.keep a o h n; y.keep a o h1 n1, fun n a h => y.live n a (x.live n a h), Nat.le_trans x.len y.len, fun n a hn h => x.old n a hn (y.old n a (Nat.lt_of_lt_of_le hn x.len) h)⟩
theorem Later.refl (H : Hp) (A : Ads) : Later H A H A := ⟨Kp.refl H A, fun _ h => ⟨rfl, h⟩, fun _ _ _ h => h⟩
theorem Later.trans {H H1 H2 : Hp} {A A1 A2 : Ads} (x : Later H A H1 A1) (y : Later H1 A1 H2 A2) : Later H A H2 A2 :=
  ⟨x.toKp.trans y.toKp, fun a h => let ⟨e1, h1⟩ := x.ex a h; let ⟨e2, h2⟩ := y.ex a h1; ⟨e2.trans e1, h2⟩, fun a od u h => y.fz a od u (x.fz a od u h)⟩
theorem rd_keep {H H' : Hp} {A A' : Ads} {a : Addr} {u : HO} (l : Kp H A H' A') (h : Rd H a u) (n : Out A a) : Rd H' a u ∧ Out A' a := by
  rcases h with h | ⟨o, h⟩
  · exact ⟨.inl (l.keep _ _ h n).1, (l.keep _ _ h n).2⟩
  · exact ⟨.inr ⟨o, (l.keep _ _ h n).1⟩, (l.keep _ _ h n).2⟩
section
variable {K : PySem.W.Frag} {H H' : Hp} {A A' : Ads}
mutual
theorem Dt.kp (l : Kp H A H' A') : ∀ {v : V} {d : D}, Dt K H A v d → Dt K H' A' v d
  | _, _, .non => .non
  | _, _, .bl b => .bl b
  | _, _, .int b => .int b
  | _, _, .str b => .str b
  | _, _, .lst h n r => .lst (l.keep _ _ h n).1 (l.keep _ _ h n).2 (Dts.kp l r)
  | _, _, .tup h n r => .tup (l.keep _ _ h n).1 (l.keep _ _ h n).2 (Dts.kp l r)
  | _, _, .obj h n r => .obj (l.keep _ _ h n).1 (l.keep _ _ h n).2 (Dtf.kp l r)
  | _, _, .dic h n r => .dic (rd_keep l h n).1 (rd_keep l h n).2 (Dtk.kp l r)
  | _, _, .hdl h => .hdl (l.live _ _ h)
  | _, _, .fz h => .fz h
theorem Dts.kp (l : Kp H A H' A') : ∀ {v : List V} {d : List D}, Dts K H A v d → Dts K H' A' v d
  | _, _, .nil => .nil
  | _, _, .cons h r => .cons (Dt.kp l h) (Dts.kp l r)
theorem Dtf.kp (l : Kp H A H' A') : ∀ {v : List (Str × V)} {d : List (Str × D)}, Dtf K H A v d → Dtf K H' A' v d
  | _, _, .nil => .nil
  | _, _, .cons h r => .cons (Dt.kp l h) (Dtf.kp l r)
theorem Dtk.kp (l : Kp H A H' A') : ∀ {v : List (Key × V)} {d : List (Key × D)}, Dtk K H A v d → Dtk K H' A' v d
  | _, _, .nil => .nil
  | _, _, .cons h r => .cons (Dt.kp l h) (Dtk.kp l r)
end
theorem Dt.later {v : V} {d : D} (h : Dt K H A v d) (l : Later H A H' A') : Dt K H' A' v d := h.kp l.toKp
theorem Dts.later {v : List V} {d : List D} (h : Dts K H A v d) (l : Later H A H' A') : Dts K H' A' v d := h.kp l.toKp
theorem Dtf.later {v : List (Str × V)} {d : List (Str × D)} (h : Dtf K H A v d) (l : Later H A H' A') : Dtf K H' A' v d := h.kp l.toKp
theorem Dtk.later {v : List (Key × V)} {d : List (Key × D)} (h : Dtk K H A v d) (l : Later H A H' A') : Dtk K H' A' v d := h.kp l.toKp
theorem Dts.len : ∀ {v : List V} {d : List D}, Dts K H A v d → v.length = d.length
  | _, _, .nil => rfl
  | _, _, .cons _ r => congrArg (· + 1) r.len
theorem Dts.at : ∀ {v : List V} {d : List D} {i : Nat} {y : D}, Dts K H A v d → d[i]? = some y → ∃ x, v[i]? = some x ∧ Dt K H A x y
  | _, _, _, _, .nil, h => by simp at h
  | _, _, 0, _, .cons h _, e => ⟨_, rfl, by cases e; exact h⟩
  | _, _, i + 1, _, .cons _ r, e => by
    obtain ⟨x, hx, hd⟩ := r.at (i := i) (by simpa using e)
    exact ⟨x, by simpa using hx, hd⟩
theorem Dts.at' : ∀ {v : List V} {d : List D} {i : Nat} {x : V}, Dts K H A v d → v[i]? = some x → ∃ y, d[i]? = some y ∧ Dt K H A x y
  | _, _, _, _, .nil, h => by simp at h
  | _, _, 0, _, .cons h _, e => ⟨_, rfl, by cases e; exact h⟩
  | _, _, i + 1, _, .cons _ r, e => by
    obtain ⟨x, hx, hd⟩ := r.at' (i := i) (by simpa using e)
    exact ⟨x, by simpa using hx, hd⟩
theorem Dts.app : ∀ {v v' : List V} {d d' : List D}, Dts K H A v d → Dts K H A v' d' → Dts K H A (v ++ v') (d ++ d')
  | _, _, _, _, .nil, h => h
  | _, _, _, _, .cons h r, h' => .cons h (r.app h')
theorem Dts.one {v : V} {d : D} (h : Dt K H A v d) : Dts K H A [v] [d] := .cons h .nil
theorem Dts.take : ∀ {v : List V} {d : List D} (n : Nat), Dts K H A v d → Dts K H A (v.take n) (d.take n)
  | _, _, 0, _ => by simp; exact .nil
  | _, _, n + 1, .nil => by simp; exact .nil
  | _, _, n + 1, .cons h r => .cons h (r.take n)
theorem Dts.drop : ∀ {v : List V} {d : List D} (n : Nat), Dts K H A v d → Dts K H A (v.drop n) (d.drop n)
  | _, _, 0, h => h
  | _, _, n + 1, .nil => by simp; exact .nil
  | _, _, n + 1, .cons h r => r.drop n
theorem Dts.set : ∀ {v : List V} {d : List D} {x : V} {y : D} (n : Nat), Dts K H A v d → Dt K H A x y → Dts K H A (v.set n x) (d.set n y)
  | _, _, _, _, _, .nil, _ => .nil
  | _, _, _, _, 0, .cons _ r, h => .cons h r
  | _, _, _, _, n + 1, .cons h0 r, h => .cons h0 (r.set n h)
theorem Dts.erase : ∀ {v : List V} {d : List D} (n : Nat), Dts K H A v d → Dts K H A (v.eraseIdx n) (d.eraseIdx n)
  | _, _, _, .nil => .nil
  | _, _, 0, .cons _ r => r
  | _, _, n + 1, .cons h0 r => .cons h0 (r.erase n)
theorem Dts.rev : ∀ {v : List V} {d : List D}, Dts K H A v d → Dts K H A v.reverse d.reverse
  | _, _, .nil => .nil
  | _, _, .cons h r => by rw [List.reverse_cons, List.reverse_cons]; exact r.rev.app (.one h)
theorem Dts.strs : ∀ (l : List Str), Dts K H A (l.map V.str) (l.map D.str)
  | [] => .nil
  | x :: r => .cons (.str x) (Dts.strs r)
theorem Dts.ints : ∀ (l : List Int), Dts K H A (l.map V.int) (l.map D.int)
  | [] => .nil
  | x :: r => .cons (.int x) (Dts.ints r)
theorem Dts.strsV : ∀ {v : List V} {l : List Str}, Dts K H A v (l.map D.str) → v = l.map V.str
  | _, [], .nil => rfl
  | _, x :: r, .cons h t => by
    have := t.strsV
    cases h
    rw [this]
    rfl
theorem Dts.intsV : ∀ {v : List V} {l : List Int}, Dts K H A v (l.map D.int) → v = l.map V.int
  | _, [], .nil => rfl
  | _, x :: r, .cons h t => by
    have := t.intsV
    cases h
    rw [this]
    rfl
theorem Dtf.look : ∀ {fs : List (Str × V)} {gs : List (Str × D)} {f : Str} {y : D}, Dtf K H A fs gs → gs.lookup f = some y → ∃ x, fs.lookup f = some x ∧ Dt K H A x y
  | _, _, _, _, .nil, h => by cases h
  | _, _, f, y, .cons (f := g) h r, e => by
    by_cases hg : f == g
    · simp only [List.lookup, hg] at e ⊢
      cases e
      exact ⟨_, rfl, h⟩
    · have hg : (f == g) = false := by simpa using hg
      simp only [List.lookup, hg] at e ⊢
      exact r.look e
theorem Dtf.miss : ∀ {fs : List (Str × V)} {gs : List (Str × D)} {f : Str}, Dtf K H A fs gs → gs.lookup f = none → fs.lookup f = none
  | _, _, _, .nil, _ => rfl
  | _, _, f, .cons (f := g) h r, e => by
    by_cases hg : f == g
    · simp only [List.lookup, hg] at e
      cases e
    · have hg : (f == g) = false := by simpa using hg
      simp only [List.lookup, hg] at e ⊢
      exact r.miss e
theorem Dtf.len : ∀ {fs : List (Str × V)} {gs : List (Str × D)}, Dtf K H A fs gs → fs.length = gs.length
  | _, _, .nil => rfl
  | _, _, .cons _ r => congrArg (· + 1) r.len
end
def Cell (K : PySem.W.Frag) (H : Hp) (A : Ads) (a : Addr) : D → Prop
  | .lst ds => ∃ xs, H a = some (.lst xs) ∧ Dts K H A xs ds
  | .obj C gs => ∃ dx fs, H a = some (.ins (He.ga K C) dx fs) ∧ Dtf K H A fs gs ∧ gs.lookup ("literals" : Str) = none
  | .dic lk ds => ∃ kvs, (if lk = true then ∃ od, H a = some (.frz od (.dK kvs)) else H a = some (.dK kvs)) ∧ Dtk K H A kvs ds
  | _ => False
theorem Cell.here {K : PySem.W.Frag} {H : Hp} {A : Ads} {a : Addr} {c : D} (h : Cell K H A a c) : ∃ o, H a = some o := by
  cases c <;> first
    | exact h.elim
    | (obtain ⟨xs, h, _⟩ := h; exact ⟨_, h⟩)
    | (obtain ⟨dx, fs, h, _⟩ := h; exact ⟨_, h⟩)
    | (obtain ⟨kvs, h, _⟩ := h
       split at h
       · obtain ⟨od, h⟩ := h; exact ⟨_, h⟩
       · exact ⟨_, h⟩)
structure Cells (K : PySem.W.Frag) (H : Hp) (A : Ads) (S : List D) : Prop where
  len : A.c.length = S.length
  at_ : ∀ (n : Nat) (a : Addr), A.c[n]? = some (some a) → ∃ c, S[n]? = some c ∧ Cell K H A a c
  inj : ∀ (n m : Nat) (a : Addr), A.c[n]? = some (some a) → A.c[m]? = some (some a) → n = m
  xs : ∀ a, a ∈ A.x → ∃ zs, H a = some (.lst zs)
  xo : ∀ (n : Nat) (a : Addr), A.c[n]? = some (some a) → a ∉ A.x
structure Rel (K : PySem.W.Frag) (H : Hp) (A : Ads) (σ : L2.St) (ρ : List (Option D)) : Prop where
  len : σ.length = ρ.length
  at_ : ∀ (i : Nat) (d : D), ρ[i]? = some (some d) → ∃ v, σ[i]? = some (some v) ∧ Dt K H A v d
theorem Rel.kp {K : PySem.W.Frag} {H H' : Hp} {A A' : Ads} {σ : L2.St} {ρ : List (Option D)} (r : Rel K H A σ ρ) (l : Kp H A H' A') : Rel K H' A' σ ρ :=
  ⟨r.len, fun i d h => let ⟨v, e, t⟩ := r.at_ i d h; ⟨v, e, t.kp l⟩⟩
theorem Rel.later {K : PySem.W.Frag} {H H' : Hp} {A A' : Ads} {σ : L2.St} {ρ : List (Option D)} (r : Rel K H A σ ρ) (l : Later H A H' A') : Rel K H' A' σ ρ := r.kp l.toKp
theorem Rel.set {K : PySem.W.Frag} {H : Hp} {A : Ads} {σ : L2.St} {ρ : List (Option D)} {v : V} {d : D} (r : Rel K H A σ ρ) (i : Nat) (h : Dt K H A v d) : Rel K H A (σ.set i (some v)) (ρ.set i (some d)) := by
  refine ⟨by rw [List.length_set, List.length_set]; exact r.len, fun j e h' => ?_⟩
  by_cases hj : i = j
  · subst hj
    have hl : i < ρ.length := by
      have := (List.getElem?_eq_some_iff.mp h').1
      rwa [List.length_set] at this
    rw [List.getElem?_set_self hl] at h'
    cases h'
    exact ⟨v, by rw [List.getElem?_set_self (by rw [r.len]; exact hl)], h⟩
  · rw [List.getElem?_set_ne hj] at h'
    obtain ⟨u, eu, t⟩ := r.at_ j e h'
    exact ⟨u, by rw [List.getElem?_set_ne hj]; exact eu, t⟩
theorem Rel.unset {K : PySem.W.Frag} {H : Hp} {A : Ads} {σ : L2.St} {ρ : List (Option D)} {x : Option V} (r : Rel K H A σ ρ) (i : Nat) : Rel K H A (σ.set i x) (ρ.set i none) := by
  refine ⟨by rw [List.length_set, List.length_set]; exact r.len, fun j e h' => ?_⟩
  by_cases hj : i = j
  · subst hj
    have hl : i < ρ.length := by
      have := (List.getElem?_eq_some_iff.mp h').1
      rwa [List.length_set] at this
    rw [List.getElem?_set_self hl] at h'
    cases h'
  · rw [List.getElem?_set_ne hj] at h'
    obtain ⟨u, eu, t⟩ := r.at_ j e h'
    exact ⟨u, by rw [List.getElem?_set_ne hj]; exact eu, t⟩
section
variable {K : PySem.W.Frag} {H : Hp} {A : Ads} {S : List D} {p a : Addr} {o : HO}
theorem Cells.out (C : Cells K H A S) (h : H p = none) : Out A p := by
  refine ⟨fun m => ?_, fun m => ?_⟩
  · obtain ⟨n, e⟩ := List.mem_iff_getElem?.mp m
    obtain ⟨c, _, k⟩ := C.at_ n p e
    obtain ⟨o, e2⟩ := k.here
    rw [h] at e2
    cases e2
  · obtain ⟨o, e2⟩ := C.xs p m
    rw [h] at e2
    cases e2
theorem Later.new (C : Cells K H A S) (h : H p = none) : Later H A (upd H p o) A := ⟨⟨fun a u e n => ⟨by rw [upd_ne (ne_of_none e h)]; exact e, n⟩, fun _ _ e => e, Nat.le_refl _, fun _ _ _ e => e⟩, fun a m => ⟨by
  obtain ⟨u, e⟩ := C.xs a m
  rw [upd_ne (ne_of_none e h)], m⟩, fun a od u e => by rw [upd_ne (ne_of_none e h)]; exact e⟩
theorem Cell.go {H' : Hp} {A' : Ads} {c : D} (k : Cell K H A a c) (l : Kp H A H' A') (e : H' a = H a) : Cell K H' A' a c := by
  cases c <;> first
    | exact k.elim
    | (obtain ⟨xs, h, r⟩ := k; exact ⟨xs, e.trans h, r.kp l⟩)
    | (obtain ⟨dx, fs, h, r, z⟩ := k; exact ⟨dx, fs, e.trans h, r.kp l, z⟩)
    | (obtain ⟨kvs, h, r⟩ := k; exact ⟨kvs, by rw [e]; exact h, r.kp l⟩)
theorem Cells.new (C : Cells K H A S) (h : H p = none) : Cells K (upd H p o) A S :=
  ⟨C.len, fun n a e => by
    obtain ⟨c, e1, k⟩ := C.at_ n a e
    obtain ⟨u, e2⟩ := k.here
    exact ⟨c, e1, k.go (Later.new C h).toKp (upd_ne (ne_of_none e2 h))⟩, C.inj, fun a m => by
    obtain ⟨u, e⟩ := C.xs a m
    exact ⟨u, by rw [upd_ne (ne_of_none e h)]; exact e⟩, C.xo⟩
theorem Cells.same {H' : Hp} (C : Cells K H A S) (s : Same H H') : Cells K H' A S ∧ Later H A H' A := by
  have l : Later H A H' A := ⟨⟨fun a u e n => ⟨s _ _ e, n⟩, fun _ _ e => e, Nat.le_refl _, fun _ _ _ e => e⟩, fun a m => ⟨by
    obtain ⟨u, e⟩ := C.xs a m
    rw [e, s _ _ e], m⟩, fun a od u e => s _ _ e⟩
  refine ⟨⟨C.len, fun n a e => ?_, C.inj, fun a m => let ⟨u, e⟩ := C.xs a m; ⟨u, s _ _ e⟩, C.xo⟩, l⟩
  obtain ⟨c, e1, k⟩ := C.at_ n a e
  obtain ⟨u, e2⟩ := k.here
  exact ⟨c, e1, k.go l.toKp (by rw [e2]; exact s _ _ e2)⟩
def Ads.add (A : Ads) (p : Addr) : Ads := ⟨A.c ++ [some p], A.x⟩
theorem Later.cell (C : Cells K H A S) (h : H p = none) : Later H A (upd H p o) (A.add p) :=
  ⟨⟨fun a u e n => ⟨by rw [upd_ne (ne_of_none e h)]; exact e, fun m => by
    rcases List.mem_append.mp m with m | m
    · exact n.c m
    · have : a = p := by simpa using m
      exact ne_of_none e h this, n.x⟩, fun n a e => by
    show (A.c ++ [some p])[n]? = _
    rw [List.getElem?_append_left ((List.getElem?_eq_some_iff.mp e).1)]; exact e, by show _ ≤ (A.c ++ [some p]).length; rw [List.length_append]; omega, fun n a hn e => by
    have e : (A.c ++ [some p])[n]? = some (some a) := e
    rw [List.getElem?_append_left hn] at e
    exact e⟩, fun a m => ⟨by
    obtain ⟨u, e⟩ := C.xs a m
    rw [upd_ne (ne_of_none e h)], m⟩, fun a od u e => by rw [upd_ne (ne_of_none e h)]; exact e⟩
theorem Cells.cell (C : Cells K H A S) (h : H p = none) {c : D} (k : Cell K (upd H p o) (A.add p) p c) : Cells K (upd H p o) (A.add p) (S ++ [c]) := by
  have hl := C.len
  have out := C.out h
  have side : ∀ {n : Nat} {a : Addr}, (A.add p).c[n]? = some (some a) → (A.c[n]? = some (some a)) ∨ (n = A.c.length ∧ a = p) := fun {n a} e => by
    have e : (A.c ++ [some p])[n]? = some (some a) := e
    by_cases hn : n < A.c.length
    · exact .inl (by rw [List.getElem?_append_left hn] at e; exact e)
    · rw [List.getElem?_append_right (by omega)] at e
      have h0 : n - A.c.length = 0 := by
        have := (List.getElem?_eq_some_iff.mp e).1
        simp at this
        omega
      rw [h0] at e
      exact .inr ⟨by omega, by cases e; rfl⟩
  refine ⟨by show (A.c ++ [some p]).length = _; rw [List.length_append, List.length_append, hl]; rfl, fun n a e => ?_, fun n m a e e' => ?_, fun a m => ?_, fun n a e => ?_⟩
  · rcases side e with e | ⟨rfl, rfl⟩
    · have hn := (List.getElem?_eq_some_iff.mp e).1
      obtain ⟨c', e1, k'⟩ := C.at_ n a e
      obtain ⟨u, e2⟩ := k'.here
      exact ⟨c', by rw [List.getElem?_append_left (by omega)]; exact e1, k'.go (Later.cell C h).toKp (upd_ne (ne_of_none e2 h))⟩
    · exact ⟨c, by rw [List.getElem?_append_right (by omega), show A.c.length - S.length = 0 by omega]; rfl, k⟩
  · rcases side e with e1 | ⟨rfl, rfl⟩ <;> rcases side e' with e2 | ⟨rfl, e3⟩
    · exact C.inj n m a e1 e2
    · subst e3
      exact absurd (List.mem_iff_getElem?.mpr ⟨n, e1⟩) out.c
    · exact absurd (List.mem_iff_getElem?.mpr ⟨m, e2⟩) out.c
    · rfl
  · obtain ⟨u, e⟩ := C.xs a m
    exact ⟨u, by rw [upd_ne (ne_of_none e h)]; exact e⟩
  · rcases side e with e1 | ⟨rfl, rfl⟩
    · exact C.xo n a e1
    · exact out.x
theorem Kp.put {n : Nat} (h : A.c[n]? = some (some a)) : Kp H A (upd H a o) A := ⟨fun b u e m => ⟨by rw [upd_ne (fun z => m.c (by rw [z]; exact List.mem_iff_getElem?.mpr ⟨n, h⟩))]; exact e, m⟩, fun _ _ e => e, Nat.le_refl _, fun _ _ _ e => e⟩
theorem Later.put (C : Cells K H A S) {n : Nat} (h : A.c[n]? = some (some a)) (hf : ∀ od u, H a ≠ some (.frz od u)) : Later H A (upd H a o) A := ⟨Kp.put h, fun b m => ⟨upd_ne (fun z => C.xo n a h (by rw [← z]; exact m)), m⟩, fun b od u e => by rw [upd_ne (fun z => hf od u (by rw [← z]; exact e))]; exact e⟩
theorem Cells.put (C : Cells K H A S) {n : Nat} (h : A.c[n]? = some (some a)) {c : D} (k : Cell K (upd H a o) A a c) : Cells K (upd H a o) A (S.set n c) := by
  refine ⟨by rw [List.length_set]; exact C.len, fun m b e => ?_, C.inj, fun b m => ?_, C.xo⟩
  rotate_left
  · obtain ⟨u, e⟩ := C.xs b m
    exact ⟨u, by rw [upd_ne (fun z => C.xo n a h (by rw [← z]; exact m))]; exact e⟩
  by_cases hm : n = m
  · subst hm
    rw [h] at e
    cases e
    exact ⟨c, by rw [List.getElem?_set_self (by rw [← C.len]; exact (List.getElem?_eq_some_iff.mp h).1)], k⟩
  · obtain ⟨c', e1, k'⟩ := C.at_ m b e
    exact ⟨c', by rw [List.getElem?_set_ne hm]; exact e1, k'.go (Kp.put h) (upd_ne (fun z => hm (C.inj n m a h (by rw [← z]; exact e))))⟩
end
abbrev Rho := List (Option D)
abbrev Sto := List D
abbrev DQ := D → Sto → Prop
abbrev DE := Rho → Sto → DQ → Prop
abbrev DT := Rho → Sto → (Bool → Sto → Prop) → Prop
abbrev DA := Rho → Sto → (List D → Sto → Prop) → Prop
abbrev DX := Str → List (Str × D) → Sto → Prop
abbrev DW := Str → List (Str × D) → Rho → Sto → Prop
structure DEnds where
  nx : Rho → Sto → Prop
  rt : DQ
  bk : Rho → Sto → Prop := fun _ _ => False
  ct : Rho → Sto → Prop := fun _ _ => False
  b : Nat := 0
abbrev DS := DEnds → Rho → Sto → Prop
abbrev DG := D → Rho → Sto → (Rho → Sto → Prop) → Prop
structure StR (K : PySem.W.Frag) (H0 : Hp) (A0 : Ads) (σ : L2.St) (ρ : Rho) (A : Ads) (S : Sto) (H : Hp) : Prop where
  r : Rel K H A σ ρ
  c : Cells K H A S
  l : Later H0 A0 H A
theorem StR.go {K : PySem.W.Frag} {H0 H H' : Hp} {A0 A A' : Ads} {σ : L2.St} {ρ : Rho} {S S' : Sto} (x : StR K H0 A0 σ ρ A S H) (l : Later H A H' A') (c : Cells K H' A' S') : StR K H0 A0 σ ρ A' S' H' := ⟨x.r.later l, c, x.l.trans l⟩
theorem StR.base {K : PySem.W.Frag} {H0 H1 H : Hp} {A0 A1 A : Ads} {σ : L2.St} {ρ : Rho} {S : Sto} (x : StR K H1 A1 σ ρ A S H) (l : Later H0 A0 H1 A1) : StR K H0 A0 σ ρ A S H := ⟨x.r, x.c, l.trans x.l⟩
abbrev XdA (H : Hp) : Option Addr → List (Str × V) → Prop
  | some d, fs => H d = some (.xd fs)
  | none, fs => fs = []
def WRel (K : PySem.W.Frag) (H0 : Hp) (A0 : Ads) (W : WX) (WD : DW) : Prop := ∀ σ ρ A S H C gs fs d, StR K H0 A0 σ ρ A S H → XdA H d fs → Dtf K H A fs gs → WD C gs ρ S → W (.ref (He.ga K C)) d σ H
theorem WRel.base {K : PySem.W.Frag} {H0 H1 : Hp} {A0 A1 : Ads} {W : WX} {WD : DW} (h : WRel K H0 A0 W WD) (l : Later H0 A0 H1 A1) : WRel K H1 A1 W WD := fun σ ρ A S H C gs fs d x => h σ ρ A S H C gs fs d (x.base l)
def SimE (K : PySem.W.Frag) (W : WX) (WD : DW) (te : TE) (de : DE) : Prop := ∀ H0 A0, WRel K H0 A0 W WD → ∀ σ ρ A S H (Q : VK) (QD : DQ), StR K H0 A0 σ ρ A S H → de ρ S QD →
  (∀ v d A' S' H', Later H A H' A' → StR K H0 A0 σ ρ A' S' H' → Dt K H' A' v d → QD d S' → Q v H') → te σ H Q
def SimT (K : PySem.W.Frag) (W : WX) (WD : DW) (te : TT) (de : DT) : Prop := ∀ H0 A0, WRel K H0 A0 W WD → ∀ σ ρ A S H (Q : Bool → Hp → Prop) (QD : Bool → Sto → Prop), StR K H0 A0 σ ρ A S H → de ρ S QD →
  (∀ b A' S' H', Later H A H' A' → StR K H0 A0 σ ρ A' S' H' → QD b S' → Q b H') → te σ H Q
def SimA (K : PySem.W.Frag) (W : WX) (WD : DW) (te : TA) (de : DA) : Prop := ∀ H0 A0, WRel K H0 A0 W WD → ∀ σ ρ A S H (Q : List V → Hp → Prop) (QD : List D → Sto → Prop), StR K H0 A0 σ ρ A S H → de ρ S QD →
  (∀ vs ds A' S' H', Later H A H' A' → StR K H0 A0 σ ρ A' S' H' → Dts K H' A' vs ds → QD ds S' → Q vs H') → te σ H Q
structure ERel (K : PySem.W.Frag) (H0 : Hp) (A0 : Ads) (E : Ends) (F : DEnds) : Prop where
  nx : ∀ σ ρ A S H, StR K H0 A0 σ ρ A S H → F.nx ρ S → E.nx σ H
  bk : ∀ σ ρ A S H, StR K H0 A0 σ ρ A S H → F.bk ρ S → E.bk σ H
  ct : ∀ σ ρ A S H, StR K H0 A0 σ ρ A S H → F.ct ρ S → E.ct σ H
  rt : ∀ σ ρ A S H v d, StR K H0 A0 σ ρ A S H → Dt K H A v d → F.rt d S → E.rt v H
  b : F.b = A0.c.length
def SimS (K : PySem.W.Frag) (W : WX) (WD : DW) (ts : TS) (ds : DS) : Prop := ∀ H0 A0, WRel K H0 A0 W WD → ∀ σ ρ A S H E F, StR K H0 A0 σ ρ A S H → ERel K H0 A0 E F → ds F ρ S → ts E σ H
def SimG (K : PySem.W.Frag) (W : WX) (WD : DW) (tg : TG) (dg : DG) : Prop := ∀ H0 A0, WRel K H0 A0 W WD → ∀ σ ρ A S H v d (Q : L2.St → Hp → Prop) (QD : Rho → Sto → Prop), StR K H0 A0 σ ρ A S H → Dt K H A v d → dg d ρ S QD →
  (∀ σ' ρ' A' S' H', Later H A H' A' → StR K H0 A0 σ' ρ' A' S' H' → QD ρ' S' → Q σ' H') → tg v σ H Q
end Dx
namespace Dx
open PySem PySem.Spec PyProof.Rows L2 Px
def rs (S : Sto) : D → D
  | .hdl n => (S[n]?).getD .non
  | d => d
theorem rs_h {S : Sto} {n : Nat} {c : D} (h : S[n]? = some c) : rs S (.hdl n) = c := by
  show (S[n]?).getD .non = c
  rw [h]
  rfl
def Sq (S : Sto) (d : D) (ds : List D) : Prop := rs S d = .lst ds ∨ rs S d = .tup ds
def getK {α : Type} (l : List (Key × α)) (k : Key) : Option α := (l.find? fun kv => decide (kv.1 = k)).map (·.2)
section
variable {K : PySem.W.Frag} {H H' : Hp} {A : Ads} {S : Sto} {v : V} {d : D}
theorem ls_at {ds : List D} (C : Cells K H A S) (t : Dt K H A v d) (e : rs S d = .lst ds) : ∃ a xs, v = .ref a ∧ H a = some (.lst xs) ∧ Dts K H A xs ds := by
  cases t <;> first
    | (cases e; done)
    | skip
  · rename_i xs es h n r
    cases e
    exact ⟨_, _, rfl, h, r⟩
  · rename_i n a h
    obtain ⟨c, hc, k⟩ := C.at_ n a h
    rw [rs_h hc] at e
    subst e
    obtain ⟨xs, h2, r⟩ := k
    exact ⟨a, xs, rfl, h2, r⟩
theorem sq_at {ds : List D} (C : Cells K H A S) (t : Dt K H A v d) (e : Sq S d ds) : ∃ a xs, v = .ref a ∧ (H a = some (.lst xs) ∨ H a = some (.tup xs)) ∧ Dts K H A xs ds := by
  rcases e with e | e
  · obtain ⟨a, xs, e1, h, r⟩ := ls_at C t e
    exact ⟨a, xs, e1, .inl h, r⟩
  · cases t <;> first
      | (cases e; done)
      | skip
    · cases e
      rename_i h n r
      exact ⟨_, _, rfl, .inr h, r⟩
    · rename_i n a h
      obtain ⟨c, hc, k⟩ := C.at_ n a h
      rw [rs_h hc] at e
      subst e
      exact k.elim
theorem dc_at {ds : List (Key × D)} {lk : Bool} (C : Cells K H A S) (t : Dt K H A v d) (e : rs S d = .dic lk ds) : ∃ a kvs, v = .ref a ∧ Rd H a (.dK kvs) ∧ Dtk K H A kvs ds := by
  cases t <;> first
    | (cases e; done)
    | skip
  · cases e
    rename_i h n r
    exact ⟨_, _, rfl, h, r⟩
  · rename_i n a h
    obtain ⟨c, hc, k⟩ := C.at_ n a h
    rw [rs_h hc] at e
    subst e
    obtain ⟨kvs, h2, r⟩ := k
    refine ⟨a, kvs, rfl, ?_, r⟩
    split at h2
    · exact .inr h2
    · exact .inl h2
theorem ob_at {C0 : Str} {gs : List (Str × D)} (C : Cells K H A S) (t : Dt K H A v d) (e : rs S d = .obj C0 gs) : ∃ a dx fs, v = .ref a ∧ H a = some (.ins (He.ga K C0) dx fs) ∧ Dtf K H A fs gs := by
  cases t <;> first
    | (cases e; done)
    | skip
  · cases e
    rename_i n r h
    exact ⟨_, _, _, rfl, by assumption, by assumption⟩
  · rename_i n a h
    obtain ⟨c, hc, k⟩ := C.at_ n a h
    rw [rs_h hc] at e
    subst e
    obtain ⟨dx, fs, h2, r, _⟩ := k
    exact ⟨a, dx, fs, rfl, h2, r⟩
theorem Dtk.look : ∀ {kvs : List (Key × V)} {ds : List (Key × D)} (k : Key), Dtk K H A kvs ds → (getK ds k = none ∧ valV kvs k = none) ∨ ∃ x y, getK ds k = some y ∧ valV kvs k = some x ∧ Dt K H A x y
  | _, _, k, .nil => .inl ⟨rfl, rfl⟩
  | _, _, k, .cons (f := f) h r => by
    by_cases hk : f = k
    · exact .inr ⟨_, _, by unfold getK; rw [List.find?_cons_of_pos (by simpa using hk)]; rfl, valV_pos hk, h⟩
    · have e1 : ∀ {α : Type} (x : α) (l : List (Key × α)), getK ((f, x) :: l) k = getK l k := fun x l => by unfold getK; rw [List.find?_cons_of_neg (by simpa using hk)]
      rw [e1, valV_neg hk]
      exact r.look k
theorem Dtk.len : ∀ {kvs : List (Key × V)} {ds : List (Key × D)}, Dtk K H A kvs ds → kvs.length = ds.length
  | _, _, .nil => rfl
  | _, _, .cons _ r => congrArg (· + 1) r.len
def Go (K : PySem.W.Frag) (H : Hp) (A : Ads) (Q : VK) (QD : DQ) : Prop := ∀ v d A' S' H', Later H A H' A' → Cells K H' A' S' → Dt K H' A' v d → QD d S' → Q v H'
theorem Go.now {Q : VK} {QD : DQ} (k : Go K H A Q QD) (c : Cells K H A S) (t : Dt K H A v d) (h : QD d S) : Q v H := k v d A S H (Later.refl H A) c t h
def newAt (c : Bool) (ds : List D) (S : Sto) (Q : DQ) : Prop := match c with
  | true => Q (.hdl S.length) (S ++ [.lst ds])
  | false => Q (.lst ds) S
theorem mk_lst {c : Bool} {ds : List D} {xs : List V} {p : Addr} {Q : VK} {QD : DQ} (k : Go K H A Q QD) (C : Cells K H A S) (r : Dts K H A xs ds) (h : newAt c ds S QD) (hp : H p = none) : Q (.ref p) (upd H p (.lst xs)) := by
  cases c with
  | false => exact k _ _ A S _ (Later.new C hp) (C.new hp) (.lst upd_same (C.out hp) (r.later (Later.new C hp))) h
  | true =>
    refine k _ _ (A.add p) _ _ (Later.cell C hp) (C.cell hp (c := .lst ds) ⟨xs, upd_same, r.later (Later.cell C hp)⟩) (.hdl ?_) h
    show (A.c ++ [some p])[S.length]? = _
    rw [← C.len, List.getElem?_append_right (Nat.le_refl _), Nat.sub_self]
    rfl
theorem mk_tup {ds : List D} {xs : List V} {p : Addr} {Q : VK} {QD : DQ} (k : Go K H A Q QD) (C : Cells K H A S) (r : Dts K H A xs ds) (h : QD (.tup ds) S) (hp : H p = none) : Q (.ref p) (upd H p (.tup xs)) :=
  k _ _ A S _ (Later.new C hp) (C.new hp) (.tup upd_same (C.out hp) (r.later (Later.new C hp))) h
end
theorem SimE.at {K : PySem.W.Frag} {W : WX} {WD : DW} {te : TE} {de : DE} (h : SimE K W WD te de) {H0 A0 σ ρ A S H} {Q : VK} {QD : DQ} (hW : WRel K H0 A0 W WD) (x : StR K H0 A0 σ ρ A S H) (hd : de ρ S QD)
  (k : ∀ v d A' S' H', Later H A H' A' → StR K H0 A0 σ ρ A' S' H' → Dt K H' A' v d → QD d S' → Q v H') : te σ H Q := h H0 A0 hW σ ρ A S H Q QD x hd k
def OpD (K : PySem.W.Frag) (r : R2) (rd : D → D → Sto → DQ → Prop) : Prop := ∀ H A S x y dx dy Q QD, Cells K H A S → Dt K H A x dx → Dt K H A y dy → rd dx dy S QD → Go K H A Q QD → r x y H Q
def CbD (K : PySem.W.Frag) (r : List V → Hp → VK → Prop) (rd : List D → Sto → DQ → Prop) : Prop := ∀ H A S vs ds Q QD, Cells K H A S → Dts K H A vs ds → rd ds S QD → Go K H A Q QD → r vs H Q
section
variable {K : PySem.W.Frag} {W : WX} {WD : DW} {te ta tb : TE} {de da db : DE} {tt tu : TT} {dt du : DT} {tl : TA} {dl : DA} {i : Nat} {v : V} {d : D}
def dVar (i : Nat) : DE := fun ρ S Q => ∃ d, ρ[i]? = some (some d) ∧ Q d S
theorem sim_var : SimE K W WD (tVar i) (dVar i) := fun H0 A0 hW σ ρ A S H Q QD x ⟨d, e, h⟩ k =>
  let ⟨v, e1, t⟩ := x.r.at_ i d e
  ⟨v, e1, k v d A S H (Later.refl H A) x t h⟩
def dC (d : D) : DE := fun _ S Q => Q d S
theorem sim_c (t : ∀ H A, Dt K H A v d) : SimE K W WD (tC v) (dC d) := fun H0 A0 hW σ ρ A S H Q QD x h k => k v d A S H (Later.refl H A) x (t H A) h
def dOp (r : D → D → Sto → DQ → Prop) (da db : DE) : DE := fun ρ S Q => da ρ S fun x S1 => db ρ S1 fun y S2 => r x y S2 Q
theorem sim_op {r : R2} {rd : D → D → Sto → DQ → Prop} (hr : OpD K r rd) (ha : SimE K W WD ta da) (hb : SimE K W WD tb db) : SimE K W WD (tOp r ta tb) (dOp rd da db) := by
  intro H0 A0 hW σ ρ A S H Q QD x h k
  refine ha.at hW x h fun v1 d1 A1 S1 H1 l1 x1 t1 h1 => ?_
  refine hb.at hW x1 h1 fun v2 d2 A2 S2 H2 l2 x2 t2 h2 => ?_
  exact hr _ _ _ _ _ _ _ _ _ x2.c (t1.later l2) t2 h2 fun v d A' S' H' l3 c t h => k v d A' S' H' ((l1.trans l2).trans l3) (x2.go l3 c) t h
def dNil : DA := fun _ S Q => Q [] S
def dCons (da : DE) (dl : DA) : DA := fun ρ S Q => da ρ S fun x S1 => dl ρ S1 fun xs S2 => Q (x :: xs) S2
theorem sim_nil : SimA K W WD tNil dNil := fun H0 A0 hW σ ρ A S H Q QD x h k => k [] [] A S H (Later.refl H A) x .nil h
theorem sim_cons (ha : SimE K W WD ta da) (hl : SimA K W WD tl dl) : SimA K W WD (tCons ta tl) (dCons da dl) := by
  intro H0 A0 hW σ ρ A S H Q QD x h k
  refine ha.at hW x h fun v1 d1 A1 S1 H1 l1 x1 t1 h1 => ?_
  refine hl H0 A0 hW _ _ _ _ _ _ _ x1 h1 fun vs ds A2 S2 H2 l2 x2 ts h2 => ?_
  exact k _ _ A2 S2 H2 (l1.trans l2) x2 (.cons (t1.later l2) ts) h2
def dCB (r : List D → Sto → DQ → Prop) (dl : DA) : DE := fun ρ S Q => dl ρ S fun ds S1 => r ds S1 Q
theorem sim_cb {r : List V → Hp → VK → Prop} {rd : List D → Sto → DQ → Prop} (hr : CbD K r rd) (hl : SimA K W WD tl dl) : SimE K W WD (tCB r tl) (dCB rd dl) := by
  intro H0 A0 hW σ ρ A S H Q QD x h k
  refine hl H0 A0 hW _ _ _ _ _ _ _ x h fun vs ds A1 S1 H1 l1 x1 ts h1 => ?_
  exact hr _ _ _ _ _ _ _ x1.c ts h1 fun v d A' S' H' l2 c t h => k v d A' S' H' (l1.trans l2) (x1.go l2 c) t h
def dLst (c : Bool) (dl : DA) : DE := fun ρ S Q => dl ρ S fun ds S1 => ds.length ≤ sizeLine ∧ newAt c ds S1 Q
theorem sim_lst {c : Bool} (hl : SimA K W WD tl dl) : SimE K W WD (tLst tl) (dLst c dl) := by
  intro H0 A0 hW σ ρ A S H Q QD x h k
  refine hl H0 A0 hW _ _ _ _ _ _ _ x h fun vs ds A1 S1 H1 l1 x1 ts h1 => ⟨by rw [ts.len]; exact h1.1, fun p hp => ?_⟩
  exact mk_lst (fun v d A' S' H' l2 c t h => k v d A' S' H' (l1.trans l2) (x1.go l2 c) t h) x1.c ts h1.2 hp
def dTup (dl : DA) : DE := fun ρ S Q => dl ρ S fun ds S1 => ds.length ≤ sizeLine ∧ Q (.tup ds) S1
def isBl (d : D) (R : Bool → Prop) : Prop := ∃ b, d = .bl b ∧ R b
theorem Dt.isb {H : Hp} {A : Ads} {v : V} {b : Bool} (t : Dt K H A v (.bl b)) : v = .bl b := by cases t; rfl
def dTest (de : DE) : DT := fun ρ S Q => de ρ S fun d S1 => isBl d fun b => Q b S1
theorem sim_test (h : SimE K W WD te de) : SimT K W WD (tTest te) (dTest de) := by
  intro H0 A0 hW σ ρ A S H Q QD x hd k
  refine h.at hW x hd fun v1 d1 A1 S1 H1 l1 x1 t1 ⟨b, e, h1⟩ => ?_
  subst e
  exact ⟨b, t1.isb, k b A1 S1 H1 l1 x1 h1⟩
theorem sim_tB (h : SimE K W WD te de) : SimT K W WD (tB te) (dTest de) := sim_test h
def dAnd (dt du : DT) : DT := fun ρ S Q => dt ρ S fun c S1 => if c = true then du ρ S1 Q else Q false S1
def dOr (dt du : DT) : DT := fun ρ S Q => dt ρ S fun c S1 => if c = true then Q true S1 else du ρ S1 Q
def dNot (dt : DT) : DT := fun ρ S Q => dt ρ S fun c S1 => Q (!c) S1
theorem sim_and (h1 : SimT K W WD tt dt) (h2 : SimT K W WD tu du) : SimT K W WD (tAnd tt tu) (dAnd dt du) := by
  intro H0 A0 hW σ ρ A S H Q QD x hd k
  refine h1 H0 A0 hW _ _ _ _ _ _ _ x hd fun b A1 S1 H1 l1 x1 q => ?_
  cases b with
  | true =>
    rw [if_pos rfl] at q ⊢
    exact h2 H0 A0 hW _ _ _ _ _ _ _ x1 q fun b A2 S2 H2 l2 x2 q => k b A2 S2 H2 (l1.trans l2) x2 q
  | false =>
    rw [if_neg Bool.false_ne_true] at q ⊢
    exact k _ _ _ _ l1 x1 q
theorem sim_or (h1 : SimT K W WD tt dt) (h2 : SimT K W WD tu du) : SimT K W WD (tOr tt tu) (dOr dt du) := by
  intro H0 A0 hW σ ρ A S H Q QD x hd k
  refine h1 H0 A0 hW _ _ _ _ _ _ _ x hd fun b A1 S1 H1 l1 x1 q => ?_
  cases b with
  | false =>
    rw [if_neg Bool.false_ne_true] at q ⊢
    exact h2 H0 A0 hW _ _ _ _ _ _ _ x1 q fun b A2 S2 H2 l2 x2 q => k b A2 S2 H2 (l1.trans l2) x2 q
  | true =>
    rw [if_pos rfl] at q ⊢
    exact k _ _ _ _ l1 x1 q
theorem sim_not (h1 : SimT K W WD tt dt) : SimT K W WD (tNot tt) (dNot dt) := by
  intro H0 A0 hW σ ρ A S H Q QD x hd k
  exact h1 H0 A0 hW _ _ _ _ _ _ _ x hd fun b A1 S1 H1 l1 x1 q => k _ _ _ _ l1 x1 q
def dAndV (da db : DE) : DE := fun ρ S Q => da ρ S fun d S1 => isBl d fun c => if c = true then db ρ S1 Q else Q (.bl false) S1
def dOrV (da db : DE) : DE := fun ρ S Q => da ρ S fun d S1 => isBl d fun c => if c = true then Q (.bl true) S1 else db ρ S1 Q
def dNotV (da : DE) : DE := fun ρ S Q => da ρ S fun d S1 => isBl d fun c => Q (.bl (!c)) S1
theorem sim_andV (h1 : SimE K W WD ta da) (h2 : SimE K W WD tb db) : SimE K W WD (tAndV ta tb) (dAndV da db) := by
  intro H0 A0 hW σ ρ A S H Q QD x hd k
  refine h1.at hW x hd fun v1 d1 A1 S1 H1 l1 x1 t1 ⟨b, e, q⟩ => ?_
  subst e
  refine ⟨b, t1.isb, ?_⟩
  cases b with
  | true =>
    rw [if_pos rfl] at q ⊢
    exact h2.at hW x1 q fun v d A2 S2 H2 l2 x2 t q => k v d A2 S2 H2 (l1.trans l2) x2 t q
  | false =>
    rw [if_neg Bool.false_ne_true] at q ⊢
    exact k _ _ _ _ _ l1 x1 (.bl false) q
def dIf (dt : DT) (da db : DE) : DE := fun ρ S Q => dt ρ S fun c S1 => if c = true then da ρ S1 Q else db ρ S1 Q
def dUn (r : D → Sto → DQ → Prop) (da : DE) : DE := fun ρ S Q => da ρ S fun d S1 => r d S1 Q
def dNeg : D → Sto → DQ → Prop := fun d S Q => ∃ i, d = .int i ∧ Q (.int (-i)) S
theorem sim_neg (h1 : SimE K W WD ta da) : SimE K W WD (tUn (rU fun i => .int (-i)) ta) (dUn dNeg da) := by
  intro H0 A0 hW σ ρ A S H Q QD x hd k
  refine h1.at hW x hd fun v1 d1 A1 S1 H1 l1 x1 t1 ⟨i, e, q⟩ => ?_
  subst e
  cases t1
  exact ⟨i, rfl, k _ _ _ _ _ l1 x1 (.int _) q⟩
def dIn2 (C : Int → Int → Prop) (f : Int → Int → D) : D → D → Sto → DQ → Prop := fun x y S Q => ∃ i j, x = .int i ∧ y = .int j ∧ C i j ∧ Q (f i j) S
theorem op_in2 {C : Int → Int → Prop} {g : Int → Int → V} {f : Int → Int → D} (hg : ∀ i j H A, Dt K H A (g i j) (f i j)) : OpD K (rIn2 C g) (dIn2 C f) := by
  rintro H A S x y dx dy Q QD c tx ty ⟨i, j, rfl, rfl, hc, q⟩ k
  cases tx
  cases ty
  exact ⟨hc, k.now c (hg i j H A) q⟩
theorem op_in0 {g : Int → Int → V} {f : Int → Int → D} (hg : ∀ i j H A, Dt K H A (g i j) (f i j)) : OpD K (rIn0 g) (dIn2 (fun _ _ => True) f) := by
  rintro H A S x y dx dy Q QD c tx ty ⟨i, j, rfl, rfl, hc, q⟩ k
  cases tx
  cases ty
  exact k.now c (hg i j H A) q
def dSub := dIn2 (fun _ _ => True) fun i j => .int (i - j)
theorem op_sub : OpD K rSubP dSub := op_in0 fun i j H A => .int _
def dMul := dIn2 CMulP fun i j => .int (i * j)
theorem op_mul : OpD K rMulP dMul := op_in2 fun i j H A => .int _
def dPow := dIn2 CPow fun i j => .int (i ^ j.toNat)
theorem op_pow : OpD K rPowP dPow := op_in2 fun i j H A => .int _
def dLe := dIn2 (fun _ _ => True) fun i j => .bl (decide (i ≤ j))
def dGt := dIn2 (fun _ _ => True) fun i j => .bl (decide (j < i))
theorem op_gt : OpD K rGtP dGt := op_in0 fun i j H A => .bl _
def dGe := dIn2 (fun _ _ => True) fun i j => .bl (decide (j ≤ i))
theorem op_ge : OpD K rGeP dGe := op_in0 fun i j H A => .bl _
inductive dLt : D → D → Sto → DQ → Prop
  | int {i j : Int} {S : Sto} {Q : DQ} : Q (.bl (decide (i < j))) S → dLt (.int i) (.int j) S Q
  | str {i j : Str} {S : Sto} {Q : DQ} : Q (.bl (decide (i.cps.toList < j.cps.toList))) S → dLt (.str i) (.str j) S Q
theorem op_lt : OpD K rLtP dLt := by
  intro H A S x y dx dy Q QD c tx ty h k
  cases h with
  | int h => cases tx; cases ty; exact k.now c (.bl _) h
  | str h => cases tx; cases ty; exact k.now c (.bl _) h
inductive dAdd (b : Bool) : D → D → Sto → DQ → Prop
  | int {i j : Int} {S : Sto} {Q : DQ} : Q (.int (i + j)) S → dAdd b (.int i) (.int j) S Q
  | str {i j : Str} {S : Sto} {Q : DQ} : i.length + j.length ≤ sizeLine → Q (.str (i ++ j)) S → dAdd b (.str i) (.str j) S Q
  | lst {x y : D} {ds es : List D} {S : Sto} {Q : DQ} : rs S x = .lst ds → rs S y = .lst es → ds.length + es.length ≤ sizeLine → newAt b (ds ++ es) S Q → dAdd b x y S Q
  | tup {ds es : List D} {S : Sto} {Q : DQ} : ds.length + es.length ≤ sizeLine → Q (.tup (ds ++ es)) S → dAdd b (.tup ds) (.tup es) S Q
theorem op_add {b : Bool} : OpD K (rAddP K) (dAdd b) := by
  intro H A S x y dx dy Q QD c tx ty h k
  cases h with
  | int h => cases tx; cases ty; exact k.now c (.int _) h
  | str l h => cases tx; cases ty; exact ⟨l, k.now c (.str _) h⟩
  | lst e1 e2 l h =>
    obtain ⟨a, xs, rfl, h1, r1⟩ := ls_at c tx e1
    obtain ⟨a', ys, rfl, h2, r2⟩ := ls_at c ty e2
    exact .inl ⟨_, _, _, _, rfl, rfl, h1, h2, by rw [r1.len, r2.len]; exact l, fun p hp => mk_lst k c (r1.app r2) h hp⟩
  | tup l h =>
    cases tx with
    | tup h1 n1 r1 =>
      cases ty with
      | tup h2 n2 r2 =>
        rename_i a xs a' ys
        refine .inr ⟨_, _, _, _, rfl, rfl, SqT.of h1, SqT.of h2, by rw [r1.len, r2.len]; exact l, fun e => ?_, fun _ e => ?_, fun _ _ p hp => mk_tup k c (r1.app r2) h hp⟩
        · subst e
          cases r1
          exact k.now c (.tup h2 n2 r2) h
        · subst e
          cases r2
          rw [List.append_nil] at h
          exact k.now c (.tup h1 n1 r1) h
inductive dEq : D → D → Sto → DQ → Prop
  | int {i j : Int} {S : Sto} {Q : DQ} : Q (.bl (decide (i = j))) S → dEq (.int i) (.int j) S Q
  | str {i j : Str} {S : Sto} {Q : DQ} : Q (.bl (decide (i = j))) S → dEq (.str i) (.str j) S Q
  | bl {i j : Bool} {S : Sto} {Q : DQ} : Q (.bl (decide (i = j))) S → dEq (.bl i) (.bl j) S Q
theorem op_eq : OpD K (rEqP K) dEq := by
  intro H A S x y dx dy Q QD c tx ty h k
  cases h with
  | int h => cases tx; cases ty; exact s_eqI (k.now c (.bl _) h)
  | str h => cases tx; cases ty; exact s_eqS (k.now c (.bl _) h)
  | bl h => cases tx; cases ty; exact s_eqB (k.now c (.bl _) h)
inductive dNe : D → D → Sto → DQ → Prop
  | int {i j : Int} {S : Sto} {Q : DQ} : Q (.bl (!decide (i = j))) S → dNe (.int i) (.int j) S Q
  | str {i j : Str} {S : Sto} {Q : DQ} : Q (.bl (!decide (i = j))) S → dNe (.str i) (.str j) S Q
  | bl {i j : Bool} {S : Sto} {Q : DQ} : Q (.bl (!decide (i = j))) S → dNe (.bl i) (.bl j) S Q
theorem op_ne : OpD K (rNeP K) dNe := by
  intro H A S x y dx dy Q QD c tx ty h k
  cases h with
  | int h => cases tx; cases ty; exact s_neI (k.now c (.bl _) h)
  | str h => cases tx; cases ty; exact s_neS (k.now c (.bl _) h)
  | bl h =>
    cases tx; cases ty
    rename_i i j
    show Q (.bl (!decide (V.bl i = V.bl j))) H
    rw [show decide (V.bl i = V.bl j) = decide (i = j) from by rw [Bool.eq_iff_iff]; simp]
    exact k.now c (.bl _) h
def isNon : D → Bool
  | .non => true
  | _ => false
def dIs (neg : Bool) : D → D → Sto → DQ → Prop := fun x y S Q => y = .non ∧ Q (.bl (tgtIn neg (isNon x))) S
theorem op_is {neg : Bool} : OpD K (rIsP neg) (dIs neg) := by
  rintro H A S x y dx dy Q QD c tx ty ⟨rfl, h⟩ k
  cases ty
  refine ⟨rfl, ?_⟩
  have e : decide (x = V.non) = isNon dx := by cases tx <;> first | rfl | (simp [isNon])
  rw [e]
  exact k.now c (.bl _) h
inductive dIn (neg : Bool) : D → D → Sto → DQ → Prop
  | sub {i j : Str} {S : Sto} {Q : DQ} : Q (.bl (tgtIn neg (strIn i j))) S → dIn neg (.str i) (.str j) S Q
  | ss {z : Str} {l : List Str} {y : D} {S : Sto} {Q : DQ} : Sq S y (l.map .str) → Q (.bl (tgtIn neg (decide (z ∈ l)))) S → dIn neg (.str z) y S Q
  | is {z : Int} {l : List Int} {y : D} {S : Sto} {Q : DQ} : Sq S y (l.map .int) → Q (.bl (tgtIn neg (decide (z ∈ l)))) S → dIn neg (.int z) y S Q
  | dstr {z : Str} {ds : List (Key × D)} {lk : Bool} {y : D} {S : Sto} {Q : DQ} : rs S y = .dic lk ds → Q (.bl (tgtIn neg (getK ds (.inr z)).isSome)) S → dIn neg (.str z) y S Q
  | dint {z : Int} {ds : List (Key × D)} {lk : Bool} {y : D} {S : Sto} {Q : DQ} : rs S y = .dic lk ds → Q (.bl (tgtIn neg (getK ds (.inl z)).isSome)) S → dIn neg (.int z) y S Q
theorem op_in {neg : Bool} : OpD K (rInP K neg) (dIn neg) := by
  intro H A S x y dx dy Q QD c tx ty h k
  have dget : ∀ {a : Addr} {kvs : List (Key × V)} {key : Key}, Rd H a (.dK kvs) → DGet H a (kV key) (valV kvs key) := fun r => .inl ⟨_, _, r, rfl, rfl⟩
  cases h with
  | sub h => cases tx; cases ty; exact k.now c (.bl _) h
  | ss e h =>
    cases tx
    obtain ⟨a, xs, rfl, h1, r⟩ := sq_at c ty e
    rw [r.strsV] at h1
    rcases h1 with h1 | h1
    · exact s_inL h1 rfl (flat_strs _) (by rw [inV_strs]; exact k.now c (.bl _) h)
    · exact s_inT h1 rfl (flat_strs _) (by rw [inV_strs]; exact k.now c (.bl _) h)
  | is e h =>
    cases tx
    obtain ⟨a, xs, rfl, h1, r⟩ := sq_at c ty e
    rw [r.intsV] at h1
    have fl : ∀ l : List Int, (l.map V.int).all flatV = true := fun l => by simp [flatV]
    rcases h1 with h1 | h1
    · exact s_inL h1 rfl (fl _) (by rw [inV_ints]; exact k.now c (.bl _) h)
    · exact s_inT h1 rfl (fl _) (by rw [inV_ints]; exact k.now c (.bl _) h)
  | dstr e h =>
    cases tx
    rename_i z ds lk
    obtain ⟨a, kvs, rfl, h1, r⟩ := dc_at c ty e
    refine .inr ⟨_, dget (key := .inr z) h1, ?_⟩
    rcases r.look (.inr z) with ⟨e1, e2⟩ | ⟨u, w, e1, e2, _⟩
    · rw [e2]; rw [e1] at h; exact k.now c (.bl _) h
    · rw [e2]; rw [e1] at h; exact k.now c (.bl _) h
  | dint e h =>
    cases tx
    rename_i z ds lk
    obtain ⟨a, kvs, rfl, h1, r⟩ := dc_at c ty e
    refine .inr ⟨_, dget (key := .inl z) h1, ?_⟩
    rcases r.look (.inl z) with ⟨e1, e2⟩ | ⟨u, w, e1, e2, _⟩
    · rw [e2]; rw [e1] at h; exact k.now c (.bl _) h
    · rw [e2]; rw [e1] at h; exact k.now c (.bl _) h
theorem at_D {H : Hp} {A : Ads} {xs : List V} {ds : List D} {i : Int} {y : D} (r : Dts K H A xs ds) (h : atI ds i = some y) : ∃ x, atI xs i = some x ∧ Dt K H A x y := by
  unfold atI at h ⊢
  rw [r.len]
  cases e : ixN ds.length i with
  | none => rw [e] at h; cases h
  | some j =>
    rw [e] at h
    obtain ⟨x, hx, t⟩ := r.at h
    exact ⟨x, hx, t⟩
inductive dIx : D → D → Sto → DQ → Prop
  | str {z : Str} {i : Int} {c : Nat} {S : Sto} {Q : DQ} : z.length ≤ sizeLine → atI z.cps.toList i = some c → Q (.str ⟨#[c]⟩) S → dIx (.str z) (.int i) S Q
  | seq {x y : D} {ds : List D} {i : Int} {S : Sto} {Q : DQ} : Sq S x ds → atI ds i = some y → Q y S → dIx x (.int i) S Q
theorem op_ix : OpD K (rIxP K) dIx := by
  intro H A S x y dx dy Q QD c tx ty h k
  cases h with
  | str l e h => cases tx; cases ty; exact ⟨l, _, e, k.now c (.str _) h⟩
  | seq e1 e2 h =>
    cases ty
    obtain ⟨a, xs, rfl, h1, r⟩ := sq_at c tx e1
    obtain ⟨x, hx, t⟩ := at_D r e2
    rcases h1 with h1 | h1
    · exact s_ixL h1 hx (k.now c t h)
    · exact s_ixT h1 hx (k.now c t h)
def cutD (xs : List D) (lo hi : Option Int) : List D := (xs.drop (HT.sIx xs.length 0 lo)).take (HT.sIx xs.length xs.length hi - HT.sIx xs.length 0 lo)
theorem Dts.cut {H : Hp} {A : Ads} {xs : List V} {ds : List D} (r : Dts K H A xs ds) (lo hi : Option Int) : Dts K H A (cutV xs lo hi) (cutD ds lo hi) := by
  unfold cutV cutD
  rw [r.len]
  exact (r.drop _).take _
abbrev DO := Rho → Sto → (Option Int → Sto → Prop) → Prop
def SimO (K : PySem.W.Frag) (W : WX) (WD : DW) (te : TO) (de : DO) : Prop := ∀ H0 A0, WRel K H0 A0 W WD → ∀ σ ρ A S H (Q : Option Int → Hp → Prop) (QD : Option Int → Sto → Prop), StR K H0 A0 σ ρ A S H → de ρ S QD →
  (∀ v A' S' H', Later H A H' A' → StR K H0 A0 σ ρ A' S' H' → QD v S' → Q v H') → te σ H Q
def dNoPart : DO := fun _ S Q => Q none S
def dPart (de : DE) : DO := fun ρ S Q => de ρ S fun d S1 => ∃ i, d = .int i ∧ Q (some i) S1
theorem sim_nopart : SimO K W WD tNoPart dNoPart := fun H0 A0 hW σ ρ A S H Q QD x h k => k _ _ _ _ (Later.refl H A) x h
theorem sim_part (h1 : SimE K W WD te de) : SimO K W WD (tPart te) (dPart de) := by
  intro H0 A0 hW σ ρ A S H Q QD x hd k
  refine h1.at hW x hd fun v1 d1 A1 S1 H1 l1 x1 t1 ⟨i, e, q⟩ => ?_
  subst e
  cases t1
  exact ⟨i, rfl, k _ _ _ _ l1 x1 q⟩
inductive dSlR (b : Bool) : D → Option Int → Option Int → Sto → DQ → Prop
  | str {z : Str} {lo hi : Option Int} {S : Sto} {Q : DQ} : z.length ≤ sizeLine → Q (.str (cutS z lo hi)) S → dSlR b (.str z) lo hi S Q
  | lst {x : D} {ds : List D} {lo hi : Option Int} {S : Sto} {Q : DQ} : rs S x = .lst ds → newAt b (cutD ds lo hi) S Q → dSlR b x lo hi S Q
def dSl (b : Bool) (de : DE) (lo hi : DO) : DE := fun ρ S Q => de ρ S fun x S1 => lo ρ S1 fun l S2 => hi ρ S2 fun u S3 => dSlR b x l u S3 Q
theorem sim_sl {b : Bool} {lo hi : TO} {dlo dhi : DO} (h1 : SimE K W WD te de) (h2 : SimO K W WD lo dlo) (h3 : SimO K W WD hi dhi) : SimE K W WD (tSl (rSlP K) te lo hi) (dSl b de dlo dhi) := by
  intro H0 A0 hW σ ρ A S H Q QD x hd k
  refine h1.at hW x hd fun v1 d1 A1 S1 H1 l1 x1 t1 q1 => ?_
  refine h2 H0 A0 hW _ _ _ _ _ _ _ x1 q1 fun o A2 S2 H2 l2 x2 q2 => ?_
  refine h3 H0 A0 hW _ _ _ _ _ _ _ x2 q2 fun p A3 S3 H3 l3 x3 q3 => ?_
  have t3 := t1.later (l2.trans l3)
  have l := (l1.trans l2).trans l3
  cases q3 with
  | str z q => cases t3; exact ⟨z, k _ _ _ _ _ l x3 (.str _) q⟩
  | lst e q =>
    obtain ⟨a, xs, rfl, h1, r⟩ := ls_at x3.c t3 e
    exact .inl ⟨a, xs, rfl, SqL.of h1, fun p hp => mk_lst (fun v d A' S' H' l4 c t h => k v d A' S' H' (l.trans l4) (x3.go l4 c) t h) x3.c (r.cut _ _) q hp⟩
inductive dLen : List D → Sto → DQ → Prop
  | str {z : Str} {S : Sto} {Q : DQ} : z.length ≤ sizeLine → Q (.int z.length) S → dLen [.str z] S Q
  | seq {x : D} {ds : List D} {S : Sto} {Q : DQ} : Sq S x ds → Q (.int ds.length) S → dLen [x] S Q
theorem cb_len : CbD K (rLenP K) dLen := by
  intro H A S vs ds Q QD c ts h k
  cases h with
  | str l h =>
    cases ts with
    | cons t ts => cases t; cases ts; exact ⟨l, k.now c (.int _) h⟩
  | seq e h =>
    cases ts with
    | cons t ts =>
      cases ts
      obtain ⟨a, xs, rfl, h1, r⟩ := sq_at c t e
      rw [← r.len] at h
      exact .inl ⟨xs, h1.elim (fun z => .inl (SqL.of z)) fun z => .inr (SqT.of z), k.now c (.int _) h⟩
inductive dInt : List D → Sto → DQ → Prop
  | int {i : Int} {S : Sto} {Q : DQ} : Q (.int i) S → dInt [.int i] S Q
  | bl {b : Bool} {S : Sto} {Q : DQ} : Q (.int (if b then 1 else 0)) S → dInt [.bl b] S Q
theorem cb_int : CbD K rIntP dInt := by
  intro H A S vs ds Q QD c ts h k
  cases h with
  | int h => cases ts with | cons t ts => cases t; cases ts; exact k.now c (.int _) h
  | bl h => cases ts with | cons t ts => cases t; cases ts; exact k.now c (.int _) h
inductive dStr : List D → Sto → DQ → Prop
  | int {i : Int} {S : Sto} {Q : DQ} : i.natAbs.log2 < 1920 → Q (.str (toString i)) S → dStr [.int i] S Q
  | str {z : Str} {S : Sto} {Q : DQ} : Q (.str z) S → dStr [.str z] S Q
inductive dList (b : Bool) : List D → Sto → DQ → Prop
  | seq {x : D} {ds : List D} {S : Sto} {Q : DQ} : Sq S x ds → newAt b ds S Q → dList b [x] S Q
  | fz {S : Sto} {Q : DQ} : newAt b [] S Q → dList b [.fz] S Q
theorem cb_list {b : Bool} : CbD K (rListP K) (dList b) := by
  intro H A S vs ds Q QD c ts h k
  cases h with
  | seq e h =>
    cases ts with
    | cons t ts =>
      cases ts
      obtain ⟨a, xs, rfl, h1, r⟩ := sq_at c t e
      exact ⟨a, xs, rfl, h1.elim (fun z => .inl (SqL.of z)) fun z => .inr (SqT.of z), fun p hp => mk_lst k c r h hp⟩
  | fz h =>
    cases ts with
    | cons t ts =>
      cases ts
      cases t with
      | fz hz => exact ⟨_, _, rfl, .inr (hz _), fun p hp => mk_lst k c .nil h hp⟩
inductive dTuple : List D → Sto → DQ → Prop
  | seq {x : D} {ds : List D} {S : Sto} {Q : DQ} : Sq S x ds → Q (.tup ds) S → dTuple [x] S Q
inductive dAll (any : Bool) : List D → Sto → DQ → Prop
  | mk {x : D} {bs : List Bool} {S : Sto} {Q : DQ} : rs S x = .lst (bs.map .bl) → Q (.bl (if any then bs.any id else bs.all id)) S → dAll any [x] S Q
inductive dSorted (b : Bool) : List D → Sto → DQ → Prop
  | ss {x : D} {l : List Str} {S : Sto} {Q : DQ} : rs S x = .lst (l.map .str) → (∀ ys : List Str, ys.Perm l → sortedS ys = true → newAt b (ys.map .str) S Q) → dSorted b [x] S Q
end
end Dx
namespace Dx
open PySem PySem.Spec PyProof.Rows L2 Px
section
variable {K : PySem.W.Frag} {W : WX} {WD : DW} {te ta tb : TE} {de da db : DE} {tt : TT} {dt : DT} {tl : TA} {dl : DA} {ts tu : TS} {ds du : DS} {tg : TG} {dg : DG} {i : Nat}
def dgName (i : Nat) : DG := fun d ρ S Q => Q (ρ.set i (some d)) S
theorem sim_gname : SimG K W WD (gName i) (dgName i) := fun H0 A0 hW σ ρ A S H v d Q QD x t h k => k _ _ A S H (Later.refl H A) ⟨x.r.set i t, x.c, x.l⟩ h
abbrev DGs := List D → Rho → Sto → (Rho → Sto → Prop) → Prop
def dgNil : DGs := fun ds ρ S Q => ds = [] ∧ Q ρ S
def dgCons (g : DG) (r : DGs) : DGs := fun ds ρ S Q => ∃ d es, ds = d :: es ∧ g d ρ S fun ρ1 S1 => r es ρ1 S1 Q
def dgTup (n : Nat) (g : DGs) : DG := fun d ρ S Q => ∃ ds, d = .tup ds ∧ ds.length = n ∧ g ds ρ S Q
def putG {α : Type} (l : List (Key × α)) (k : Key) (y : α) : List (Key × α) := if l.any (fun kv => decide (kv.1 = k)) then l.map (fun kv => if kv.1 = k then (kv.1, y) else kv) else l ++ [(k, y)]
theorem Dtk.app {H : Hp} {A : Ads} {k : Key} {v : V} {d : D} (h : Dt K H A v d) : ∀ {l : List (Key × V)} {m : List (Key × D)}, Dtk K H A l m → Dtk K H A (l ++ [(k, v)]) (m ++ [(k, d)])
  | _, _, .nil => .cons h .nil
  | _, _, .cons h1 r => .cons h1 (r.app h)
theorem Dtk.any {H : Hp} {A : Ads} {k : Key} : ∀ {l : List (Key × V)} {m : List (Key × D)}, Dtk K H A l m → l.any (fun kv => decide (kv.1 = k)) = m.any (fun kv => decide (kv.1 = k))
  | _, _, .nil => rfl
  | _, _, .cons _ r => by rw [List.any_cons, List.any_cons, r.any]
theorem Dtk.rep {H : Hp} {A : Ads} {k : Key} {v : V} {d : D} (h : Dt K H A v d) : ∀ {l : List (Key × V)} {m : List (Key × D)}, Dtk K H A l m → Dtk K H A (l.map fun kv => if kv.1 = k then (kv.1, v) else kv) (m.map fun kv => if kv.1 = k then (kv.1, d) else kv)
  | _, _, .nil => .nil
  | _, _, .cons (f := f) h1 r => by
    rw [List.map_cons, List.map_cons]
    by_cases e : f = k
    · rw [if_pos e, if_pos e]; exact .cons h (r.rep h)
    · rw [if_neg e, if_neg e]; exact .cons h1 (r.rep h)
theorem Dtk.put {H : Hp} {A : Ads} {k : Key} {v : V} {d : D} {l : List (Key × V)} {m : List (Key × D)} (r : Dtk K H A l m) (h : Dt K H A v d) : Dtk K H A (putK l k v) (putG m k d) := by
  unfold putK putG
  rw [r.any]
  split
  · exact r.rep h
  · exact r.app h
def kD : Key → D
  | .inl i => .int i
  | .inr z => .str z
theorem kD_V {H : Hp} {A : Ads} {v : V} {k : Key} (t : Dt K H A v (kD k)) : v = kV k := by
  cases k with
  | inl i => cases t; rfl
  | inr z => cases t; rfl
inductive dSet : D → D → D → Sto → (Sto → Prop) → Prop
  | lst {n j : Nat} {k : Int} {d : D} {ds : List D} {S : Sto} {Q : Sto → Prop} : S[n]? = some (.lst ds) → ixN ds.length k = some j → Q (S.set n (.lst (ds.set j d))) → dSet (.hdl n) (.int k) d S Q
  | dic {n : Nat} {key : Key} {d x : D} {ds : List (Key × D)} {S : Sto} {Q : Sto → Prop} : S[n]? = some (.dic false ds) → x = kD key → ds.length < sizeLine → Q (S.set n (.dic false (putG ds key d))) → dSet (.hdl n) x d S Q
def dgSub (da db : DE) : DG := fun d ρ S Q => da ρ S fun o S1 => db ρ S1 fun i S2 => dSet o i d S2 fun S3 => Q ρ S3
theorem sim_gsub (h1 : SimE K W WD ta da) (h2 : SimE K W WD tb db) : SimG K W WD (gSub ta tb rSetP) (dgSub da db) := by
  intro H0 A0 hW σ ρ A S H v d Q QD x t h k
  refine h1.at hW x h fun v1 d1 A1 S1 H1 l1 x1 t1 q1 => ?_
  refine h2.at hW x1 q1 fun v2 d2 A2 S2 H2 l2 x2 t2 q2 => ?_
  have t3 := t.later (l1.trans l2)
  have t4 := t1.later l2
  have l := l1.trans l2
  cases q2 with
  | lst hs hj q =>
    cases t2
    cases t4 with
    | hdl ha =>
      rename_i n j kk es a
      obtain ⟨c, hc, kc⟩ := x2.c.at_ n a ha
      rw [hs] at hc
      cases hc
      obtain ⟨xs, hx, r⟩ := kc
      have lp := Later.put x2.c ha (fun _ _ e => by rw [hx] at e; cases e) (o := .lst (xs.set j v))
      refine .inl ⟨_, _, _, _, rfl, rfl, hx, by rw [r.len]; exact hj, ?_⟩
      exact k _ _ _ _ _ (l.trans lp) (x2.go lp (x2.c.put ha (c := .lst (es.set j d)) ⟨_, upd_same, (r.set j t3).later lp⟩)) q
  | dic hs ek hl q =>
    subst ek
    cases t4 with
    | hdl ha =>
      rename_i n key es a
      obtain ⟨c, hc, kc⟩ := x2.c.at_ n a ha
      rw [hs] at hc
      cases hc
      obtain ⟨kvs, hx, r⟩ := kc
      have hx : H2 a = some (.dK kvs) := hx
      have lp := Later.put x2.c ha (fun _ _ e => by rw [hx] at e; cases e) (o := .dK (putK kvs key v))
      refine .inr ⟨_, by rw [kD_V t2]; exact DPut.k hx (by rw [r.len]; exact hl), ?_⟩
      exact k _ _ _ _ _ (l.trans lp) (x2.go lp (x2.c.put ha (c := .dic false (putG es key d)) ⟨_, upd_same, (r.put t3).later lp⟩)) q
def dNext : DS := fun F ρ S => F.nx ρ S
theorem sim_next : SimS K W WD tNext dNext := fun H0 A0 hW σ ρ A S H E F x e h => e.nx _ _ _ _ _ x h
def dBreak : DS := fun F ρ S => F.bk ρ S
def dCont : DS := fun F ρ S => F.ct ρ S
def dNever : DS := fun _ _ _ => False
theorem sim_never : SimS K W WD tNever dNever := fun H0 A0 hW σ ρ A S H E F x e h => h.elim
def dSeq (d u : DS) : DS := fun F ρ S => d { F with nx := u F } ρ S
theorem sim_seq (h1 : SimS K W WD ts ds) (h2 : SimS K W WD tu du) : SimS K W WD (tSeq ts tu) (dSeq ds du) := fun H0 A0 hW σ ρ A S H E F x e h =>
  h1 H0 A0 hW _ _ _ _ _ _ { F with nx := du F } x ⟨fun σ ρ A S H x q => h2 H0 A0 hW _ _ _ _ _ _ _ x e q, e.bk, e.ct, e.rt, e.b⟩ h
def dCut (d u : DS) : DS := fun F ρ S => ∃ Mid : Rho → Sto → Prop, d { F with nx := Mid } ρ S ∧ ∀ ρ' S', Mid ρ' S' → u F ρ' S'
theorem sim_cut (h1 : SimS K W WD ts ds) (h2 : SimS K W WD tu du) : SimS K W WD (tCut ts tu) (dCut ds du) := by
  rintro H0 A0 hW σ ρ A S H E F x e ⟨Mid, h, hm⟩
  refine ⟨fun σ' H' => ∃ ρ' A' S', StR K H0 A0 σ' ρ' A' S' H' ∧ Mid ρ' S', ?_, ?_⟩
  · exact h1 H0 A0 hW _ _ _ _ _ _ { F with nx := Mid } x ⟨fun σ ρ A S H x q => ⟨ρ, A, S, x, q⟩, e.bk, e.ct, e.rt, e.b⟩ h
  · rintro σ' H' ⟨ρ', A', S', x', q⟩
    exact h2 H0 A0 hW _ _ _ _ _ _ _ x' e (hm _ _ q)
def dAsg (de : DE) (dg : DG) : DS := fun F ρ S => de ρ S fun d S1 => dg d ρ S1 F.nx
theorem sim_asg (h1 : SimE K W WD te de) (h2 : SimG K W WD tg dg) : SimS K W WD (tAsg te tg) (dAsg de dg) := by
  intro H0 A0 hW σ ρ A S H E F x e h
  refine h1.at hW x h fun v1 d1 A1 S1 H1 l1 x1 t1 q1 => ?_
  exact h2 H0 A0 hW _ _ _ _ _ _ _ _ _ x1 t1 q1 fun σ' ρ' A' S' H' l2 x2 q => e.nx _ _ _ _ _ x2 q
def dIfS (dt : DT) (d u : DS) : DS := fun F ρ S => dt ρ S fun b S1 => if b = true then d F ρ S1 else u F ρ S1
theorem sim_ifS (h0 : SimT K W WD tt dt) (h1 : SimS K W WD ts ds) (h2 : SimS K W WD tu du) : SimS K W WD (tIfS tt ts tu) (dIfS dt ds du) := by
  intro H0 A0 hW σ ρ A S H E F x e h
  refine h0 H0 A0 hW _ _ _ _ _ _ _ x h fun b A1 S1 H1 l1 x1 q => ?_
  cases b with
  | true =>
    rw [if_pos rfl] at q ⊢
    exact h1 H0 A0 hW _ _ _ _ _ _ _ x1 e q
  | false =>
    rw [if_neg Bool.false_ne_true] at q ⊢
    exact h2 H0 A0 hW _ _ _ _ _ _ _ x1 e q
def dRet (de : DE) : DS := fun F ρ S => de ρ S F.rt
theorem sim_ret (h1 : SimE K W WD te de) : SimS K W WD (tRet te) (dRet de) := by
  intro H0 A0 hW σ ρ A S H E F x e h
  exact h1.at hW x h fun v1 d1 A1 S1 H1 l1 x1 t1 q1 => e.rt _ _ _ _ _ _ _ x1 t1 q1
def dRetN : DS := fun F ρ S => F.rt .non S
def dDrop (de : DE) : DS := fun F ρ S => de ρ S fun _ S1 => F.nx ρ S1
theorem sim_drop (h1 : SimE K W WD te de) : SimS K W WD (tDrop te) (dDrop de) := by
  intro H0 A0 hW σ ρ A S H E F x e h
  exact h1.at hW x h fun v1 d1 A1 S1 H1 l1 x1 t1 q1 => e.nx _ _ _ _ _ x1 q1
def dRaise (C f : Str) (WD : DW) (dl : DA) : DS := fun _ ρ S => dl ρ S fun ds S1 => ∃ d, ds = [d] ∧ WD C [(f, d)] ρ S1
theorem sim_raise {C f : Str} (hl : SimA K W WD tl dl) : SimS K W WD (tRaiseE (He.ga K C) f W tl) (dRaise C f WD dl) := by
  intro H0 A0 hW σ ρ A S H E F x e h
  refine hl H0 A0 hW _ _ _ _ _ _ _ x h fun vs ds A1 S1 H1 l1 x1 ts ⟨d, eds, q⟩ => ?_
  subst eds
  cases ts with
  | @cons v _ _ _ t ts =>
    cases ts
    refine ⟨_, rfl, fun dd hd => ?_⟩
    have ln := Later.new x1.c hd (o := .xd [(f, v)])
    exact hW _ _ _ _ _ _ _ _ (some dd) (x1.go ln (x1.c.new hd)) upd_same (.cons (t.later ln) .nil) q
def dRaise0 (C : Str) (WD : DW) : DS := fun _ ρ S => WD C [] ρ S
theorem w_raise0 {C : Str} {F : DEnds} {ρ : Rho} {S : Sto} (h : WD C [] ρ S) : dRaise0 C WD F ρ S := h
structure IS where
  items : List D
  ok : Sto → Prop
def YA (K : PySem.W.Frag) (J : L2.It) (ds : List D) (i : Nat) (H : Hp) (A : Ads) : Prop := (i < ds.length → J.go i H ∧ ∀ x H', J.yld i H x H' → Later H A H' A ∧ (∀ S, Cells K H A S → Cells K H' A S) ∧ ∃ d, ds[i]? = some d ∧ Dt K H' A x d) ∧ (ds.length ≤ i → J.stop i H)
abbrev DI := Rho → Sto → (IS → Sto → Prop) → Prop
def SimI (K : PySem.W.Frag) (W : WX) (WD : DW) (wi : TI) (di : DI) : Prop := ∀ H0 A0, WRel K H0 A0 W WD → ∀ σ ρ A S H (R : L2.It → Hp → Prop) (RD : IS → Sto → Prop), StR K H0 A0 σ ρ A S H → di ρ S RD →
  (∀ J is A' S' H', Later H A H' A' → StR K H0 A0 σ ρ A' S' H' → (∀ A2 S2 H2 i, Later H' A' H2 A2 → Cells K H2 A2 S2 → is.ok S2 → YA K J is.items i H2 A2) → RD is S' → R J H') → wi σ H R
theorem YA.of {J : L2.It} {xs : List V} {ds : List D} {i : Nat} {H : Hp} {A : Ads} (h : YieldsAt J xs i H) (r : Dts K H A xs ds) : YA K J ds i H A := by
  refine ⟨fun hi => ⟨(h.1 (by rw [r.len]; exact hi)).1, fun x H' y => ?_⟩, fun hi => h.2 (by rw [r.len]; exact hi)⟩
  obtain ⟨e, hx⟩ := (h.1 (by rw [r.len]; exact hi)).2 x H' y
  subst e
  obtain ⟨d, hd, t⟩ := r.at' hx
  exact ⟨Later.refl _ _, fun _ c => c, d, hd, t⟩
theorem Dts.chars {H : Hp} {A : Ads} : ∀ l : List Nat, Dts K H A (l.map fun c => V.str ⟨#[c]⟩) (l.map fun c => D.str ⟨#[c]⟩)
  | [] => .nil
  | c :: r => .cons (.str _) (Dts.chars r)
inductive dAnyR : D → Sto → (IS → Sto → Prop) → Prop
  | str {z : Str} {S : Sto} {R : IS → Sto → Prop} : R ⟨z.cps.toList.map fun c => D.str ⟨#[c]⟩, fun _ => True⟩ S → dAnyR (.str z) S R
  | seq {x : D} {ds : List D} {S : Sto} {R : IS → Sto → Prop} : Sq S x ds → R ⟨ds, fun S' => Sq S' x ds⟩ S → dAnyR x S R
def dAny (de : DE) : DI := fun ρ S R => de ρ S fun d S1 => dAnyR d S1 R
theorem sim_any (h1 : SimE K W WD te de) : SimI K W WD (iAnyP K te) (dAny de) := by
  intro H0 A0 hW σ ρ A S H R RD x h k
  refine h1.at hW x h fun v1 d1 A1 S1 H1 l1 x1 t1 q1 => ?_
  cases q1 with
  | str q =>
    cases t1
    exact k _ _ _ _ _ l1 x1 (fun A2 S2 H2 i _ _ _ => .of (yields_str _ i H2) (Dts.chars _)) q
  | @seq _ ds0 _ _ e q =>
    obtain ⟨a, xs, rfl, h1, r⟩ := sq_at x1.c t1 e
    have key : ∀ (A2 : Ads) (S2 : Sto) (H2 : Hp), Later H1 A1 H2 A2 → Cells K H2 A2 S2 → Sq S2 d1 ds0 → ∃ xs, (H2 a = some (.lst xs) ∨ H2 a = some (.tup xs)) ∧ Dts K H2 A2 xs ds0 := fun A2 S2 H2 kp c e => by
      obtain ⟨a', xs, e', h, r⟩ := sq_at c (t1.later kp) e
      cases e'
      exact ⟨xs, h, r⟩
    rcases h1 with h1 | h1
    · refine .inl ⟨⟨xs, SqL.of h1⟩, k _ _ _ _ _ l1 x1 (fun A2 S2 H2 i kp c e2 => ?_) q⟩
      obtain ⟨ys, h2, r2⟩ := key A2 S2 H2 kp c e2
      rcases h2 with h2 | h2
      · exact .of (yields_list (SqL.of h2) i) r2
      · exfalso
        cases t1 with
        | lst hh nn rr =>
          have := (kp.keep _ _ hh nn).1
          rw [h2] at this
          cases this
        | tup hh nn rr => rw [h1] at hh; cases hh
        | obj hh nn rr => rw [h1] at hh; cases hh
        | dic hh nn rr => rcases hh with hh | ⟨_, hh⟩ <;> (rw [h1] at hh; cases hh)
        | fz hz => rcases e with e | e <;> cases e
        | hdl ha =>
          obtain ⟨c0, hc, k0⟩ := c.at_ _ _ (kp.live _ _ ha)
          have e3 : Sq S2 _ ds0 := e2
          unfold Sq at e3
          rw [rs_h hc] at e3
          rcases e3 with e3 | e3
          · subst e3
            obtain ⟨_, h5, _⟩ := k0
            rw [h2] at h5
            cases h5
          · subst e3
            exact k0.elim
    · refine .inr ⟨⟨xs, SqT.of h1⟩, k _ _ _ _ _ l1 x1 (fun A2 S2 H2 i kp c e2 => ?_) q⟩
      cases t1 with
      | lst hh nn rr => rw [h1] at hh; cases hh
      | tup hh nn rr =>
        have hh2 := (kp.keep _ _ hh nn).1
        obtain ⟨ys, h2, r2⟩ := key A2 S2 H2 kp c e2
        rcases h2 with h2 | h2
        · rw [h2] at hh2; cases hh2
        · exact .of (yields_tup (SqT.of h2) i) r2
      | obj hh nn rr => rw [h1] at hh; cases hh
      | dic hh nn rr => rcases hh with hh | ⟨_, hh⟩ <;> (rw [h1] at hh; cases hh)
      | fz hz => rcases e with e | e <;> cases e
      | hdl ha =>
        obtain ⟨c0, hc, k0⟩ := x1.c.at_ _ _ ha
        unfold Sq at e
        rw [rs_h hc] at e
        rcases e with e | e
        · subst e
          obtain ⟨_, h5, _⟩ := k0
          rw [h1] at h5
          cases h5
        · subst e
          exact k0.elim
theorem Dts.rng {H : Hp} {A : Ads} (lo : Int) : ∀ l : List Nat, Dts K H A (l.map fun (j : Nat) => V.int (lo + (j : Int))) (l.map fun (j : Nat) => D.int (lo + (j : Int)))
  | [] => .nil
  | c :: r => .cons (.int _) (Dts.rng lo r)
def rngD (lo : Int) (n : Nat) : List D := (List.range n).map fun (j : Nat) => D.int (lo + (j : Int))
theorem rngD_len (lo : Int) (n : Nat) : (rngD lo n).length = n := by unfold rngD; rw [List.length_map, List.length_range]
theorem rngD_at {lo : Int} {n i : Nat} {d : D} (h : (rngD lo n)[i]? = some d) : i < n ∧ d = .int (lo + (i : Int)) := by
  have hi := (List.getElem?_eq_some_iff.mp h).1
  rw [rngD_len] at hi
  unfold rngD at h
  rw [List.getElem?_map, List.getElem?_range hi] at h
  exact ⟨hi, by cases h; rfl⟩
def dRng1 (dl : DA) : DI := fun ρ S R => dl ρ S fun ds S1 => ∃ j : Int, ds = [.int j] ∧ -(2 ^ 62) ≤ j ∧ j < 2 ^ 62 ∧ R ⟨rngD 0 j.toNat, fun _ => True⟩ S1
theorem sim_rng1 (hl : SimA K W WD tl dl) : SimI K W WD (iRng1 tl) (dRng1 dl) := by
  intro H0 A0 hW σ ρ A S H R RD x h k
  refine hl H0 A0 hW _ _ _ _ _ _ _ x h fun vs ds A1 S1 H1 l1 x1 ts ⟨j, e, h1, h2, q⟩ => ?_
  subst e
  cases ts with
  | cons t ts =>
    cases t
    cases ts
    exact ⟨j, rfl, h1, h2, k _ _ _ _ _ l1 x1 (fun A2 S2 H2 i _ _ _ => .of (yields_range 0 j.toNat i H2) (Dts.rng 0 _)) q⟩
def dRng2 (dl : DA) : DI := fun ρ S R => dl ρ S fun ds S1 => ∃ i j : Int, ds = [.int i, .int j] ∧ (-(2 ^ 62) ≤ i ∧ i < 2 ^ 62 ∧ -(2 ^ 62) ≤ j ∧ j < 2 ^ 62) ∧ R ⟨rngD i (j - i).toNat, fun _ => True⟩ S1
def dFor (di : DI) (dg : DG) (db : DS) : DS := fun F ρ S => di ρ S fun is S1 => ∃ P : Nat → Rho → Sto → Prop, P 0 ρ S1 ∧ (∀ i ρ' S', i ≤ is.items.length → P i ρ' S' → is.ok S') ∧
  (∀ i d ρ' S', is.items[i]? = some d → P i ρ' S' → dg d ρ' S' fun ρ2 S2 => db { F with nx := P (i + 1), ct := P (i + 1), bk := F.nx, b := S1.length } ρ2 S2) ∧ ∀ ρ' S', P is.items.length ρ' S' → F.nx ρ' S'
theorem sim_for {wi : TI} {di : DI} (h1 : SimI K W WD wi di) (h2 : SimG K W WD tg dg) (h3 : SimS K W WD ts ds) : SimS K W WD (tFor wi tg ts) (dFor di dg ds) := by
  intro H0 A0 hW σ ρ A S H E F x e h
  refine h1 H0 A0 hW _ _ _ _ _ _ _ x h fun J is A1 S1 H1 l1 x1 hy ⟨P, p0, pok, ps, pe⟩ => ?_
  have hW1 := hW.base x1.l
  refine ⟨fun i m σ H => m = is.items.length - i ∧ i ≤ is.items.length ∧ ∃ ρ A S, StR K H1 A1 σ ρ A S H ∧ P i ρ S, ⟨_, rfl, Nat.zero_le _, ρ, A1, S1, ⟨x1.r, x1.c, Later.refl _ _⟩, p0⟩, ?_⟩
  rintro i m σ2 H2 ⟨rfl, hi, ρ2, A2, S2, x2, p⟩
  have y := hy A2 S2 H2 i x2.l x2.c (pok i ρ2 S2 hi p)
  by_cases hlt : i < is.items.length
  · refine .inr ⟨(y.1 hlt).1, fun σ' H' => ∃ ρ A S, StR K H1 A1 σ' ρ A S H' ∧ P (i + 1) ρ S, fun σ' H' p' => ⟨is.items.length - (i + 1), by omega, rfl, hlt, p'⟩, fun v H3 hyl => ?_⟩
    obtain ⟨l3, hc3, d, hd, t⟩ := (y.1 hlt).2 v H3 hyl
    have x3 := x2.go l3 (hc3 _ x2.c)
    refine h2 H1 A1 hW1 _ _ _ _ _ _ _ _ _ x3 t (ps i d ρ2 S2 hd p) fun σ4 ρ4 A4 S4 H4 l4 x4 q => ?_
    exact h3 H1 A1 hW1 _ _ _ _ _ _ { F with nx := P (i + 1), ct := P (i + 1), bk := F.nx, b := S1.length } x4 ⟨fun σ ρ A S H x q => ⟨ρ, A, S, x, q⟩, fun σ ρ A S H x q => e.nx _ _ _ _ _ (x.base x1.l) q, fun σ ρ A S H x q => ⟨ρ, A, S, x, q⟩, fun σ ρ A S H v d x t q => e.rt _ _ _ _ _ _ _ (x.base x1.l) t q, x1.c.len.symm⟩ q
  · have ei : i = is.items.length := by omega
    subst ei
    exact .inl ⟨y.2 (Nat.le_refl _), e.nx _ _ _ _ _ (x2.base x1.l) (pe _ _ p)⟩
abbrev DSp := List D → Sto → DQ → DX → Prop
def lift (K : PySem.W.Frag) (dsp : DSp) : Sp := fun vs H Q E => ∃ A S ds QD ED, Cells K H A S ∧ Dts K H A vs ds ∧ dsp ds S QD ED ∧ Go K H A Q QD ∧
  ∀ C gs fs d A' S' H', Later H A H' A' → Cells K H' A' S' → XdA H' d fs → Dtf K H' A' fs gs → ED C gs S' → E (.ref (He.ga K C)) d H'
def dCall (WD : DW) (dsp : DSp) (dl : DA) : DE := fun ρ S Q => dl ρ S fun ds S1 => dsp ds S1 Q fun C gs S2 => WD C gs ρ S2
theorem sim_callS {sp : Sp} {dsp : DSp} (ad : ∀ vs H Q E, lift K dsp vs H Q E → sp vs H Q E) (hl : SimA K W WD tl dl) : SimE K W WD (tCallS sp (WE W) tl) (dCall WD dsp dl) := by
  intro H0 A0 hW σ ρ A S H Q QD x h k
  refine hl H0 A0 hW _ _ _ _ _ _ _ x h fun vs ds A1 S1 H1 l1 x1 ts h1 => ?_
  refine ad _ _ _ _ ⟨A1, S1, ds, _, _, x1.c, ts, h1, fun v d A' S' H' l2 c t q => k v d A' S' H' (l1.trans l2) (x1.go l2 c) t q, fun C gs fs d A' S' H' l2 c hd tf q => ?_⟩
  exact hW _ _ _ _ _ _ _ _ _ (x1.go l2 c) hd tf q
def dCall0 (dsp : DSp) (dl : DA) : DE := fun ρ S Q => dl ρ S fun ds S1 => dsp ds S1 Q fun _ _ _ => False
end
end Dx
namespace Dx
open PySem PySem.Spec PyProof.Rows L2 Px
def wipeD (ρ : Rho) : List Nat → Rho
  | [] => ρ
  | v :: vs => (wipeD ρ vs).set v none
theorem Rel.wipe {K : PySem.W.Frag} {H : Hp} {A : Ads} {σ : L2.St} {ρ : Rho} (r : Rel K H A σ ρ) : ∀ vs : List Nat, Rel K H A (L2.wipe σ vs) (wipeD ρ vs)
  | [] => r
  | v :: vs => (r.wipe vs).unset v
theorem wipe_at (σ : L2.St) (j : Nat) : ∀ vs : List Nat, (L2.wipe σ vs)[j]? = if j ∈ vs then (if j < σ.length then some none else none) else σ[j]?
  | [] => by simp [L2.wipe]
  | v :: vs => by
    show ((L2.wipe σ vs).set v none)[j]? = _
    by_cases h : v = j
    · subst h
      rw [if_pos List.mem_cons_self]
      by_cases hl : v < σ.length
      · rw [List.getElem?_set_self (by rw [L2.wipe_length]; exact hl), if_pos hl]
      · rw [if_neg hl, List.getElem?_eq_none (by rw [List.length_set, L2.wipe_length]; omega)]
    · rw [List.getElem?_set_ne h, wipe_at σ j vs]
      have : (j ∈ v :: vs) ↔ j ∈ vs := by simp [Ne.symm h]
      simp only [this]
theorem wipe_set {σ : L2.St} {vs : List Nat} {i : Nat} {x : Option V} (h : i ∈ vs) : L2.wipe (σ.set i x) vs = L2.wipe σ vs := by
  apply List.ext_getElem?
  intro j
  rw [wipe_at, wipe_at, List.length_set]
  by_cases hj : j ∈ vs
  · rw [if_pos hj, if_pos hj]
  · rw [if_neg hj, if_neg hj, List.getElem?_set_ne (fun (e : i = j) => hj (by rw [← e]; exact h))]
theorem wipe_wipe {σ : L2.St} {vs : List Nat} : L2.wipe (L2.wipe σ vs) vs = L2.wipe σ vs := by
  apply List.ext_getElem?
  intro j
  rw [wipe_at, wipe_at, L2.wipe_length]
  by_cases hj : j ∈ vs
  · rw [if_pos hj, if_pos hj]
  · rw [if_neg hj, if_neg hj]
section
variable {K : PySem.W.Frag} {W : WX} {WD : DW} {te ta tb : TE} {de da db : DE} {tt : TT} {dt : DT} {tl : TA} {dl : DA} {ts tu : TS} {ds du : DS} {tg : TG} {dg : DG} {i : Nat}
def SimGv (K : PySem.W.Frag) (W : WX) (WD : DW) (vs : List Nat) (tg : TG) (dg : DG) : Prop := ∀ H0 A0, WRel K H0 A0 W WD → ∀ σ ρ A S H v d (Q : L2.St → Hp → Prop) (QD : Rho → Sto → Prop), StR K H0 A0 σ ρ A S H → Dt K H A v d → dg d ρ S QD →
  (∀ σ' ρ' A' S' H', Later H A H' A' → StR K H0 A0 σ' ρ' A' S' H' → L2.wipe σ' vs = L2.wipe σ vs → QD ρ' S' → Q σ' H') → tg v σ H Q
theorem simv_gname {vs : List Nat} (h : i ∈ vs) : SimGv K W WD vs (gName i) (dgName i) := fun H0 A0 hW σ ρ A S H v d Q QD x t q k => k _ _ A S H (Later.refl H A) ⟨x.r.set i t, x.c, x.l⟩ (wipe_set h) q
def dYes : DT := fun _ S Q => Q true S
theorem sim_yes : SimT K W WD tYes dYes := fun H0 A0 hW σ ρ A S H Q QD x h k => k true A S H (Later.refl H A) x h
theorem own_in {H : Hp} {A : Ads} {S : Sto} {p : Addr} {zs : List V} (C : Cells K H A S) (hp : H p = none) : Later H A (upd H p (.lst zs)) ⟨A.c, p :: A.x⟩ ∧ Cells K (upd H p (.lst zs)) ⟨A.c, p :: A.x⟩ S := by
  have l : Later H A (upd H p (.lst zs)) ⟨A.c, p :: A.x⟩ := ⟨⟨fun a u e n => ⟨by rw [upd_ne (ne_of_none e hp)]; exact e, ⟨n.c, fun m => by
    rcases List.mem_cons.mp m with m | m
    · exact ne_of_none e hp m
    · exact n.x m⟩⟩, fun _ _ e => e, Nat.le_refl _, fun _ _ _ e => e⟩, fun a m => ⟨by
    obtain ⟨u, e⟩ := C.xs a m
    rw [upd_ne (ne_of_none e hp)], List.mem_cons_of_mem _ m⟩, fun a od u e => by rw [upd_ne (ne_of_none e hp)]; exact e⟩
  refine ⟨l, C.len, fun n a e => ?_, C.inj, fun a m => ?_, fun n a e m => ?_⟩
  · obtain ⟨c, e1, k⟩ := C.at_ n a e
    obtain ⟨u, e2⟩ := k.here
    exact ⟨c, e1, k.go l.toKp (upd_ne (ne_of_none e2 hp))⟩
  · rcases List.mem_cons.mp m with m | m
    · subst m; exact ⟨zs, upd_same⟩
    · obtain ⟨u, e⟩ := C.xs a m
      exact ⟨u, by rw [upd_ne (ne_of_none e hp)]; exact e⟩
  · obtain ⟨c, e1, k⟩ := C.at_ n a e
    obtain ⟨u, e2⟩ := k.here
    rcases List.mem_cons.mp m with m | m
    · exact ne_of_none e2 hp m
    · exact C.xo n a e m
theorem own_put {H1 H : Hp} {A1 A : Ads} {S S1 : Sto} {p : Addr} {zs : List V} (h1 : H1 p = none) (C1 : Cells K H1 A1 S1) (l : Later H1 A1 H A) (C : Cells K H A S) (hp : p ∈ A.x) : Kp H A (upd H p (.lst zs)) A ∧ Cells K (upd H p (.lst zs)) A S ∧ Later H1 A1 (upd H p (.lst zs)) A := by
  have kp : Kp H A (upd H p (.lst zs)) A := ⟨fun a u e n => ⟨by rw [upd_ne (fun (z : a = p) => n.x (by rw [z]; exact hp))]; exact e, n⟩, fun _ _ e => e, Nat.le_refl _, fun _ _ _ e => e⟩
  refine ⟨kp, ⟨C.len, fun n a e => ?_, C.inj, fun a m => ?_, C.xo⟩, ⟨⟨fun a u e n => ?_, l.live, l.len, l.old⟩, fun a m => ?_, fun a od u e => by rw [upd_ne (ne_of_none e h1)]; exact l.fz _ _ _ e⟩⟩
  · obtain ⟨c, e1, k⟩ := C.at_ n a e
    exact ⟨c, e1, k.go kp (upd_ne (fun (z : a = p) => C.xo n a e (by rw [z]; exact hp)))⟩
  · by_cases z : a = p
    · subst z; exact ⟨zs, upd_same⟩
    · obtain ⟨u, e⟩ := C.xs a m
      exact ⟨u, by rw [upd_ne z]; exact e⟩
  · obtain ⟨e1, n1⟩ := l.keep a u e n
    exact ⟨by rw [upd_ne (fun (z : a = p) => n1.x (by rw [z]; exact hp))]; exact e1, n1⟩
  · obtain ⟨e1, m1⟩ := l.ex a m
    refine ⟨?_, m1⟩
    by_cases z : a = p
    · subst z
      obtain ⟨u, e⟩ := C1.xs a m
      rw [h1] at e
      cases e
    · rw [upd_ne z]; exact e1
def dLc (c : Bool) (di : DI) (dg : DG) (dt : DT) (de : DE) (vs : List Nat) : DE := fun ρ S Q => di ρ S fun is S1 => ∃ P : Nat → List D → Sto → Prop, P 0 [] S1 ∧ (∀ i acc S', i ≤ is.items.length → P i acc S' → is.ok S') ∧
  (∀ i d acc S', is.items[i]? = some d → P i acc S' → dg d (wipeD ρ vs) S' fun ρ2 S2 => dt ρ2 S2 fun b S3 => if b = true then de ρ2 S3 fun y S4 => acc.length < sizeLine ∧ P (i + 1) (acc ++ [y]) S4 else P (i + 1) acc S3) ∧
  ∀ acc S', P is.items.length acc S' → newAt c acc S' Q
theorem sim_lc {c : Bool} {wi : TI} {di : DI} {vs : List Nat} (h1 : SimI K W WD wi di) (h2 : SimGv K W WD vs tg dg) (h3 : SimT K W WD tt dt) (h4 : SimE K W WD te de) : SimE K W WD (tLc wi tg tt te vs) (dLc c di dg dt de vs) := by
  intro H0 A0 hW σ ρ A S H Q QD x h k
  refine h1 H0 A0 hW _ _ _ _ _ _ _ x h fun J is A1 S1 H1 l1 x1 hy ⟨P, p0, pok, ps, pe⟩ => ?_
  intro p hp
  obtain ⟨lin, cin⟩ := own_in x1.c hp (zs := [])
  refine ⟨fun i m H => m = is.items.length - i ∧ i ≤ is.items.length ∧ ∃ A S xs acc, Later H1 A1 H A ∧ Cells K H A S ∧ p ∈ A.x ∧ H p = some (.lst xs) ∧ Dts K H A xs acc ∧ P i acc S, ⟨_, rfl, Nat.zero_le _, _, S1, [], [], lin, cin, List.mem_cons_self, upd_same, .nil, p0⟩, ?_⟩
  rintro i m H2 ⟨rfl, hi, A2, S2, xs2, acc, l2, c2, hp2, hz2, ts2, p2⟩
  have y := hy A2 S2 H2 i l2 c2 (pok i acc S2 hi p2)
  by_cases hlt : i < is.items.length
  · refine .inr ⟨(y.1 hlt).1, fun H' => ∃ A S xs acc, Later H1 A1 H' A ∧ Cells K H' A S ∧ p ∈ A.x ∧ H' p = some (.lst xs) ∧ Dts K H' A xs acc ∧ P (i + 1) acc S, fun H' p' => ⟨is.items.length - (i + 1), by omega, rfl, hlt, p'⟩, fun v H3 hyl => ?_⟩
    obtain ⟨l3, hc3, d, hd, t⟩ := (y.1 hlt).2 v H3 hyl
    have l13 := l2.trans l3
    have x3 : StR K H0 A0 (L2.wipe σ vs) (wipeD ρ vs) A2 S2 H3 := ⟨(x1.r.wipe vs).kp l13.toKp, hc3 _ c2, x1.l.trans l13⟩
    refine h2 H0 A0 hW _ _ _ _ _ _ _ _ _ x3 t (ps i d acc S2 hd p2) fun σ4 ρ4 A4 S4 H4 l4 x4 ew q4 => ⟨ew.trans wipe_wipe, ?_⟩
    refine h3 H0 A0 hW _ _ _ _ _ _ _ x4 q4 fun b A5 S5 H5 l5 x5 q5 => ?_
    have back : ∀ {A' S' H'}, Later H2 A2 H' A' → Cells K H' A' S' → Later H1 A1 H' A' ∧ p ∈ A'.x ∧ H' p = some (.lst xs2) ∧ Dts K H' A' xs2 acc := fun l c => ⟨l2.trans l, (l.ex p hp2).2, by rw [(l.ex p hp2).1]; exact hz2, ts2.later l⟩
    cases b with
    | false =>
      rw [if_neg Bool.false_ne_true] at q5 ⊢
      obtain ⟨b1, b2, b3, b4⟩ := back ((l3.trans l4).trans l5) x5.c
      exact ⟨A5, S5, xs2, acc, b1, x5.c, b2, b3, b4, q5⟩
    | true =>
      rw [if_pos rfl] at q5 ⊢
      refine h4.at hW x5 q5 fun v6 d6 A6 S6 H6 l6 x6 t6 ⟨hl, q6⟩ => ?_
      obtain ⟨b1, b2, b3, b4⟩ := back (((l3.trans l4).trans l5).trans l6) x6.c
      obtain ⟨kp, c7, l7⟩ := own_put hp x1.c b1 x6.c b2 (zs := xs2 ++ [v6])
      exact ⟨xs2, b3, by rw [b4.len]; exact hl, A6, S6, xs2 ++ [v6], acc ++ [d6], l7, c7, b2, upd_same, (b4.app (.one t6)).kp kp, q6⟩
  · have ei : i = is.items.length := by omega
    subst ei
    refine .inl ⟨y.2 (Nat.le_refl _), ?_⟩
    have q := pe _ _ p2
    have hx1 : p ∉ A1.x := fun m => by
      obtain ⟨u, e⟩ := x1.c.xs p m
      rw [hp] at e
      cases e
    have hc1 : some p ∉ A2.c := fun m => by
      obtain ⟨n, e⟩ := List.mem_iff_getElem?.mp m
      exact c2.xo n p e hp2
    have sub : ∀ a, a ∈ A1.x → a ∈ A2.x := fun a m => (l2.ex a m).2
    cases c with
    | false =>
      have kp : Kp H2 A2 H2 ⟨A2.c, A1.x⟩ := ⟨fun a u e n => ⟨e, n.c, fun m => n.x (sub a m)⟩, fun _ _ e => e, Nat.le_refl _, fun _ _ _ e => e⟩
      have l8 : Later H1 A1 H2 ⟨A2.c, A1.x⟩ := ⟨⟨fun a u e n => ⟨(l2.keep a u e n).1, (l2.keep a u e n).2.c, n.x⟩, l2.live, l2.len, l2.old⟩, fun a m => ⟨(l2.ex a m).1, m⟩, l2.fz⟩
      have c8 : Cells K H2 ⟨A2.c, A1.x⟩ S2 := ⟨c2.len, fun n a e => by
        obtain ⟨c0, e1, k0⟩ := c2.at_ n a e
        exact ⟨c0, e1, k0.go kp rfl⟩, c2.inj, fun a m => c2.xs a (sub a m), fun n a e m => c2.xo n a e (sub a m)⟩
      exact k _ _ _ _ _ (l1.trans l8) (x1.go l8 c8) (.lst hz2 ⟨hc1, hx1⟩ (ts2.kp kp)) q
    | true =>
      have kp : Kp H2 A2 H2 ⟨A2.c ++ [some p], A1.x⟩ := ⟨fun a u e n => ⟨e, fun m => by
        rcases List.mem_append.mp m with m | m
        · exact n.c m
        · have e2 : a = p := by simpa using m
          subst e2
          exact n.x hp2, fun m => n.x (sub a m)⟩, fun n a e => by
        show (A2.c ++ [some p])[n]? = _
        rw [List.getElem?_append_left ((List.getElem?_eq_some_iff.mp e).1)]; exact e, by show _ ≤ (A2.c ++ [some p]).length; rw [List.length_append]; omega, fun n a hn e => by
        have e : (A2.c ++ [some p])[n]? = some (some a) := e
        rw [List.getElem?_append_left hn] at e
        exact e⟩
      have side : ∀ {n : Nat} {a : Addr}, (A2.c ++ [some p])[n]? = some (some a) → (A2.c[n]? = some (some a)) ∨ (n = A2.c.length ∧ a = p) := fun {n a} e => by
        by_cases hn : n < A2.c.length
        · exact .inl (by rw [List.getElem?_append_left hn] at e; exact e)
        · rw [List.getElem?_append_right (by omega)] at e
          have h0 : n - A2.c.length = 0 := by
            have := (List.getElem?_eq_some_iff.mp e).1
            simp at this
            omega
          rw [h0] at e
          exact .inr ⟨by omega, by cases e; rfl⟩
      have l8 : Later H1 A1 H2 ⟨A2.c ++ [some p], A1.x⟩ := ⟨⟨fun a u e n => ⟨(l2.keep a u e n).1, fun m => by
        rcases List.mem_append.mp m with m | m
        · exact (l2.keep a u e n).2.c m
        · have e2 : a = p := by simpa using m
          exact ne_of_none e hp e2, n.x⟩, fun n a e => kp.live n a (l2.live n a e), Nat.le_trans l2.len kp.len, fun n a hn e => l2.old n a hn (kp.old n a (Nat.lt_of_lt_of_le hn l2.len) e)⟩, fun a m => ⟨(l2.ex a m).1, m⟩, l2.fz⟩
      have hlen := c2.len
      have c8 : Cells K H2 ⟨A2.c ++ [some p], A1.x⟩ (S2 ++ [.lst acc]) := by
        refine ⟨by show (A2.c ++ [some p]).length = _; rw [List.length_append, List.length_append, hlen]; rfl, fun n a e => ?_, fun n m a e e' => ?_, fun a m => c2.xs a (sub a m), fun n a e m => ?_⟩
        · rcases side e with e | ⟨rfl, rfl⟩
          · have hn := (List.getElem?_eq_some_iff.mp e).1
            obtain ⟨c0, e1, k0⟩ := c2.at_ n a e
            exact ⟨c0, by rw [List.getElem?_append_left (by omega)]; exact e1, k0.go kp rfl⟩
          · exact ⟨.lst acc, by rw [List.getElem?_append_right (by omega), show A2.c.length - S2.length = 0 by omega]; rfl, _, hz2, ts2.kp kp⟩
        · rcases side e with e1 | ⟨rfl, rfl⟩ <;> rcases side e' with e2 | ⟨rfl, e3⟩
          · exact c2.inj n m a e1 e2
          · subst e3
            exact absurd (List.mem_iff_getElem?.mpr ⟨n, e1⟩) hc1
          · exact absurd (List.mem_iff_getElem?.mpr ⟨m, e2⟩) hc1
          · rfl
        · rcases side e with e1 | ⟨rfl, rfl⟩
          · exact c2.xo n a e1 (sub a m)
          · exact hx1 m
      refine k _ _ _ _ _ (l1.trans l8) (x1.go l8 c8) (.hdl ?_) q
      show (A2.c ++ [some p])[S2.length]? = _
      rw [← hlen, List.getElem?_append_right (Nat.le_refl _), Nat.sub_self]
      rfl
def dApp (da : DE) (dl : DA) : DE := fun ρ S Q => da ρ S fun o S1 => ∃ n, o = .hdl n ∧ (∃ ds, S1[n]? = some (.lst ds)) ∧ dl ρ S1 fun ys S2 => ∃ y ds, ys = [y] ∧ S2[n]? = some (.lst ds) ∧ ds.length ≤ 1000000 ∧ Q .non (S2.set n (.lst (ds ++ [y])))
theorem sim_app (h1 : SimE K W WD ta da) (hl : SimA K W WD tl dl) : SimE K W WD (tBM K "list" rAppend ta tl) (dApp da dl) := by
  intro H0 A0 hW σ ρ A S H Q QD x h k
  refine h1.at hW x h fun v1 d1 A1 S1 H1 l1 x1 t1 ⟨n, e, ⟨es, he⟩, q⟩ => ?_
  subst e
  cases t1 with
  | hdl ha =>
    obtain ⟨c, hc, kc⟩ := x1.c.at_ _ _ ha
    rw [he] at hc
    cases hc
    obtain ⟨xs, hx, _⟩ := kc
    refine s_tyL hx ?_
    refine hl H0 A0 hW _ _ _ _ _ _ _ x1 q fun vs ds A2 S2 H2 l2 x2 ts ⟨y, es2, e2, hs2, hlen, q2⟩ => ?_
    subst e2
    cases ts with
    | @cons v _ _ _ t ts =>
      cases ts
      have ha2 := l2.live _ _ ha
      obtain ⟨c, hc, kc⟩ := x2.c.at_ _ _ ha2
      rw [hs2] at hc
      cases hc
      obtain ⟨xs2, hx2, r2⟩ := kc
      have lp := Later.put x2.c ha2 (fun _ _ e => by rw [hx2] at e; cases e) (o := .lst (xs2 ++ [v]))
      refine s_app hx2 (by rw [r2.len]; exact hlen) ?_
      exact k _ _ _ _ _ ((l1.trans l2).trans lp) (x2.go lp (x2.c.put ha2 (c := .lst (es2 ++ [y])) ⟨_, upd_same, (r2.app (.one t)).later lp⟩)) .non q2
end
inductive DAlt where
  | fld (f : Str)
  | con (f : Str) (d : D)
  | prop (dsp : DSp)
def DAlt.run (al : DAlt) (d : D) (gs : List (Str × D)) (S : Sto) (Q : DQ) : Prop := match al with
  | .fld f => ∃ y, gs.lookup f = some y ∧ Q y S
  | .con f c => gs.lookup f = none ∧ Q c S
  | .prop dsp => dsp [d] S Q fun _ _ _ => False
inductive AltSim (K : PySem.W.Frag) : Cl.Alt → DAlt → Prop
  | fld (f : Str) : AltSim K (Cl.aFld f) (.fld f)
  | con (f : Str) {v : V} {d : D} : (∀ H A, Dt K H A v d) → AltSim K (Cl.aCon f v) (.con f d)
  | prop {sp : Sp} {dsp : DSp} : (∀ vs H Q E, lift K dsp vs H Q E → sp vs H Q E) → AltSim K (Cl.aProp sp) (.prop dsp)
inductive AltsSim (K : PySem.W.Frag) : List (Addr × Cl.Alt) → List (Str × DAlt) → Prop
  | nil : AltsSim K [] []
  | cons {C : Str} {r : Cl.Alt} {a : DAlt} {l : List (Addr × Cl.Alt)} {m : List (Str × DAlt)} : AltSim K r a → AltsSim K l m → AltsSim K ((He.ga K C, r) :: l) ((C, a) :: m)
  | skip {x : Addr × Cl.Alt} {l : List (Addr × Cl.Alt)} {m : List (Str × DAlt)} : AltsSim K l m → AltsSim K (x :: l) m
theorem AltsSim.at {K : PySem.W.Frag} {C : Str} {a : DAlt} : ∀ {l : List (Addr × Cl.Alt)} {m : List (Str × DAlt)}, AltsSim K l m → (C, a) ∈ m → ∃ r, (He.ga K C, r) ∈ l ∧ AltSim K r a
  | _, _, .nil, h => by cases h
  | _, _, .skip t, m => by
    obtain ⟨r, h1, h2⟩ := t.at m
    exact ⟨r, List.mem_cons_of_mem _ h1, h2⟩
  | _, _, .cons h t, m => by
    rcases List.mem_cons.mp m with e | m
    · cases e; exact ⟨_, List.mem_cons_self, h⟩
    · obtain ⟨r, h1, h2⟩ := t.at m
      exact ⟨r, List.mem_cons_of_mem _ h1, h2⟩
inductive SpsSim (K : PySem.W.Frag) : List (Addr × Sp) → List (Str × DSp) → Prop
  | nil : SpsSim K [] []
  | cons {C : Str} {sp : Sp} {dsp : DSp} {l : List (Addr × Sp)} {m : List (Str × DSp)} : (∀ vs H Q E, lift K dsp vs H Q E → sp vs H Q E) → SpsSim K l m → SpsSim K ((He.ga K C, sp) :: l) ((C, dsp) :: m)
  | skip {x : Addr × Sp} {l : List (Addr × Sp)} {m : List (Str × DSp)} : SpsSim K l m → SpsSim K (x :: l) m
theorem SpsSim.at {K : PySem.W.Frag} {C : Str} {dsp : DSp} : ∀ {l : List (Addr × Sp)} {m : List (Str × DSp)}, SpsSim K l m → (C, dsp) ∈ m → ∃ sp, (He.ga K C, sp) ∈ l ∧ ∀ vs H Q E, lift K dsp vs H Q E → sp vs H Q E
  | _, _, .nil, h => by cases h
  | _, _, .skip t, m => by
    obtain ⟨r, h1, h2⟩ := t.at m
    exact ⟨r, List.mem_cons_of_mem _ h1, h2⟩
  | _, _, .cons h t, m => by
    rcases List.mem_cons.mp m with e | m
    · cases e; exact ⟨_, List.mem_cons_self, h⟩
    · obtain ⟨r, h1, h2⟩ := t.at m
      exact ⟨r, List.mem_cons_of_mem _ h1, h2⟩
section
variable {K : PySem.W.Frag} {W : WX} {WD : DW} {te ta tb : TE} {de da db : DE} {tl : TA} {dl : DA}
def dAtt (m : List (Str × DAlt)) (de : DE) : DE := fun ρ S Q => de ρ S fun d S1 => ∃ C gs al, rs S1 d = .obj C gs ∧ (C, al) ∈ m ∧ al.run d gs S1 Q
theorem sim_att {l : List (Addr × Cl.Alt)} {m : List (Str × DAlt)} (hm : AltsSim K l m) (h1 : SimE K W WD te de) : SimE K W WD (Cl.tAtt l te) (dAtt m de) := by
  intro H0 A0 hW σ ρ A S H Q QD x h k
  refine h1.at hW x h fun v1 d1 A1 S1 H1 l1 x1 t1 ⟨C, gs, al, e, hin, q⟩ => ?_
  obtain ⟨a, dx, fs, rfl, ha, r⟩ := ob_at x1.c t1 e
  obtain ⟨rr, hr, sm⟩ := hm.at hin
  refine att_go hr ha ?_
  cases sm with
  | fld f =>
    obtain ⟨y, ey, q⟩ := q
    obtain ⟨u, eu, tu⟩ := r.look ey
    exact ⟨u, eu, k _ _ _ _ _ l1 x1 tu q⟩
  | con f hd =>
    obtain ⟨ey, q⟩ := q
    exact ⟨r.miss ey, k _ _ _ _ _ l1 x1 (hd _ _) q⟩
  | prop ad => exact ad _ _ _ _ ⟨A1, S1, _, _, _, x1.c, .one t1, q, fun v d A' S' H' l2 c t q => k v d A' S' H' (l1.trans l2) (x1.go l2 c) t q, fun C gs fs d A' S' H' l2 c hd tf q => q.elim⟩
end
end Dx
namespace Dx
open PySem PySem.Spec PyProof.Rows L2 Px
mutual
def ltD (b : Nat) : D → Prop
  | .hdl m => m < b
  | .fz => True
  | .non => True
  | .bl _ => True
  | .int _ => True
  | .str _ => True
  | .lst ds => ltL b ds
  | .tup ds => ltL b ds
  | .obj _ fs => ltF b fs
  | .dic _ kvs => ltK b kvs
def ltL (b : Nat) : List D → Prop
  | [] => True
  | d :: ds => ltD b d ∧ ltL b ds
def ltF (b : Nat) : List (Str × D) → Prop
  | [] => True
  | (_, d) :: ds => ltD b d ∧ ltF b ds
def ltK (b : Nat) : List (Key × D) → Prop
  | [] => True
  | (_, d) :: ds => ltD b d ∧ ltK b ds
end
theorem ltL_all {b : Nat} : ∀ {l : List D}, ltL b l ↔ ∀ d ∈ l, ltD b d
  | [] => by simp [ltL]
  | d :: l => by simp [ltL, ltL_all (l := l)]
theorem ltL_map {α : Type} {b : Nat} {f : α → D} {l : List α} (h : ∀ x, ltD b (f x)) : ltL b (l.map f) := ltL_all.mpr fun d hd => by
  obtain ⟨x, _, rfl⟩ := List.mem_map.mp hd
  exact h x
theorem lt_lst {b : Nat} {l : List D} (h : ltL b l) : ltD b (.lst l) := by unfold ltD; exact h
theorem lt_int {b : Nat} {s : Int} : ltD b (.int s) := by unfold ltD; trivial
theorem lt_bl {b : Nat} {s : Bool} : ltD b (.bl s) := by unfold ltD; trivial
theorem lt_nil {b : Nat} : ltL b [] := by unfold ltL; trivial
theorem lt_cons {b : Nat} {d : D} {l : List D} (h : ltD b d) (h2 : ltL b l) : ltL b (d :: l) := by unfold ltL; exact ⟨h, h2⟩
def Ads.cut (A : Ads) (b : Nat) : Ads := ⟨A.c.take b, A.x⟩
theorem Out.cut {A : Ads} {a : Addr} (b : Nat) (h : Out A a) : Out (A.cut b) a := ⟨fun m => h.c (List.mem_of_mem_take m), h.x⟩
theorem cut_at {A : Ads} {b n : Nat} (h : n < b) : (A.cut b).c[n]? = A.c[n]? := by
  show (A.c.take b)[n]? = _
  rw [List.getElem?_take, if_pos h]
section
variable {K : PySem.W.Frag} {H : Hp} {A : Ads} {b : Nat}
mutual
theorem Dt.lt : ∀ {v : V} {d : D}, Dt K H A v d → ltD A.c.length d
  | _, _, .non => by unfold ltD; trivial
  | _, _, .bl _ => by unfold ltD; trivial
  | _, _, .int _ => by unfold ltD; trivial
  | _, _, .str _ => by unfold ltD; trivial
  | _, _, .lst _ _ r => by unfold ltD; exact r.lt
  | _, _, .tup _ _ r => by unfold ltD; exact r.lt
  | _, _, .obj _ _ r => by unfold ltD; exact r.lt
  | _, _, .dic _ _ r => by unfold ltD; exact r.lt
  | _, _, .hdl h => by unfold ltD; exact (List.getElem?_eq_some_iff.mp h).1
  | _, _, .fz _ => by unfold ltD; trivial
theorem Dts.lt : ∀ {v : List V} {d : List D}, Dts K H A v d → ltL A.c.length d
  | _, _, .nil => by unfold ltL; trivial
  | _, _, .cons h r => by unfold ltL; exact ⟨h.lt, r.lt⟩
theorem Dtf.lt : ∀ {v : List (Str × V)} {d : List (Str × D)}, Dtf K H A v d → ltF A.c.length d
  | _, _, .nil => by unfold ltF; trivial
  | _, _, .cons h r => by unfold ltF; exact ⟨h.lt, r.lt⟩
theorem Dtk.lt : ∀ {v : List (Key × V)} {d : List (Key × D)}, Dtk K H A v d → ltK A.c.length d
  | _, _, .nil => by unfold ltK; trivial
  | _, _, .cons h r => by unfold ltK; exact ⟨h.lt, r.lt⟩
end
variable {B : Ads}
mutual
theorem Dt.to (ho : ∀ q, Out A q → Out B q) (hc : ∀ (m : Nat) (q : Addr), m < b → A.c[m]? = some (some q) → B.c[m]? = some (some q)) : ∀ {v : V} {d : D}, Dt K H A v d → ltD b d → Dt K H B v d
  | _, _, .non, _ => .non
  | _, _, .bl _, _ => .bl _
  | _, _, .int _, _ => .int _
  | _, _, .str _, _ => .str _
  | _, _, .lst h n r, l => by unfold ltD at l; exact .lst h (ho _ n) (Dts.to ho hc r l)
  | _, _, .tup h n r, l => by unfold ltD at l; exact .tup h (ho _ n) (Dts.to ho hc r l)
  | _, _, .obj h n r, l => by unfold ltD at l; exact .obj h (ho _ n) (Dtf.to ho hc r l)
  | _, _, .dic h n r, l => by unfold ltD at l; exact .dic h (ho _ n) (Dtk.to ho hc r l)
  | _, _, .hdl h, l => by unfold ltD at l; exact .hdl (hc _ _ l h)
  | _, _, .fz h, _ => .fz h
theorem Dts.to (ho : ∀ q, Out A q → Out B q) (hc : ∀ (m : Nat) (q : Addr), m < b → A.c[m]? = some (some q) → B.c[m]? = some (some q)) : ∀ {v : List V} {d : List D}, Dts K H A v d → ltL b d → Dts K H B v d
  | _, _, .nil, _ => .nil
  | _, _, .cons h r, l => by unfold ltL at l; exact .cons (Dt.to ho hc h l.1) (Dts.to ho hc r l.2)
theorem Dtf.to (ho : ∀ q, Out A q → Out B q) (hc : ∀ (m : Nat) (q : Addr), m < b → A.c[m]? = some (some q) → B.c[m]? = some (some q)) : ∀ {v : List (Str × V)} {d : List (Str × D)}, Dtf K H A v d → ltF b d → Dtf K H B v d
  | _, _, .nil, _ => .nil
  | _, _, .cons h r, l => by unfold ltF at l; exact .cons (Dt.to ho hc h l.1) (Dtf.to ho hc r l.2)
theorem Dtk.to (ho : ∀ q, Out A q → Out B q) (hc : ∀ (m : Nat) (q : Addr), m < b → A.c[m]? = some (some q) → B.c[m]? = some (some q)) : ∀ {v : List (Key × V)} {d : List (Key × D)}, Dtk K H A v d → ltK b d → Dtk K H B v d
  | _, _, .nil, _ => .nil
  | _, _, .cons h r, l => by unfold ltK at l; exact .cons (Dt.to ho hc h l.1) (Dtk.to ho hc r l.2)
end
theorem Cell.lt {a : Addr} {c : D} (h : Cell K H A a c) : ltD A.c.length c := by
  cases c <;> first
    | exact h.elim
    | (obtain ⟨xs, _, r⟩ := h; unfold ltD; exact r.lt)
    | (obtain ⟨dx, fs, _, r, _⟩ := h; unfold ltD; exact r.lt)
    | (obtain ⟨kvs, _, r⟩ := h; unfold ltD; exact r.lt)
theorem Cell.to {a : Addr} {c : D} (ho : ∀ q, Out A q → Out B q) (hc : ∀ (m : Nat) (q : Addr), m < b → A.c[m]? = some (some q) → B.c[m]? = some (some q)) (h : Cell K H A a c) (l : ltD b c) : Cell K H B a c := by
  cases c <;> first
    | exact h.elim
    | (obtain ⟨xs, h1, r⟩ := h; unfold ltD at l; exact ⟨xs, h1, Dts.to ho hc r l⟩)
    | (obtain ⟨dx, fs, h1, r, z⟩ := h; unfold ltD at l; exact ⟨dx, fs, h1, Dtf.to ho hc r l, z⟩)
    | (obtain ⟨kvs, h1, r⟩ := h; unfold ltD at l; exact ⟨kvs, h1, Dtk.to ho hc r l⟩)
theorem cut_o (b : Nat) : ∀ q, Out A q → Out (A.cut b) q := fun q h => h.cut b
theorem cut_c : ∀ (m : Nat) (q : Addr), m < b → A.c[m]? = some (some q) → (A.cut b).c[m]? = some (some q) := fun m q h e => by rw [cut_at h]; exact e
end
def Kept (S0 S' : Sto) : Prop := S0.length ≤ S'.length ∧ ∀ n c, n < S0.length → S'[n]? = some c → S0[n]? = some c ∨ ltD S0.length c
theorem Kept.app (S G : Sto) : Kept S (S ++ G) := ⟨by rw [List.length_append]; omega, fun n c hn h => .inl (by rw [List.getElem?_append_left hn] at h; exact h)⟩
theorem Kept.refl (S : Sto) : Kept S S := ⟨Nat.le_refl _, fun _ _ _ h => .inl h⟩
inductive Res (S0 S' : Sto) : List D → List D → Prop
  | nil : Res S0 S' [] []
  | val {d : D} {hs ds : List D} : ltD S0.length d → Res S0 S' hs ds → Res S0 S' (d :: hs) (d :: ds)
  | hd {j : Nat} {es hs ds : List D} : S0.length ≤ j → S'[j]? = some (.lst es) → ltL S0.length es → Res S0 S' hs ds → Res S0 S' (.hdl j :: hs) (.lst es :: ds)
inductive Exit (S0 S' : Sto) : D → D → Sto → Prop
  | val {d : D} : Kept S0 S' → ltD S0.length d → Exit S0 S' d d (S'.take S0.length)
  | tree {n : Nat} {ds : List D} : Kept S0 S' → S0.length ≤ n → S'[n]? = some (.lst ds) → ltL S0.length ds → Exit S0 S' (.hdl n) (.lst ds) (S'.take S0.length)
  | all {d : D} : Exit S0 S' d d S'
  | tree2 {n : Nat} {hs ds : List D} : Kept S0 S' → S0.length ≤ n → S'[n]? = some (.lst hs) → Res S0 S' hs ds → Exit S0 S' (.hdl n) (.lst ds) (S'.take S0.length)
  | lst2 {hs ds : List D} : Kept S0 S' → Res S0 S' hs ds → Exit S0 S' (.lst hs) (.lst ds) (S'.take S0.length)
  | tup2 {hs ds : List D} : Kept S0 S' → Res S0 S' hs ds → Exit S0 S' (.tup hs) (.tup ds) (S'.take S0.length)
  | cell {n : Nat} {ds : List D} : Kept S0 S' → S0.length ≤ n → S'[n]? = some (.lst ds) → ltL S0.length ds → Exit S0 S' (.hdl n) (.hdl S0.length) (S'.take S0.length ++ [.lst ds])
section
variable {K : PySem.W.Frag} {H0 H : Hp} {A0 A : Ads} {S0 S' : Sto}
theorem kept_lt (C0 : Cells K H0 A0 S0) (l : Later H0 A0 H A) (k : Kept S0 S') {n : Nat} {a : Addr} {c : D} (hn : n < S0.length) (e : A.c[n]? = some (some a)) (e1 : S'[n]? = some c) : ltD S0.length c := by
  have hb : A0.c.length = S0.length := C0.len
  rcases k.2 n c hn e1 with e2 | e2
  · obtain ⟨c2, e3, kc2⟩ := C0.at_ n a (l.old n a (by omega) e)
    rw [e2] at e3
    cases e3
    have := kc2.lt
    rw [hb] at this
    exact this
  · exact e2
theorem kept_ok (C0 : Cells K H0 A0 S0) (l : Later H0 A0 H A) (C : Cells K H A S') (k : Kept S0 S') : Later H0 A0 H (A.cut S0.length) ∧ Cells K H (A.cut S0.length) (S'.take S0.length) := by
  have hb : A0.c.length = S0.length := C0.len
  have hA : A.c.length = S'.length := C.len
  have hk := k.1
  have hlt : ∀ {n : Nat} {a : Addr}, (A.cut S0.length).c[n]? = some (some a) → n < S0.length ∧ A.c[n]? = some (some a) := fun {n a} e => by
    have h1 : n < S0.length := by
      have e : (A.c.take S0.length)[n]? = some (some a) := e
      have := (List.getElem?_eq_some_iff.mp e).1
      rw [List.length_take] at this
      omega
    exact ⟨h1, by rw [cut_at h1] at e; exact e⟩
  refine ⟨⟨⟨fun a u e n => ⟨(l.keep a u e n).1, (l.keep a u e n).2.cut _⟩, fun n a e => ?_, ?_, fun n a hn e => l.old n a hn (hlt e).2⟩, l.ex, l.fz⟩, ?_, fun n a e => ?_, fun n m a e e' => C.inj n m a (hlt e).2 (hlt e').2, C.xs, fun n a e => C.xo n a (hlt e).2⟩
  · rw [cut_at (by have := (List.getElem?_eq_some_iff.mp e).1; omega)]
    exact l.live n a e
  · show _ ≤ (A.c.take S0.length).length
    rw [List.length_take]
    omega
  · show (A.c.take S0.length).length = _
    rw [List.length_take, List.length_take]
    omega
  · obtain ⟨h1, e⟩ := hlt e
    obtain ⟨c, e1, kc⟩ := C.at_ n a e
    exact ⟨c, by rw [List.getElem?_take, if_pos h1]; exact e1, Cell.to (cut_o _) cut_c kc (kept_lt C0 l k h1 e e1)⟩
theorem young_out (C0 : Cells K H0 A0 S0) (C : Cells K H A S') {n : Nat} {a : Addr} (hn : S0.length ≤ n) (ha : A.c[n]? = some (some a)) : Out (A.cut S0.length) a := by
  refine ⟨fun m => ?_, C.xo n a ha⟩
  obtain ⟨j, ej⟩ := List.mem_iff_getElem?.mp m
  have ej : (A.c.take S0.length)[j]? = some (some a) := ej
  rw [List.getElem?_take] at ej
  split at ej
  · have := C.inj n j a ha ej
    omega
  · cases ej
theorem res_ok (C0 : Cells K H0 A0 S0) (C : Cells K H A S') : ∀ {hs ds : List D} {xs : List V}, Res S0 S' hs ds → Dts K H A xs hs → Dts K H (A.cut S0.length) xs ds
  | _, _, _, .nil, .nil => .nil
  | _, _, _, .val lt r, .cons t ts => .cons (t.to (cut_o _) cut_c lt) (res_ok C0 C r ts)
  | _, _, _, .hd (j := j) hj e lt r, .cons t ts => by
    refine .cons ?_ (res_ok C0 C r ts)
    cases t with
    | hdl ha =>
      obtain ⟨c, e1, kc⟩ := C.at_ j _ ha
      rw [e] at e1
      cases e1
      obtain ⟨xs, hx, r⟩ := kc
      exact .lst hx (young_out C0 C hj ha) (Dts.to (cut_o _) cut_c r lt)
theorem exit_ok {v : V} {d d1 : D} {S1 : Sto} (C0 : Cells K H0 A0 S0) (l : Later H0 A0 H A) (C : Cells K H A S') (t : Dt K H A v d) (e : Exit S0 S' d d1 S1) : ∃ A1, Later H0 A0 H A1 ∧ Cells K H A1 S1 ∧ Dt K H A1 v d1 := by
  have hA : A.c.length = S'.length := C.len
  have hb : A0.c.length = S0.length := C0.len
  cases e with
  | all => exact ⟨A, l, C, t⟩
  | val k lt =>
    obtain ⟨l1, c1⟩ := kept_ok C0 l C k
    exact ⟨_, l1, c1, t.to (cut_o _) cut_c lt⟩
  | @tree2 n hs ds k hn e r =>
    obtain ⟨l1, c1⟩ := kept_ok C0 l C k
    cases t with
    | hdl ha =>
      obtain ⟨c, e1, kc⟩ := C.at_ n _ ha
      rw [e] at e1
      cases e1
      obtain ⟨xs, hx, r2⟩ := kc
      exact ⟨_, l1, c1, .lst hx (young_out C0 C hn ha) (res_ok C0 C r r2)⟩
  | @lst2 hs ds k r =>
    obtain ⟨l1, c1⟩ := kept_ok C0 l C k
    cases t with
    | lst hx o r2 => exact ⟨_, l1, c1, .lst hx (o.cut _) (res_ok C0 C r r2)⟩
  | @tup2 hs ds k r =>
    obtain ⟨l1, c1⟩ := kept_ok C0 l C k
    cases t with
    | tup hx o r2 => exact ⟨_, l1, c1, .tup hx (o.cut _) (res_ok C0 C r r2)⟩
  | @tree n ds k hn hs lt =>
    obtain ⟨l1, c1⟩ := kept_ok C0 l C k
    cases t with
    | hdl ha =>
      rename_i a
      obtain ⟨c, e1, kc⟩ := C.at_ n a ha
      rw [hs] at e1
      cases e1
      obtain ⟨xs, hx, r⟩ := kc
      refine ⟨_, l1, c1, .lst hx ⟨fun m => ?_, C.xo n a ha⟩ (Dts.to (cut_o _) cut_c r lt)⟩
      obtain ⟨j, ej⟩ := List.mem_iff_getElem?.mp m
      have ej : (A.c.take S0.length)[j]? = some (some a) := ej
      rw [List.getElem?_take] at ej
      split at ej
      · have := C.inj n j a ha ej
        omega
      · cases ej
  | @cell n ds k hn hs lt =>
    obtain ⟨l1, c1⟩ := kept_ok C0 l C k
    cases t with
    | hdl ha =>
      rename_i a
      obtain ⟨c, e1, kc⟩ := C.at_ n a ha
      rw [hs] at e1
      cases e1
      obtain ⟨xs, hx, r⟩ := kc
      have hl2 : (A.cut S0.length).c.length = S0.length := by
        rw [c1.len, List.length_take]
        have := k.1
        omega
      have ho : ∀ q, Out A q → Out ((A.cut S0.length).add a) q := fun q o => ⟨fun m => by
        rcases List.mem_append.mp m with m | m
        · exact o.c (List.mem_of_mem_take m)
        · have eb : q = a := by simpa using m
          subst eb
          exact o.c (List.mem_iff_getElem?.mpr ⟨n, ha⟩), o.x⟩
      have hadd : ∀ m, m < S0.length → ((A.cut S0.length).add a).c[m]? = A.c[m]? := fun m hm => by
        show ((A.cut S0.length).c ++ [some a])[m]? = _
        rw [List.getElem?_append_left (by omega), cut_at hm]
      have hc : ∀ (m : Nat) (q : Addr), m < S0.length → A.c[m]? = some (some q) → ((A.cut S0.length).add a).c[m]? = some (some q) := fun m q hm e => by rw [hadd m hm]; exact e
      have side : ∀ {n2 : Nat} {b : Addr}, ((A.cut S0.length).add a).c[n2]? = some (some b) → (n2 < S0.length ∧ A.c[n2]? = some (some b)) ∨ (n2 = S0.length ∧ b = a) := fun {n2 b} e => by
        by_cases h2 : n2 < S0.length
        · exact .inl ⟨h2, by rw [← hadd n2 h2]; exact e⟩
        · have e : ((A.cut S0.length).c ++ [some a])[n2]? = some (some b) := e
          rw [List.getElem?_append_right (by omega)] at e
          have h0 : n2 - (A.cut S0.length).c.length = 0 := by
            have := (List.getElem?_eq_some_iff.mp e).1
            simp at this
            omega
          rw [h0] at e
          exact .inr ⟨by omega, by cases e; rfl⟩
      have hlt1 : (S'.take S0.length).length = S0.length := by
        rw [List.length_take]
        have := k.1
        omega
      refine ⟨(A.cut S0.length).add a, ⟨⟨fun b u e n2 => ⟨(l.keep b u e n2).1, ho b (l.keep b u e n2).2⟩, fun n2 b e => hc n2 b (by have := (List.getElem?_eq_some_iff.mp e).1; omega) (l.live n2 b e), ?_, fun n2 b hn2 e => ?_⟩, l.ex, l.fz⟩, ⟨?_, fun n2 b e => ?_, fun n2 m2 b e e' => ?_, C.xs, fun n2 b e => ?_⟩, .hdl ?_⟩
      · show _ ≤ ((A.cut S0.length).c ++ [some a]).length
        rw [List.length_append]
        omega
      · rcases side e with ⟨_, e⟩ | ⟨e2, _⟩
        · exact l.old n2 b hn2 e
        · omega
      · show ((A.cut S0.length).c ++ [some a]).length = _
        rw [List.length_append, List.length_append, hl2, hlt1]
        rfl
      · rcases side e with ⟨h2, e⟩ | ⟨rfl, rfl⟩
        · obtain ⟨c, e1, kc⟩ := C.at_ n2 b e
          exact ⟨c, by rw [List.getElem?_append_left (by omega), List.getElem?_take, if_pos h2]; exact e1, Cell.to ho hc kc (kept_lt C0 l k h2 e e1)⟩
        · exact ⟨.lst ds, by rw [List.getElem?_append_right (by omega), hlt1, Nat.sub_self]; rfl, xs, hx, Dts.to ho hc r lt⟩
      · rcases side e with ⟨h2, e4⟩ | ⟨en, eb⟩ <;> rcases side e' with ⟨h3, e3⟩ | ⟨em, eb2⟩
        · exact C.inj n2 m2 b e4 e3
        · subst eb2
          have := C.inj n2 n b e4 ha
          omega
        · subst eb
          have := C.inj m2 n b e3 ha
          omega
        · omega
      · rcases side e with ⟨h2, e⟩ | ⟨rfl, rfl⟩
        · exact C.xo n2 b e
        · exact C.xo n b ha
      · show ((A.cut S0.length).c ++ [some a])[S0.length]? = _
        rw [List.getElem?_append_right (by omega), hl2, Nat.sub_self]
        rfl
def startD (n : Nat) (ds : List D) : Rho := ds.map some ++ List.replicate (n - ds.length) none
theorem Rel.start {N : List Str} {vs : List V} {ds : List D} (ts : Dts K H A vs ds) : Rel K H A (L2.start N vs) (startD N.length ds) := by
  have hl := ts.len
  refine ⟨by simp [L2.start, startD, hl], fun i d e => ?_⟩
  unfold startD at e
  by_cases hi : i < ds.length
  · rw [List.getElem?_append_left (by rw [List.length_map]; exact hi), List.getElem?_map] at e
    cases e2 : ds[i]? with
    | none => rw [e2] at e; cases e
    | some y =>
      rw [e2] at e
      cases e
      obtain ⟨x, hx, t⟩ := ts.at e2
      exact ⟨x, by unfold L2.start; rw [List.getElem?_append_left (by rw [List.length_map]; omega), List.getElem?_map, hx]; rfl, t⟩
  · rw [List.getElem?_append_right (by rw [List.length_map]; omega)] at e
    have := List.mem_of_getElem? e
    have := List.eq_of_mem_replicate this
    cases this
def RtD (S0 : Sto) (Q : DQ) : DQ := fun d S' => ∃ d1 S1, Exit S0 S' d d1 S1 ∧ Q d1 S1
def ExD (S0 : Sto) (E : DX) : DW := fun C gs _ S' => Kept S0 S' ∧ ltF S0.length gs ∧ E C gs (S'.take S0.length)
theorem lift_def {dsp : DSp} {t : WX → TS} {d : DW → DS} {N : List Str} (sim : ∀ W WD, SimS K W WD (t W) (d WD))
    (dp : ∀ ds S Q E, dsp ds S Q E → d (ExD S E) { nx := fun _ S' => RtD S Q .non S', rt := RtD S Q, b := S.length } (startD N.length ds) S) :
    ∀ vs H Q E, lift K dsp vs H Q E → t (fun cls d _ H => E cls d H) { nx := fun _ H' => Q .non H', rt := Q } (L2.start N vs) H := by
  rintro vs H Q E ⟨A, S, ds, QD, ED, C, ts, h, hq, he⟩
  refine sim _ _ H A ?_ _ _ A S H _ _ ⟨Rel.start ts, C, Later.refl _ _⟩ ⟨?_, ?_, ?_, ?_, ?_⟩ (dp ds S QD ED h)
  · rintro σ ρ A' S' H' C0 gs fs dd x hd tf ⟨k, lt, e⟩
    obtain ⟨l1, c1⟩ := kept_ok C x.l x.c k
    exact he _ _ _ _ _ _ _ l1 c1 hd (Dtf.to (cut_o _) cut_c tf lt) e
  · rintro σ ρ A' S' H' x ⟨d1, S1, ex, q⟩
    obtain ⟨A1, l1, c1, t1⟩ := exit_ok C x.l x.c .non ex
    exact hq _ _ _ _ _ l1 c1 t1 q
  · exact fun _ _ _ _ _ _ h => h.elim
  · exact fun _ _ _ _ _ _ h => h.elim
  · rintro σ ρ A' S' H' v d x t ⟨d1, S1, ex, q⟩
    obtain ⟨A1, l1, c1, t1⟩ := exit_ok C x.l x.c t ex
    exact hq _ _ _ _ _ l1 c1 t1 q
  · exact C.len.symm
end
end Dx
namespace Dx
open PySem PySem.Spec PyProof.Rows L2 Px
section
variable {ρ : Rho} {S : Sto} {F : DEnds} {Q : DQ} {QB : Bool → Sto → Prop} {QL : List D → Sto → Prop} {QO : Option Int → Sto → Prop} {QR : Rho → Sto → Prop} {RI : IS → Sto → Prop} {d u : DS} {de da db : DE} {dt du : DT} {dl : DA} {x y v : D} {dg : DG} {i j : Int} {s z : Str} {k : Nat} {E : DX}
theorem w_seq (h : d { F with nx := u F } ρ S) : dSeq d u F ρ S := h
theorem w_next (h : F.nx ρ S) : dNext F ρ S := h
theorem w_break (h : F.bk ρ S) : dBreak F ρ S := h
theorem w_cont (h : F.ct ρ S) : dCont F ρ S := h
theorem w_asg (h : de ρ S fun d S1 => dg d ρ S1 F.nx) : dAsg de dg F ρ S := h
theorem w_ret (h : de ρ S F.rt) : dRet de F ρ S := h
theorem w_retN (h : F.rt .non S) : dRetN F ρ S := h
theorem w_drop (h : de ρ S fun _ S1 => F.nx ρ S1) : dDrop de F ρ S := h
theorem w_ifS (h : dt ρ S fun b S1 => if b = true then d F ρ S1 else u F ρ S1) : dIfS dt d u F ρ S := h
theorem w_nocut (h : d { F with nx := u F } ρ S) : dCut d u F ρ S := ⟨u F, h, fun _ _ h => h⟩
theorem w_cut (Mid : Rho → Sto → Prop) (h : d { F with nx := Mid } ρ S) (h2 : ∀ ρ' S', Mid ρ' S' → u F ρ' S') : dCut d u F ρ S := ⟨Mid, h, h2⟩
theorem w_var (e : ρ[k]? = some (some x)) (h : Q x S) : dVar k ρ S Q := ⟨x, e, h⟩
theorem w_newF {ds : List D} (h : Q (.lst ds) S) : newAt false ds S Q := h
theorem w_newT {ds : List D} (h : Q (.hdl S.length) (S ++ [.lst ds])) : newAt true ds S Q := h
theorem w_c (h : Q x S) : dC x ρ S Q := h
theorem w_op {r : D → D → Sto → DQ → Prop} (h : da ρ S fun x S1 => db ρ S1 fun y S2 => r x y S2 Q) : dOp r da db ρ S Q := h
theorem w_un {r : D → Sto → DQ → Prop} (h : da ρ S fun x S1 => r x S1 Q) : dUn r da ρ S Q := h
theorem w_gname (h : QR (ρ.set k (some v)) S) : dgName k v ρ S QR := h
theorem w_gtup {n : Nat} {g : DGs} {ds : List D} (hl : ds.length = n) (h : g ds ρ S QR) : dgTup n g (.tup ds) ρ S QR := ⟨ds, rfl, hl, h⟩
theorem w_gcons {g : DG} {r : DGs} {es : List D} (h : g v ρ S fun ρ1 S1 => r es ρ1 S1 QR) : dgCons g r (v :: es) ρ S QR := ⟨v, es, rfl, h⟩
theorem w_gnil (h : QR ρ S) : dgNil [] ρ S QR := ⟨rfl, h⟩
theorem w_gsub (h : da ρ S fun o S1 => db ρ S1 fun i S2 => dSet o i v S2 fun S3 => QR ρ S3) : dgSub da db v ρ S QR := h
theorem w_nil (h : QL [] S) : dNil ρ S QL := h
theorem w_cons (h : da ρ S fun x S1 => dl ρ S1 fun xs S2 => QL (x :: xs) S2) : dCons da dl ρ S QL := h
theorem w_cb {r : List D → Sto → DQ → Prop} (h : dl ρ S fun ds S1 => r ds S1 Q) : dCB r dl ρ S Q := h
theorem w_lstF (h : dl ρ S fun ds S1 => ds.length ≤ sizeLine ∧ Q (.lst ds) S1) : dLst false dl ρ S Q := h
theorem w_lstT (h : dl ρ S fun ds S1 => ds.length ≤ sizeLine ∧ Q (.hdl S1.length) (S1 ++ [.lst ds])) : dLst true dl ρ S Q := h
theorem w_tup (h : dl ρ S fun ds S1 => ds.length ≤ sizeLine ∧ Q (.tup ds) S1) : dTup dl ρ S Q := h
theorem w_test (h : de ρ S fun d S1 => isBl d fun b => QB b S1) : dTest de ρ S QB := h
theorem w_isb {b : Bool} {R : Bool → Prop} (h : R b) : isBl (.bl b) R := ⟨b, rfl, h⟩
theorem w_and (h : dt ρ S fun c S1 => if c = true then du ρ S1 QB else QB false S1) : dAnd dt du ρ S QB := h
theorem w_or (h : dt ρ S fun c S1 => if c = true then QB true S1 else du ρ S1 QB) : dOr dt du ρ S QB := h
theorem w_not (h : dt ρ S fun c S1 => QB (!c) S1) : dNot dt ρ S QB := h
theorem w_andV (h : da ρ S fun d S1 => isBl d fun c => if c = true then db ρ S1 Q else Q (.bl false) S1) : dAndV da db ρ S Q := h
theorem w_orV (h : da ρ S fun d S1 => isBl d fun c => if c = true then Q (.bl true) S1 else db ρ S1 Q) : dOrV da db ρ S Q := h
theorem w_notV (h : da ρ S fun d S1 => isBl d fun c => Q (.bl (!c)) S1) : dNotV da ρ S Q := h
theorem w_if (h : dt ρ S fun c S1 => if c = true then da ρ S1 Q else db ρ S1 Q) : dIf dt da db ρ S Q := h
theorem w_yes (h : QB true S) : dYes ρ S QB := h
theorem w_neg (h : Q (.int (-i)) S) : dNeg (.int i) S Q := ⟨i, rfl, h⟩
theorem w_sub (h : Q (.int (i - j)) S) : dSub (.int i) (.int j) S Q := ⟨i, j, rfl, rfl, trivial, h⟩
theorem w_le (h : Q (.bl (decide (i ≤ j))) S) : dLe (.int i) (.int j) S Q := ⟨i, j, rfl, rfl, trivial, h⟩
theorem w_gt (h : Q (.bl (decide (j < i))) S) : dGt (.int i) (.int j) S Q := ⟨i, j, rfl, rfl, trivial, h⟩
theorem w_ge (h : Q (.bl (decide (j ≤ i))) S) : dGe (.int i) (.int j) S Q := ⟨i, j, rfl, rfl, trivial, h⟩
theorem w_ltI (h : Q (.bl (decide (i < j))) S) : dLt (.int i) (.int j) S Q := .int h
theorem w_addI {b : Bool} (h : Q (.int (i + j)) S) : dAdd b (.int i) (.int j) S Q := .int h
theorem w_eqI (h : Q (.bl (decide (i = j))) S) : dEq (.int i) (.int j) S Q := .int h
theorem w_eqS (h : Q (.bl (decide (s = z))) S) : dEq (.str s) (.str z) S Q := .str h
theorem w_neI (h : Q (.bl (!decide (i = j))) S) : dNe (.int i) (.int j) S Q := .int h
theorem w_neS (h : Q (.bl (!decide (s = z))) S) : dNe (.str s) (.str z) S Q := .str h
theorem w_is {neg : Bool} (h : Q (.bl (tgtIn neg (isNon x))) S) : dIs neg x .non S Q := ⟨rfl, h⟩
theorem w_inS {neg : Bool} (h : Q (.bl (tgtIn neg (strIn s z))) S) : dIn neg (.str s) (.str z) S Q := .sub h
theorem w_nopart (h : QO none S) : dNoPart ρ S QO := h
theorem w_part (h : de ρ S fun d S1 => ∃ i, d = .int i ∧ QO (some i) S1) : dPart de ρ S QO := h
theorem w_exi {R : Int → Prop} (h : R i) : ∃ k, D.int i = .int k ∧ R k := ⟨i, rfl, h⟩
theorem w_sl {b : Bool} {lo hi : DO} (h : de ρ S fun x S1 => lo ρ S1 fun l S2 => hi ρ S2 fun u S3 => dSlR b x l u S3 Q) : dSl b de lo hi ρ S Q := h
theorem w_intI (h : Q (.int i) S) : dInt [.int i] S Q := .int h
theorem w_strS (h : Q (.str z) S) : dStr [.str z] S Q := .str h
theorem w_call {WD : DW} {dsp : DSp} (h : dl ρ S fun ds S1 => dsp ds S1 Q fun C gs S2 => WD C gs ρ S2) : dCall WD dsp dl ρ S Q := h
theorem w_call0 {dsp : DSp} (h : dl ρ S fun ds S1 => dsp ds S1 Q fun _ _ _ => False) : dCall0 dsp dl ρ S Q := h
theorem w_raise {C f : Str} {WD : DW} (h : dl ρ S fun ds S1 => ∃ d, ds = [d] ∧ WD C [(f, d)] ρ S1) : dRaise C f WD dl F ρ S := h
theorem w_att {m : List (Str × DAlt)} (h : de ρ S fun d S1 => ∃ C gs al, rs S1 d = .obj C gs ∧ (C, al) ∈ m ∧ al.run d gs S1 Q) : dAtt m de ρ S Q := h
theorem w_app (h : da ρ S fun o S1 => ∃ n, o = .hdl n ∧ (∃ ds, S1[n]? = some (.lst ds)) ∧ dl ρ S1 fun ys S2 => ∃ y ds, ys = [y] ∧ S2[n]? = some (.lst ds) ∧ ds.length ≤ 1000000 ∧ Q .non (S2.set n (.lst (ds ++ [y])))) : dApp da dl ρ S Q := h
theorem w_rng1 (h : dl ρ S fun ds S1 => ∃ j : Int, ds = [.int j] ∧ -(2 ^ 62) ≤ j ∧ j < 2 ^ 62 ∧ RI ⟨rngD 0 j.toNat, fun _ => True⟩ S1) : dRng1 dl ρ S RI := h
theorem w_rng2 (h : dl ρ S fun ds S1 => ∃ i j : Int, ds = [.int i, .int j] ∧ (-(2 ^ 62) ≤ i ∧ i < 2 ^ 62 ∧ -(2 ^ 62) ≤ j ∧ j < 2 ^ 62) ∧ RI ⟨rngD i (j - i).toNat, fun _ => True⟩ S1) : dRng2 dl ρ S RI := h
theorem w_any (h : de ρ S fun d S1 => dAnyR d S1 RI) : dAny de ρ S RI := h
def ForD (is : IS) (dg : DG) (db : DS) (F : DEnds) (ρ : Rho) (S1 : Sto) : Prop := ∃ P : Nat → Rho → Sto → Prop, P 0 ρ S1 ∧ (∀ i ρ' S', i ≤ is.items.length → P i ρ' S' → is.ok S') ∧
  (∀ i d ρ' S', is.items[i]? = some d → P i ρ' S' → dg d ρ' S' fun ρ2 S2 => db { F with nx := P (i + 1), ct := P (i + 1), bk := F.nx, b := S1.length } ρ2 S2) ∧ ∀ ρ' S', P is.items.length ρ' S' → F.nx ρ' S'
theorem w_for {di : DI} {body : DS} (h : di ρ S fun is S1 => ForD is dg body F ρ S1) : dFor di dg body F ρ S := h
def LcD (is : IS) (c : Bool) (dg : DG) (dt : DT) (de : DE) (vs : List Nat) (ρ : Rho) (S1 : Sto) (Q : DQ) : Prop := ∃ P : Nat → List D → Sto → Prop, P 0 [] S1 ∧ (∀ i acc S', i ≤ is.items.length → P i acc S' → is.ok S') ∧
  (∀ i d acc S', is.items[i]? = some d → P i acc S' → dg d (wipeD ρ vs) S' fun ρ2 S2 => dt ρ2 S2 fun b S3 => if b = true then de ρ2 S3 fun y S4 => acc.length < sizeLine ∧ P (i + 1) (acc ++ [y]) S4 else P (i + 1) acc S3) ∧
  ∀ acc S', P is.items.length acc S' → newAt c acc S' Q
theorem w_lc {c : Bool} {di : DI} {vs : List Nat} (h : di ρ S fun is S1 => LcD is c dg dt de vs ρ S1 Q) : dLc c di dg dt de vs ρ S Q := h
theorem lcd_map {α : Type} {is : IS} {c : Bool} {vs : List Nat} (xs : List α) (f g : α → D) (hi : is.items = xs.map f) (hl : xs.length ≤ 1000000) (ok : is.ok S)
    (hf : ∀ a, a ∈ xs → ∀ Q' : DQ, Q' (g a) S → dg (f a) (wipeD ρ vs) S fun ρ2 S2 => de ρ2 S2 Q') (hq : newAt c (xs.map g) S Q) : LcD is c dg dYes de vs ρ S Q := by
  refine ⟨fun i acc S' => S' = S ∧ acc = (xs.take i).map g, ⟨rfl, rfl⟩, fun i acc S' _ p => by rw [p.1]; exact ok, ?_, ?_⟩
  · rintro i d acc S' hd ⟨rfl, rfl⟩
    rw [hi, List.getElem?_map] at hd
    cases e : xs[i]? with
    | none => rw [e] at hd; cases hd
    | some a =>
      rw [e] at hd
      cases hd
      have hlt := (List.getElem?_eq_some_iff.mp e).1
      have key := hf a (List.mem_of_getElem? e) (fun y S4 => (List.map g (xs.take i)).length < sizeLine ∧ S4 = S' ∧ List.map g (xs.take i) ++ [y] = List.map g (xs.take (i + 1))) ⟨by rw [List.length_map, List.length_take, sizeLine_eq]; omega, rfl, by rw [List.take_add_one, e]; simp⟩
      exact key
  · rintro acc S' ⟨rfl, rfl⟩
    rw [hi, List.length_map, List.take_length]
    exact hq
theorem w_len {ds : List D} (e : Sq S x ds) (h : Q (.int ds.length) S) : dLen [x] S Q := .seq e h
theorem w_ix {ds : List D} (e : Sq S x ds) (e2 : atI ds i = some y) (h : Q y S) : dIx x (.int i) S Q := .seq e e2 h
theorem sq_l {ds : List D} : Sq S (.lst ds) ds := .inl rfl
theorem sq_t {ds : List D} : Sq S (.tup ds) ds := .inr rfl
theorem rt_same (lt : ltD S.length x) (h : Q x S) : RtD S Q x S := ⟨x, _, .val (Kept.refl S) lt, by rw [List.take_length]; exact h⟩
theorem ex_same {C f : Str} (lt : ltD S.length x) (h : E C [(f, x)] S) : ExD S E C [(f, x)] ρ S := ⟨Kept.refl S, by unfold ltF; exact ⟨lt, by unfold ltF; trivial⟩, by rw [List.take_length]; exact h⟩
theorem ex_app {C f : Str} {G : Sto} (lt : ltD S.length x) (h : E C [(f, x)] S) : ExD S E C [(f, x)] ρ (S ++ G) := ⟨Kept.app S G, by unfold ltF; exact ⟨lt, by unfold ltF; trivial⟩, by rw [List.take_left]; exact h⟩
def DSp1 (P : D → Sto → DQ → DX → Prop) : DSp := fun ds S Q E => ∃ x, ds = [x] ∧ P x S Q E
def DSp2 (P : D → D → Sto → DQ → DX → Prop) : DSp := fun ds S Q E => ∃ x y, ds = [x, y] ∧ P x y S Q E
def DSp3 (P : D → D → D → Sto → DQ → DX → Prop) : DSp := fun ds S Q E => ∃ x y z, ds = [x, y, z] ∧ P x y z S Q E
def DSp4 (P : D → D → D → D → Sto → DQ → DX → Prop) : DSp := fun ds S Q E => ∃ x y z u, ds = [x, y, z, u] ∧ P x y z u S Q E
def DSp5 (P : D → D → D → D → D → Sto → DQ → DX → Prop) : DSp := fun ds S Q E => ∃ x y z u v, ds = [x, y, z, u, v] ∧ P x y z u v S Q E
def DSp6 (P : D → D → D → D → D → D → Sto → DQ → DX → Prop) : DSp := fun ds S Q E => ∃ x y z u v w, ds = [x, y, z, u, v, w] ∧ P x y z u v w S Q E
theorem lift_len {K : PySem.W.Frag} {dsp : DSp} {n : Nat} (h : ∀ ds S Q E, dsp ds S Q E → ds.length = n) {vs : List V} {H : Hp} {Q : VK} {E : XK} (l : lift K dsp vs H Q E) : vs.length = n := by
  obtain ⟨A, S, ds, QD, ED, C, ts, hd, _⟩ := l
  rw [ts.len]
  exact h _ _ _ _ hd
theorem DSp1.len {P} {ds : List D} (h : DSp1 P ds S Q E) : ds.length = 1 := by obtain ⟨_, rfl, _⟩ := h; rfl
theorem DSp2.len {P} {ds : List D} (h : DSp2 P ds S Q E) : ds.length = 2 := by obtain ⟨_, _, rfl, _⟩ := h; rfl
theorem DSp3.len {P} {ds : List D} (h : DSp3 P ds S Q E) : ds.length = 3 := by obtain ⟨_, _, _, rfl, _⟩ := h; rfl
theorem DSp4.len {P} {ds : List D} (h : DSp4 P ds S Q E) : ds.length = 4 := by obtain ⟨_, _, _, _, rfl, _⟩ := h; rfl
theorem DSp5.len {P} {ds : List D} (h : DSp5 P ds S Q E) : ds.length = 5 := by obtain ⟨_, _, _, _, _, rfl, _⟩ := h; rfl
theorem DSp6.len {P} {ds : List D} (h : DSp6 P ds S Q E) : ds.length = 6 := by obtain ⟨_, _, _, _, _, _, rfl, _⟩ := h; rfl
end
end Dx
namespace Dx
open PySem PySem.Spec PyProof.Rows L2 Px
def EOk (K : PySem.W.Frag) (W : WX) (WD : DW) (E : L2.St → XK) (ED : Rho → DX) : Prop := ∀ H0 A0, WRel K H0 A0 W WD → ∀ σ ρ A S H C gs fs d, StR K H0 A0 σ ρ A S H → XdA H d fs → Dtf K H A fs gs → ED ρ C gs S → E σ (.ref (He.ga K C)) d H
section
variable {K : PySem.W.Frag} {W : WX} {WD : DW} {te ta tb : TE} {de da db : DE} {tl : TA} {dl : DA} {E : L2.St → XK} {ED : Rho → DX}
def edW (WD : DW) : Rho → DX := fun ρ C gs S => WD C gs ρ S
theorem eo_w : EOk K W WD (WE W) (edW WD) := fun H0 A0 hW σ ρ A S H C gs fs d x hd tf h => hW _ _ _ _ _ _ _ _ _ x hd tf h
theorem run_lift {sp : Sp} {dsp : DSp} (ad : ∀ vs H Q E, lift K dsp vs H Q E → sp vs H Q E) (eo : EOk K W WD E ED) {H0 A0 σ ρ A S H} (hW : WRel K H0 A0 W WD) (x : StR K H0 A0 σ ρ A S H) {vs : List V} {ds : List D} (ts : Dts K H A vs ds) {Q : VK} {QD : DQ} (h : dsp ds S QD (ED ρ))
    (k : ∀ v d A' S' H', Later H A H' A' → StR K H0 A0 σ ρ A' S' H' → Dt K H' A' v d → QD d S' → Q v H') : sp vs H Q (E σ) :=
  ad _ _ _ _ ⟨A, S, ds, QD, _, x.c, ts, h, fun v d A' S' H' l c t q => k v d A' S' H' l (x.go l c) t q, fun C gs fs d A' S' H' l c hd tf q => eo _ _ hW _ _ _ _ _ _ _ _ _ (x.go l c) hd tf q⟩
def OpDS (K : PySem.W.Frag) (W : WX) (WD : DW) (r : Cl.R2S) (rd : Rho → D → D → Sto → DQ → Prop) : Prop := ∀ H0 A0, WRel K H0 A0 W WD → ∀ σ ρ A S H x y dx dy Q QD, StR K H0 A0 σ ρ A S H → Dt K H A x dx → Dt K H A y dy → rd ρ dx dy S QD →
  (∀ v d A' S' H', Later H A H' A' → StR K H0 A0 σ ρ A' S' H' → Dt K H' A' v d → QD d S' → Q v H') → r σ x y H Q
def dOpS (rd : Rho → D → D → Sto → DQ → Prop) (da db : DE) : DE := fun ρ S Q => da ρ S fun x S1 => db ρ S1 fun y S2 => rd ρ x y S2 Q
theorem sim_opS {r : Cl.R2S} {rd : Rho → D → D → Sto → DQ → Prop} (hr : OpDS K W WD r rd) (ha : SimE K W WD ta da) (hb : SimE K W WD tb db) : SimE K W WD (Cl.tOpS r ta tb) (dOpS rd da db) := by
  intro H0 A0 hW σ ρ A S H Q QD x h k
  refine ha.at hW x h fun v1 d1 A1 S1 H1 l1 x1 t1 h1 => ?_
  refine hb.at hW x1 h1 fun v2 d2 A2 S2 H2 l2 x2 t2 h2 => ?_
  exact hr _ _ hW _ _ _ _ _ _ _ _ _ _ _ x2 (t1.later l2) t2 h2 fun v d A' S' H' l3 x3 t h => k v d A' S' H' ((l1.trans l2).trans l3) x3 t h
theorem opd_s {r : R2} {rd : D → D → Sto → DQ → Prop} (h : OpD K r rd) {H0 A0 σ ρ A S H x y dx dy} {Q : VK} {QD : DQ} (xx : StR K H0 A0 σ ρ A S H) (tx : Dt K H A x dx) (ty : Dt K H A y dy) (q : rd dx dy S QD)
    (k : ∀ v d A' S' H', Later H A H' A' → StR K H0 A0 σ ρ A' S' H' → Dt K H' A' v d → QD d S' → Q v H') : r x y H Q := h _ _ _ _ _ _ _ _ _ xx.c tx ty q fun v d A' S' H' l c t h => k v d A' S' H' l (xx.go l c) t h
def dOwn2 (ED : Rho → DX) (m : List (Str × DSp)) (base : D → D → Sto → DQ → Prop) : Rho → D → D → Sto → DQ → Prop := fun ρ x y S Q => base x y S Q ∨ ∃ C gs hs dsp, rs S x = .obj C gs ∧ rs S y = .obj C hs ∧ (C, dsp) ∈ m ∧ dsp [x, y] S Q (ED ρ)
theorem ops_own2 {l : List (Addr × Sp)} {m : List (Str × DSp)} {r : R2} {rd : D → D → Sto → DQ → Prop} (hm : SpsSim K l m) (eo : EOk K W WD E ED) (hb : OpD K r rd) : OpDS K W WD (Cl.rOwn2 l E r) (dOwn2 ED m rd) := by
  intro H0 A0 hW σ ρ A S H x y dx dy Q QD xx tx ty q k
  rcases q with q | ⟨C, gs, hs, dsp, e1, e2, hin, q⟩
  · exact .inl (opd_s hb xx tx ty q k)
  · obtain ⟨a, dx', fs, rfl, ha, _⟩ := ob_at xx.c tx e1
    obtain ⟨b, dy', fs', rfl, hb', _⟩ := ob_at xx.c ty e2
    obtain ⟨sp, hr, ad⟩ := hm.at hin
    exact own2_go sp hr ha hb' (run_lift ad eo hW xx (.cons tx (.cons ty .nil)) q k)
def dIxO (ED : Rho → DX) (m : List (Str × DSp)) : Rho → D → D → Sto → DQ → Prop := fun ρ x y S Q => dIx x y S Q ∨ ∃ C gs dsp, rs S x = .obj C gs ∧ (C, dsp) ∈ m ∧ dsp [x, y] S Q (ED ρ)
theorem ops_ixO {l : List (Addr × Sp)} {m : List (Str × DSp)} (hm : SpsSim K l m) (eo : EOk K W WD E ED) : OpDS K W WD (Cl.rIxO l E (rIxP K)) (dIxO ED m) := by
  intro H0 A0 hW σ ρ A S H x y dx dy Q QD xx tx ty q k
  rcases q with q | ⟨C, gs, dsp, e1, hin, q⟩
  · exact .inl (opd_s op_ix xx tx ty q k)
  · obtain ⟨a, dx', fs, rfl, ha, _⟩ := ob_at xx.c tx e1
    obtain ⟨sp, hr, ad⟩ := hm.at hin
    exact ixO_go sp hr ha (run_lift ad eo hW xx (.cons tx (.cons ty .nil)) q k)
def dInO (neg : Bool) (ED : Rho → DX) (m : List (Str × DSp)) : Rho → D → D → Sto → DQ → Prop := fun ρ x y S Q => dIn neg x y S Q ∨ ∃ C gs dsp, rs S y = .obj C gs ∧ (C, dsp) ∈ m ∧ dsp [y, x] S (fun d S' => isBl d fun c => Q (.bl (tgtIn neg c)) S') (ED ρ)
theorem ops_inO {neg : Bool} {l : List (Addr × Sp)} {m : List (Str × DSp)} (hm : SpsSim K l m) (eo : EOk K W WD E ED) : OpDS K W WD (Cl.rOwnI l E neg (rInP K neg)) (dInO neg ED m) := by
  intro H0 A0 hW σ ρ A S H x y dx dy Q QD xx tx ty q k
  rcases q with q | ⟨C, gs, dsp, e1, hin, q⟩
  · exact .inl (opd_s op_in xx tx ty q k)
  · obtain ⟨a, dx', fs, rfl, ha, _⟩ := ob_at xx.c ty e1
    obtain ⟨sp, hr, ad⟩ := hm.at hin
    refine in_go sp hr ha (run_lift ad eo hW xx (.cons ty (.cons tx .nil)) q fun v d A' S' H' l x' t ⟨c, ec, q⟩ => ?_)
    subst ec
    exact ⟨c, t.isb, k _ _ _ _ _ l x' (.bl _) q⟩
def dMethE (ED : Rho → DX) (m : List (Str × DSp)) (nm : Str) (de : DE) (dl : DA) : DE := fun ρ S Q => de ρ S fun d S1 => ∃ C gs dsp, rs S1 d = .obj C gs ∧ (C, dsp) ∈ m ∧ gs.lookup nm = none ∧ dl ρ S1 fun ds S2 => dsp (d :: ds) S2 Q (ED ρ)
def dAug (i : Nat) (de : DE) (rd : Rho → D → D → Sto → DQ → Prop) : DS := fun F ρ S => ∃ x, ρ[i]? = some (some x) ∧ de ρ S fun y S1 => rd ρ x y S1 fun z S2 => F.nx (ρ.set i (some z)) S2
theorem sim_aug {i : Nat} {r : Cl.R2S} {rd : Rho → D → D → Sto → DQ → Prop} (h1 : SimE K W WD te de) (hr : OpDS K W WD r rd) : SimS K W WD (Cl.tAugO i te r) (dAug i de rd) := by
  rintro H0 A0 hW σ ρ A S H En F x e ⟨d, ed, h⟩
  obtain ⟨v, ev, t⟩ := x.r.at_ i d ed
  refine ⟨v, ev, ?_⟩
  refine h1.at hW x h fun v1 d1 A1 S1 H1 l1 x1 t1 q1 => ?_
  exact hr _ _ hW _ _ _ _ _ _ _ _ _ _ _ x1 (t.later l1) t1 q1 fun z dz A' S' H' l2 x2 tz q => e.nx _ _ _ _ _ ⟨x2.r.set i tz, x2.c, x2.l⟩ q
def dInp (ED : Rho → DX) (m : List (Str × DSp)) (base : D → D → Sto → DQ → Prop) : Rho → D → D → Sto → DQ → Prop := fun ρ x y S Q => base x y S Q ∨ ∃ C gs dsp, rs S x = .obj C gs ∧ (C, dsp) ∈ m ∧ dsp [x, y] S Q (ED ρ)
theorem ops_inp {l : List (Addr × Sp)} {m : List (Str × DSp)} {r : R2} {rd : D → D → Sto → DQ → Prop} (hm : SpsSim K l m) (eo : EOk K W WD E ED) (hb : OpD K r rd) : OpDS K W WD (Cl.rInp l E r) (dInp ED m rd) := by
  intro H0 A0 hW σ ρ A S H x y dx dy Q QD xx tx ty q k
  rcases q with q | ⟨C, gs, dsp, e1, hin, q⟩
  · exact .inl (opd_s hb xx tx ty q k)
  · obtain ⟨a, dx', fs, rfl, ha, _⟩ := ob_at xx.c tx e1
    obtain ⟨sp, hr, ad⟩ := hm.at hin
    exact inp_go sp hr ha (run_lift ad eo hW xx (.cons tx (.cons ty .nil)) q k)
def dAddI := dIn2 (fun _ _ => True) fun i j => .int (i + j)
theorem op_addI : OpD K (rIn0 fun i j => .int (i + j)) dAddI := op_in0 fun i j H A => .int _
theorem set_ok {H2 : Hp} {A2 : Ads} {S2 : Sto} {v1 v2 v : V} {d1 d2 d : D} {Q : Hp → Prop} {QS : Sto → Prop} (C : Cells K H2 A2 S2) (t4 : Dt K H2 A2 v1 d1) (t2 : Dt K H2 A2 v2 d2) (t3 : Dt K H2 A2 v d) (h : dSet d1 d2 d S2 QS) (k : ∀ A' S' H', Later H2 A2 H' A' → Cells K H' A' S' → QS S' → Q H') : rSetP v1 v2 v H2 Q := by
  cases h with
  | lst hs hj q =>
    cases t2
    cases t4 with
    | hdl ha =>
      rename_i n j kk es a
      obtain ⟨c, hc, kc⟩ := C.at_ n a ha
      rw [hs] at hc
      cases hc
      obtain ⟨xs, hx, r⟩ := kc
      have lp := Later.put C ha (fun _ _ e => by rw [hx] at e; cases e) (o := .lst (xs.set j v))
      exact .inl ⟨_, _, _, _, rfl, rfl, hx, by rw [r.len]; exact hj, k _ _ _ lp (C.put ha (c := .lst (es.set j d)) ⟨_, upd_same, (r.set j t3).later lp⟩) q⟩
  | dic hs ek hl q =>
    subst ek
    cases t4 with
    | hdl ha =>
      rename_i n key es a
      obtain ⟨c, hc, kc⟩ := C.at_ n a ha
      rw [hs] at hc
      cases hc
      obtain ⟨kvs, hx, r⟩ := kc
      have hx : H2 a = some (.dK kvs) := hx
      have lp := Later.put C ha (fun _ _ e => by rw [hx] at e; cases e) (o := .dK (putK kvs key v))
      exact .inr ⟨_, by rw [kD_V t2]; exact DPut.k hx (by rw [r.len]; exact hl), k _ _ _ lp (C.put ha (c := .dic false (putG es key d)) ⟨_, upd_same, (r.put t3).later lp⟩) q⟩
def dgSubO (ED : Rho → DX) (m : List (Str × DSp)) (da db : DE) : DG := fun d ρ S Q => da ρ S fun o S1 => db ρ S1 fun i S2 => dSet o i d S2 (fun S3 => Q ρ S3) ∨ ∃ C gs dsp, rs S2 o = .obj C gs ∧ (C, dsp) ∈ m ∧ dsp [o, i, d] S2 (fun _ S3 => Q ρ S3) (ED ρ)
theorem sim_gsubO {l : List (Addr × Sp)} {m : List (Str × DSp)} (hm : SpsSim K l m) (eo : EOk K W WD E ED) (h1 : SimE K W WD ta da) (h2 : SimE K W WD tb db) : SimG K W WD (Cl.gSubO ta tb (Cl.rSetO l E)) (dgSubO ED m da db) := by
  intro H0 A0 hW σ ρ A S H v d Q QD x t h k
  refine h1.at hW x h fun v1 d1 A1 S1 H1 l1 x1 t1 q1 => ?_
  refine h2.at hW x1 q1 fun v2 d2 A2 S2 H2 l2 x2 t2 q2 => ?_
  have l := l1.trans l2
  rcases q2 with q2 | ⟨C, gs, dsp, e1, hin, q⟩
  · exact .inl (set_ok x2.c (t1.later l2) t2 (t.later l) q2 fun A' S' H' l3 c3 q => k _ _ _ _ _ (l.trans l3) (x2.go l3 c3) q)
  · obtain ⟨a, dx', fs, rfl, ha, _⟩ := ob_at x2.c (t1.later l2) e1
    obtain ⟨sp, hr, ad⟩ := hm.at hin
    exact set_go sp hr ha (run_lift ad eo hW x2 (.cons (t1.later l2) (.cons t2 (.cons (t.later l) .nil))) q fun v d A' S' H' l3 x3 t q => k _ _ _ _ _ (l.trans l3) x3 q)
def dPop (da : DE) (dl : DA) : DE := fun ρ S Q => da ρ S fun o S1 => ∃ n, o = .hdl n ∧ (∃ ds, S1[n]? = some (.lst ds)) ∧ dl ρ S1 fun ys S2 => ∃ (k : Nat) (y : D) (ds : List D), ys = [.int k] ∧ k < 1000000 ∧ S2[n]? = some (.lst ds) ∧ ds[k]? = some y ∧ Q y (S2.set n (.lst (ds.eraseIdx k)))
def dIndex (da : DE) (dl : DA) : DE := fun ρ S Q => da ρ S fun o S1 => (∃ ds, rs S1 o = .lst ds) ∧ dl ρ S1 fun ys S2 => ∃ (z : Int) (l : List Int) (j : Nat), ys = [.int z] ∧ rs S2 o = .lst (l.map .int) ∧ l[j]? = some z ∧ (∀ m, m < j → l[m]? ≠ some z) ∧ Q (.int (j : Nat)) S2
def dRemove (da : DE) (dl : DA) : DE := fun ρ S Q => da ρ S fun o S1 => ∃ n, o = .hdl n ∧ (∃ ds, S1[n]? = some (.lst ds)) ∧ dl ρ S1 fun ys S2 => ∃ (z : Int) (l : List Int) (j : Nat), ys = [.int z] ∧ S2[n]? = some (.lst (l.map .int)) ∧ l[j]? = some z ∧ (∀ m, m < j → l[m]? ≠ some z) ∧ Q .non (S2.set n (.lst ((l.eraseIdx j).map .int)))
def OwnKD (m : List (Str × Str)) (S : Sto) (d : D) (ds : List (Key × D)) : Prop := ∃ C gs f n, rs S d = .obj C gs ∧ (C, f) ∈ m ∧ gs.lookup f = some (.hdl n) ∧ S[n]? = some (.dic false ds) ∧ ds.length ≤ 1000000
inductive KsSim (K : PySem.W.Frag) : List (Addr × Str) → List (Str × Str) → Prop
  | nil : KsSim K [] []
  | cons {C f : Str} {l : List (Addr × Str)} {m : List (Str × Str)} : KsSim K l m → KsSim K ((He.ga K C, f) :: l) ((C, f) :: m)
theorem KsSim.at {C f : Str} : ∀ {l : List (Addr × Str)} {m : List (Str × Str)}, KsSim K l m → (C, f) ∈ m → (He.ga K C, f) ∈ l
  | _, _, .nil, h => by cases h
  | _, _, .cons t, m => by
    rcases List.mem_cons.mp m with e | m
    · cases e; exact List.mem_cons_self
    · exact List.mem_cons_of_mem _ (t.at m)
theorem ownk_at {l : List (Addr × Str)} {m : List (Str × Str)} (hm : KsSim K l m) {H : Hp} {A : Ads} {S : Sto} {v : V} {d : D} {ds : List (Key × D)} (C : Cells K H A S) (t : Dt K H A v d) (h : OwnKD m S d ds) : ∃ kvs, Cl.OwnK l v H kvs ∧ Dtk K H A kvs ds := by
  obtain ⟨C0, gs, f, n, e1, hin, e2, e3, hl⟩ := h
  obtain ⟨a, dx, fs, rfl, ha, r⟩ := ob_at C t e1
  obtain ⟨u, eu, tu⟩ := r.look e2
  cases tu with
  | hdl hb =>
    obtain ⟨c, hc, kc⟩ := C.at_ _ _ hb
    rw [e3] at hc
    cases hc
    obtain ⟨kvs, hk, rk⟩ := kc
    exact ⟨kvs, ownK_go (hm.at hin) ha eu hk (by rw [rk.len]; exact hl), rk⟩
theorem Dtk.keys : ∀ {kvs : List (Key × V)} {ds : List (Key × D)} {H : Hp} {A : Ads}, Dtk K H A kvs ds → Dts K H A (kvs.map fun p => kV p.1) (ds.map fun p => kD p.1)
  | _, _, _, _, .nil => .nil
  | _, _, _, _, .cons (f := f) h r => by
    refine .cons ?_ r.keys
    cases f with
    | inl i => exact .int i
    | inr z => exact .str z
def dLenK (m : List (Str × Str)) : List D → Sto → DQ → Prop := fun xs S Q => dLen xs S Q ∨ ∃ x ds, xs = [x] ∧ OwnKD m S x ds ∧ Q (.int ds.length) S
theorem cb_lenK {l : List (Addr × Str)} {m : List (Str × Str)} (hm : KsSim K l m) : CbD K (Cl.rLenK K l) (dLenK m) := by
  intro H A S vs ds Q QD c ts h k
  rcases h with h | ⟨x, es, rfl, h, q⟩
  · exact .inl (cb_len _ _ _ _ _ _ _ c ts h k)
  · cases ts with
    | cons t ts =>
      cases ts
      obtain ⟨kvs, ho, r⟩ := ownk_at hm c t h
      rw [← r.len] at q
      exact .inr ⟨_, kvs, rfl, ho, k.now c (.int _) q⟩
def dListK (b : Bool) (m : List (Str × Str)) : List D → Sto → DQ → Prop := fun xs S Q => dList b xs S Q ∨ ∃ x ds, xs = [x] ∧ OwnKD m S x ds ∧ newAt b (ds.map fun p => kD p.1) S Q
theorem cb_listK {b : Bool} {l : List (Addr × Str)} {m : List (Str × Str)} (hm : KsSim K l m) : CbD K (Cl.rListK K l) (dListK b m) := by
  intro H A S vs ds Q QD c ts h k
  rcases h with h | ⟨x, es, rfl, h, q⟩
  · exact .inl (cb_list _ _ _ _ _ _ _ c ts h k)
  · cases ts with
    | cons t ts =>
      cases ts
      obtain ⟨kvs, ho, r⟩ := ownk_at hm c t h
      exact .inr ⟨_, kvs, rfl, ho, fun p hp => mk_lst k c r.keys q hp⟩
end
end Dx
namespace Dx
open PySem PySem.Spec PyProof.Rows L2 Px
section
variable {ρ : Rho} {S : Sto} {F : DEnds} {Q : DQ} {QR : Rho → Sto → Prop} {de da db : DE} {dl : DA} {x y v : D} {k : Nat} {ED : Rho → DX} {m : List (Str × DSp)}
theorem w_opS {rd : Rho → D → D → Sto → DQ → Prop} (h : da ρ S fun x S1 => db ρ S1 fun y S2 => rd ρ x y S2 Q) : dOpS rd da db ρ S Q := h
theorem w_methE {nm : Str} (h : de ρ S fun d S1 => ∃ C gs dsp, rs S1 d = .obj C gs ∧ (C, dsp) ∈ m ∧ gs.lookup nm = none ∧ dl ρ S1 fun ds S2 => dsp (d :: ds) S2 Q (ED ρ)) : dMethE ED m nm de dl ρ S Q := h
theorem w_aug {rd : Rho → D → D → Sto → DQ → Prop} (e : ρ[k]? = some (some x)) (h : de ρ S fun y S1 => rd ρ x y S1 fun z S2 => F.nx (ρ.set k (some z)) S2) : dAug k de rd F ρ S := ⟨x, e, h⟩
theorem w_gsubO (h : da ρ S fun o S1 => db ρ S1 fun i S2 => dSet o i v S2 (fun S3 => QR ρ S3) ∨ ∃ C gs dsp, rs S2 o = .obj C gs ∧ (C, dsp) ∈ m ∧ dsp [o, i, v] S2 (fun _ S3 => QR ρ S3) (ED ρ)) : dgSubO ED m da db v ρ S QR := h
theorem w_pop (h : da ρ S fun o S1 => ∃ n, o = .hdl n ∧ (∃ ds, S1[n]? = some (.lst ds)) ∧ dl ρ S1 fun ys S2 => ∃ (k : Nat) (y : D) (ds : List D), ys = [.int k] ∧ k < 1000000 ∧ S2[n]? = some (.lst ds) ∧ ds[k]? = some y ∧ Q y (S2.set n (.lst (ds.eraseIdx k)))) : dPop da dl ρ S Q := h
theorem w_index (h : da ρ S fun o S1 => (∃ ds, rs S1 o = .lst ds) ∧ dl ρ S1 fun ys S2 => ∃ (z : Int) (l : List Int) (j : Nat), ys = [.int z] ∧ rs S2 o = .lst (l.map .int) ∧ l[j]? = some z ∧ (∀ m, m < j → l[m]? ≠ some z) ∧ Q (.int (j : Nat)) S2) : dIndex da dl ρ S Q := h
theorem w_remove (h : da ρ S fun o S1 => ∃ n, o = .hdl n ∧ (∃ ds, S1[n]? = some (.lst ds)) ∧ dl ρ S1 fun ys S2 => ∃ (z : Int) (l : List Int) (j : Nat), ys = [.int z] ∧ S2[n]? = some (.lst (l.map .int)) ∧ l[j]? = some z ∧ (∀ m, m < j → l[m]? ≠ some z) ∧ Q .non (S2.set n (.lst ((l.eraseIdx j).map .int)))) : dRemove da dl ρ S Q := h
theorem att_fld {S1 : Sto} {C : Str} {gs : List (Str × D)} {ml : List (Str × DAlt)} (f : Str) (hm : (C, DAlt.fld f) ∈ ml) (e : rs S1 x = .obj C gs) (hl : gs.lookup f = some y) (h : Q y S1) : ∃ C gs al, rs S1 x = .obj C gs ∧ (C, al) ∈ ml ∧ al.run x gs S1 Q := ⟨C, gs, _, e, hm, y, hl, h⟩
theorem att_prop {S1 : Sto} {C : Str} {gs : List (Str × D)} {ml : List (Str × DAlt)} (dsp : DSp) (hm : (C, DAlt.prop dsp) ∈ ml) (e : rs S1 x = .obj C gs) (h : dsp [x] S1 Q fun _ _ _ => False) : ∃ C gs al, rs S1 x = .obj C gs ∧ (C, al) ∈ ml ∧ al.run x gs S1 Q := ⟨C, gs, _, e, hm, h⟩
end
end Dx
namespace Dx
open PySem PySem.Spec PyProof.Rows L2 Px
section
variable {K : PySem.W.Frag} {W : WX} {WD : DW}
def HandSim (K : PySem.W.Frag) (W : WX) (WD : DW) (l : List L2N.Cla) (hd : Str → List (Str × D) → DS) : Prop := ∀ H0 A0, WRel K H0 A0 W WD → ∀ E F, ERel K H0 A0 E F → ∀ σ ρ A S H C gs fs d, StR K H0 A0 σ ρ A S H → H d = some (.xd fs) → Dtf K H A fs gs → hd C gs F ρ S → L2N.wList K W E l (.ref (He.ga K C)) (some d) σ H
def Hand0 (K : PySem.W.Frag) (W : WX) (WD : DW) (l : List L2N.Cla) (hd : Str → List (Str × D) → DS) : Prop := ∀ H0 A0, WRel K H0 A0 W WD → ∀ E F, ERel K H0 A0 E F → ∀ σ ρ A S H C, StR K H0 A0 σ ρ A S H → hd C [] F ρ S → L2N.wList K W E l (.ref (He.ga K C)) none σ H
theorem hand0_no {l : List L2N.Cla} {hd : Str → List (Str × D) → DS} (h : ∀ C F ρ S, ¬ hd C [] F ρ S) : Hand0 K W WD l hd := fun _ _ _ _ _ _ _ _ _ _ _ _ _ q => (h _ _ _ _ q).elim
def dTry (db : DW → DS) (hd : Str → List (Str × D) → DS) : DS := fun F ρ S => db (fun C gs ρ' S' => hd C gs F ρ' S') F ρ S
theorem sim_try {tb : WX → TS} {db : DW → DS} {l : List L2N.Cla} {hd : Str → List (Str × D) → DS} (hb : ∀ W1 WD1, SimS K W1 WD1 (tb W1) (db WD1)) (hh : HandSim K W WD l hd) (h0 : Hand0 K W WD l hd := by exact hand0_no fun _ _ _ _ h => by cases h) : SimS K W WD (fun D σ H => (fun W1 => tb W1) (L2N.wList K W D l) D σ H) (dTry db hd) :=
  fun H0 A0 hW σ ρ A S H E F x e h => hb _ _ H0 A0 (fun σ ρ A S H C gs fs d x' hx tf h' => by
    cases d with
    | some d => exact hh H0 A0 hW E F e σ ρ A S H C gs fs d x' hx tf h'
    | none =>
      have hx : fs = [] := hx
      subst hx
      cases tf
      exact h0 H0 A0 hW E F e σ ρ A S H C x' h') σ ρ A S H E F x e h
theorem w_try {db : DW → DS} {hd : Str → List (Str × D) → DS} {F : DEnds} {ρ : Rho} {S : Sto} (h : db (fun C gs ρ' S' => hd C gs F ρ' S') F ρ S) : dTry db hd F ρ S := h
end
end Dx
namespace Dx
open PySem PySem.Spec PyProof.Rows L2 Px
section
variable {K : PySem.W.Frag} {W : WX} {WD : DW}
theorem sim_make {C : Addr} {sp : Sp} {dsp : DSp} {tl : TA} {dl : DA} (ad : ∀ vs H Q E, lift K dsp vs H Q E → ∀ x dx, H x = none → H dx = none → dx ≠ x → sp (V.ref x :: vs) (upd (upd H dx (.own x)) x (.ins C dx [])) (fun v H2 => v = .non ∧ Q (.ref x) H2) E) (hl : SimA K W WD tl dl) : SimE K W WD (Cl.tMakeS C sp (WE W) tl) (dCall WD dsp dl) := by
  intro H0 A0 hW σ ρ A S H Q QD x h k
  refine hl H0 A0 hW _ _ _ _ _ _ _ x h fun vs ds A1 S1 H1 l1 x1 ts h1 => ?_
  refine ad _ _ _ _ ⟨A1, S1, ds, _, _, x1.c, ts, h1, fun v d A' S' H' l2 c t q => k v d A' S' H' (l1.trans l2) (x1.go l2 c) t q, fun C gs fs d A' S' H' l2 c hd tf q => ?_⟩
  exact hW _ _ _ _ _ _ _ _ _ (x1.go l2 c) hd tf q
end
end Dx
namespace Dx
open PySem PySem.Spec PyProof.Rows L2 Px
inductive Pth where
  | var (i : Nat)
  | att (p : Pth) (f : Str)
def Pth.at (ρ : Rho) (S : Sto) : Pth → Option D
  | .var i => (ρ[i]?).join
  | .att p f => match p.at ρ S with
    | none => none
    | some d => match rs S d with
      | .obj _ gs => gs.lookup f
      | _ => none
theorem Pth.dt {K : PySem.W.Frag} {H : Hp} {A : Ads} {σ : L2.St} {ρ : Rho} {S : Sto} (r : Rel K H A σ ρ) (C : Cells K H A S) : ∀ {p : Pth} {d : D}, p.at ρ S = some d → ∃ v, Dt K H A v d
  | .var i, d, h => by
    have h : (ρ[i]?).join = some d := h
    cases e : ρ[i]? with
    | none => rw [e] at h; cases h
    | some o =>
      rw [e] at h
      have h : o = some d := h
      subst h
      obtain ⟨v, _, t⟩ := r.at_ i d e
      exact ⟨v, t⟩
  | .att p f, d, h => by
    unfold Pth.at at h
    cases e : p.at ρ S with
    | none => rw [e] at h; cases h
    | some d0 =>
      rw [e] at h
      dsimp only at h
      obtain ⟨v, t⟩ := Pth.dt r C e
      cases e2 : rs S d0 <;> (rw [e2] at h) <;> first
        | (cases h; done)
        | (have h : List.lookup f _ = some d := h
           obtain ⟨a, dx, fs, _, _, rf⟩ := ob_at C t e2
           obtain ⟨x, _, tx⟩ := rf.look h
           exact ⟨x, tx⟩)
section
variable {K : PySem.W.Frag} {W : WX} {WD : DW} {te td ta tb : TE} {de da db : DE} {tt : TT} {dt : DT} {ts : TS} {ds : DS} {tl : TA} {dl : DA}
def lkF (n b : Nat) (kvs : List (Key × D)) (F : DEnds) : DEnds := ⟨fun ρ S => F.nx ρ (S.set n (.dic false kvs)), fun d S => F.rt d (S.set n (.dic false kvs)), fun ρ S => F.bk ρ (S.set n (.dic false kvs)), fun ρ S => F.ct ρ (S.set n (.dic false kvs)), b⟩
def dLockW (WD : DW) (p : Pth) (d : DW → DS) : DS := fun F ρ S => ∃ n kvs, p.at ρ S = some (.hdl n) ∧ S[n]? = some (.dic false kvs) ∧ d (fun C gs ρ' S' => WD C gs ρ' (S'.set n (.dic false kvs))) (lkF n S.length kvs F) ρ (S.set n (.dic true kvs))
def dLockE (p : Pth) (d : DE) : DE := fun ρ S Q => ∃ n kvs, p.at ρ S = some (.hdl n) ∧ S[n]? = some (.dic false kvs) ∧ d ρ (S.set n (.dic true kvs)) fun v S' => Q v (S'.set n (.dic false kvs))
theorem lock_in {H0 : Hp} {A0 : Ads} {σ : L2.St} {ρ : Rho} {A : Ads} {S : Sto} {H : Hp} {p : Pth} {n : Nat} {kvs : List (Key × D)} (x : StR K H0 A0 σ ρ A S H) (hp : p.at ρ S = some (.hdl n)) (hn : S[n]? = some (.dic false kvs)) :
    ∃ a vs, A.c[n]? = some (some a) ∧ H a = some (.dK vs) ∧ Dtk K H A vs kvs ∧ ∀ od, StR K (upd H a (.frz od (.dK vs))) A σ ρ A (S.set n (.dic true kvs)) (upd H a (.frz od (.dK vs))) ∧ Later H A (upd H a (.frz od (.dK vs))) A := by
  obtain ⟨v, t⟩ := Pth.dt x.r x.c hp
  cases t with
  | hdl ha =>
    rename_i a
    obtain ⟨c, hc, kc⟩ := x.c.at_ n a ha
    rw [hn] at hc
    cases hc
    obtain ⟨vs, hk, r⟩ := kc
    have hk : H a = some (.dK vs) := hk
    refine ⟨a, vs, ha, hk, r, fun od => ?_⟩
    have lp := Later.put x.c ha (fun _ _ e => by rw [hk] at e; cases e) (o := .frz od (.dK vs))
    exact ⟨⟨x.r.later lp, x.c.put ha (c := .dic true kvs) ⟨vs, ⟨od, upd_same⟩, r.later lp⟩, Later.refl _ _⟩, lp⟩
theorem lock_out {H0 : Hp} {A0 : Ads} {σ σ' : L2.St} {ρ ρ' : Rho} {A A' : Ads} {S S' : Sto} {H H' : Hp} {n : Nat} {kvs : List (Key × D)} {a : Addr} {vs : List (Key × V)} {od : Obj} (x : StR K H0 A0 σ ρ A S H) (ha : A.c[n]? = some (some a)) (hk : H a = some (.dK vs)) (r : Dtk K H A vs kvs)
    (lp : Later H A (upd H a (.frz od (.dK vs))) A) (xx : StR K (upd H a (.frz od (.dK vs))) A σ' ρ' A' S' H') : H' a = some (.frz od (.dK vs)) ∧ Kp H' A' (upd H' a (.dK vs)) A' ∧ Later H A (upd H' a (.dK vs)) A' ∧ StR K H0 A0 σ' ρ' A' (S'.set n (.dic false kvs)) (upd H' a (.dK vs)) := by
  have ha' := xx.l.live n a ha
  have kp : Kp H' A' (upd H' a (.dK vs)) A' := Kp.put ha'
  have L : Later H A (upd H' a (.dK vs)) A' := by
    refine ⟨lp.toKp.trans (xx.l.toKp.trans kp), fun b m => ?_, fun b od' u' e => ?_⟩
    · have nb : b ≠ a := fun z => x.c.xo n a ha (by rw [← z]; exact m)
      obtain ⟨e1, m1⟩ := lp.ex b m
      obtain ⟨e2, m2⟩ := xx.l.ex b m1
      exact ⟨by rw [upd_ne nb, e2, e1], m2⟩
    · have nb : b ≠ a := fun z => by rw [z, hk] at e; cases e
      rw [upd_ne nb]
      exact xx.l.fz _ _ _ (lp.fz _ _ _ e)
  refine ⟨xx.l.fz a od _ upd_same, kp, L, xx.r.kp kp, xx.c.put ha' (c := .dic false kvs) ⟨vs, upd_same, ((r.kp lp.toKp).kp xx.l.toKp).kp kp⟩, x.l.trans L⟩
theorem lock_e {H0 : Hp} {A0 : Ads} {σ : L2.St} {ρ : Rho} {A : Ads} {S : Sto} {H : Hp} {n : Nat} {kvs : List (Key × D)} {a : Addr} {vs : List (Key × V)} {od : Obj} {E : Ends} {F : DEnds} (x : StR K H0 A0 σ ρ A S H) (e : ERel K H0 A0 E F) (ha : A.c[n]? = some (some a)) (hk : H a = some (.dK vs)) (r : Dtk K H A vs kvs)
    (lp : Later H A (upd H a (.frz od (.dK vs))) A) : ERel K (upd H a (.frz od (.dK vs))) A ⟨fun σ' H' => H' a = some (.frz od (.dK vs)) ∧ E.nx σ' (upd H' a (.dK vs)), fun v H' => H' a = some (.frz od (.dK vs)) ∧ E.rt v (upd H' a (.dK vs)), fun σ' H' => H' a = some (.frz od (.dK vs)) ∧ E.bk σ' (upd H' a (.dK vs)), fun σ' H' => H' a = some (.frz od (.dK vs)) ∧ E.ct σ' (upd H' a (.dK vs))⟩ (lkF n S.length kvs F) := by
  refine ⟨fun σ' ρ' A' S' H' xx q => ?_, fun σ' ρ' A' S' H' xx q => ?_, fun σ' ρ' A' S' H' xx q => ?_, fun σ' ρ' A' S' H' v d xx t q => ?_, x.c.len.symm⟩
  · obtain ⟨h1, kp, _, y⟩ := lock_out x ha hk r lp xx
    exact ⟨h1, e.nx _ _ _ _ _ y q⟩
  · obtain ⟨h1, kp, _, y⟩ := lock_out x ha hk r lp xx
    exact ⟨h1, e.bk _ _ _ _ _ y q⟩
  · obtain ⟨h1, kp, _, y⟩ := lock_out x ha hk r lp xx
    exact ⟨h1, e.ct _ _ _ _ _ y q⟩
  · obtain ⟨h1, kp, _, y⟩ := lock_out x ha hk r lp xx
    exact ⟨h1, e.rt _ _ _ _ _ _ _ y (t.kp kp) q⟩
theorem wrel_lk {H0 : Hp} {A0 : Ads} {σ : L2.St} {ρ : Rho} {A : Ads} {S : Sto} {H : Hp} {n : Nat} {kvs : List (Key × D)} {a : Addr} {vs : List (Key × V)} {od : Obj} (hW : WRel K H0 A0 W WD) (x : StR K H0 A0 σ ρ A S H) (ha : A.c[n]? = some (some a)) (hk : H a = some (.dK vs)) (r : Dtk K H A vs kvs)
    (lp : Later H A (upd H a (.frz od (.dK vs))) A) : WRel K (upd H a (.frz od (.dK vs))) A (Cl.wLk W a od (.dK vs)) (fun C gs ρ' S' => WD C gs ρ' (S'.set n (.dic false kvs))) := fun σ' ρ' A' S' H' C gs fs d xx hd tf q => by
  obtain ⟨h1, kp, _, y⟩ := lock_out x ha hk r lp xx
  refine ⟨h1, hW _ _ _ _ _ _ _ _ _ y ?_ (tf.kp kp) q⟩
  cases d with
  | none => exact hd
  | some d =>
    have hd : H' d = some (.xd fs) := hd
    show upd H' a _ d = some (.xd fs)
    rw [upd_ne (fun z => by rw [z, h1] at hd; cases hd)]
    exact hd
theorem sim_lockW {p : Pth} {tw : WX → TS} {dw : DW → DS} (h : ∀ W1 WD1, SimS K W1 WD1 (tw W1) (dw WD1)) : SimS K W WD (Cl.tLockW W tw) (dLockW WD p dw) := by
  rintro H0 A0 hW σ ρ A S H E F x e ⟨n, kvs, hp, hn, q⟩
  obtain ⟨a, vs, ha, hk, r, go⟩ := lock_in x hp hn
  refine ⟨a, .dK vs, hk, trivial, fun od => ?_⟩
  obtain ⟨x1, lp⟩ := go od
  exact h _ _ _ _ (wrel_lk hW x ha hk r lp) _ _ _ _ _ _ _ x1 (lock_e x e ha hk r lp) q
theorem sim_lockE {p : Pth} (h : SimE K W WD te de) : SimE K W WD (tLockE te) (dLockE p de) := by
  rintro H0 A0 hW σ ρ A S H Q QD x ⟨n, kvs, hp, hn, q⟩ k
  obtain ⟨a, vs, ha, hk, r, go⟩ := lock_in x hp hn
  refine ⟨a, .dK vs, hk, trivial, fun od => ?_⟩
  obtain ⟨x1, lp⟩ := go od
  refine h _ _ (hW.base (x.l.trans lp)) _ _ _ _ _ _ _ x1 q fun v d A' S' H' l' xx t q' => ?_
  obtain ⟨h1, kp, L, y⟩ := lock_out x ha hk r lp xx
  exact ⟨h1, k _ _ _ _ _ L y (t.kp kp) q'⟩
theorem Dtk.vals : ∀ {kvs : List (Key × V)} {ds : List (Key × D)} {H : Hp} {A : Ads}, Dtk K H A kvs ds → Dts K H A (kvs.map Prod.snd) (ds.map Prod.snd)
  | _, _, _, _, .nil => .nil
  | _, _, _, _, .cons h r => .cons h r.vals
def dKeys (de : DE) : DI := fun ρ S R => de ρ S fun x S1 => ∃ n kvs, x = .hdl n ∧ S1[n]? = some (.dic true kvs) ∧ R ⟨kvs.map fun p => kD p.1, fun _ => True⟩ S1
def dVals (de : DE) : DI := fun ρ S R => de ρ S fun x S1 => ∃ n kvs, x = .hdl n ∧ S1[n]? = some (.dic true kvs) ∧ R ⟨kvs.map Prod.snd, fun _ => True⟩ S1
theorem frz_at {H : Hp} {A : Ads} {S : Sto} {n : Nat} {a : Addr} {kvs : List (Key × D)} (C : Cells K H A S) (ha : A.c[n]? = some (some a)) (hs : S[n]? = some (.dic true kvs)) : ∃ od vs, H a = some (.frz od (.dK vs)) ∧ Dtk K H A vs kvs := by
  obtain ⟨c, hc, kc⟩ := C.at_ n a ha
  rw [hs] at hc
  cases hc
  obtain ⟨vs, hk, r⟩ := kc
  have hk : ∃ od, H a = some (.frz od (.dK vs)) := hk
  obtain ⟨od, hk⟩ := hk
  exact ⟨od, vs, hk, r⟩
theorem sim_keys (h1 : SimE K W WD td de) : SimI K W WD (iKeys td) (dKeys de) := by
  intro H0 A0 hW σ ρ A S H R RD x h k
  refine h1.at hW x h fun v1 d1 A1 S1 H1 l1 x1 t1 ⟨n, kvs, e, hs, q⟩ => ?_
  subst e
  cases t1 with
  | hdl ha =>
    obtain ⟨od, vs, hk, r⟩ := frz_at x1.c ha hs
    exact ⟨_, od, rfl, .inl ⟨vs, hk, k _ _ _ _ _ l1 x1 (fun A2 S2 H2 i l2 _ _ => .of (yields_keys (l2.fz _ _ _ hk) i) (r.keys.later l2)) q⟩⟩
def dOwnK (m : List (Str × Str)) (de : DE) : DI := fun ρ S R => de ρ S fun x S1 => ∃ C gs f n kvs, rs S1 x = .obj C gs ∧ (C, f) ∈ m ∧ gs.lookup f = some (.hdl n) ∧ S1[n]? = some (.dic true kvs) ∧ R ⟨kvs.map fun p => kD p.1, fun _ => True⟩ S1
def WhileD (dt : DT) (db : DS) (F : DEnds) (ρ : Rho) (S : Sto) : Prop := ∃ P : Nat → Rho → Sto → Prop, (∃ m, P m ρ S) ∧ ∀ m ρ' S', P m ρ' S' → dt ρ' S' fun b S1 => if b = true then db { F with nx := fun ρ2 S2 => ∃ m', m' < m ∧ P m' ρ2 S2, ct := fun ρ2 S2 => ∃ m', m' < m ∧ P m' ρ2 S2, bk := F.nx, b := S.length } ρ' S1 else F.nx ρ' S1
def dWhile (dt : DT) (db : DS) : DS := fun F ρ S => WhileD dt db F ρ S
theorem sim_cls {v : V} {d : D} (t : ∀ H A, Dt K H A v d) : SimE K W WD (Cl.tCls v) (dC d) := fun H0 A0 hW σ ρ A S H Q QD x h k => k v d A S H (Later.refl H A) x (t H A) h
def dNewK : DE := fun _ S Q => Q (.hdl S.length) (S ++ [.dic false []])
theorem sim_newK : SimE K W WD tDNewK dNewK := by
  intro H0 A0 hW σ ρ A S H Q QD x h k p hp
  have l := Later.cell x.c hp (o := .dK [])
  refine k _ _ (A.add p) _ _ l (x.go l (x.c.cell hp (c := .dic false []) ⟨[], upd_same, .nil⟩)) (.hdl ?_) h
  show (A.c ++ [some p])[S.length]? = _
  rw [← x.c.len, List.getElem?_append_right (Nat.le_refl _), Nat.sub_self]
  rfl
inductive dMulL (b : Bool) : D → D → Sto → DQ → Prop
  | int {i j : Int} {S : Sto} {Q : DQ} : CMulP i j → Q (.int (i * j)) S → dMulL b (.int i) (.int j) S Q
  | lst {x : D} {ds : List D} {k : Nat} {S : Sto} {Q : DQ} : rs S x = .lst ds → k < 1000000 → ds.length * k ≤ sizeLine → newAt b (List.replicate k ds).flatten S Q → dMulL b x (.int (k : Int)) S Q
theorem Dts.rep {H : Hp} {A : Ads} {xs : List V} {ds : List D} (r : Dts K H A xs ds) : ∀ k : Nat, Dts K H A (List.replicate k xs).flatten (List.replicate k ds).flatten
  | 0 => .nil
  | k + 1 => by rw [List.replicate_succ, List.replicate_succ, List.flatten_cons, List.flatten_cons]; exact r.app (r.rep k)
end
section
variable {K : PySem.W.Frag} {W : WX} {WD : DW} {E : L2.St → XK} {ED : Rho → DX}
inductive PsSim (K : PySem.W.Frag) : List (Addr × Addr × Sp) → List (Str × Str × DSp) → Prop
  | nil : PsSim K [] []
  | cons {C C' : Str} {sp : Sp} {dsp : DSp} {l : List (Addr × Addr × Sp)} {m : List (Str × Str × DSp)} : (∀ vs H Q E, lift K dsp vs H Q E → sp vs H Q E) → PsSim K l m → PsSim K ((He.ga K C, He.ga K C', sp) :: l) ((C, C', dsp) :: m)
theorem PsSim.at {C C' : Str} {dsp : DSp} : ∀ {l : List (Addr × Addr × Sp)} {m : List (Str × Str × DSp)}, PsSim K l m → (C, C', dsp) ∈ m → ∃ sp, (He.ga K C, He.ga K C', sp) ∈ l ∧ ∀ vs H Q E, lift K dsp vs H Q E → sp vs H Q E
  | _, _, .nil, h => by cases h
  | _, _, .cons h t, m => by
    rcases List.mem_cons.mp m with e | m
    · cases e; exact ⟨_, List.mem_cons_self, h⟩
    · obtain ⟨r, h1, h2⟩ := t.at m
      exact ⟨r, List.mem_cons_of_mem _ h1, h2⟩
end
section
variable {ρ : Rho} {S : Sto} {F : DEnds} {Q : DQ} {RI : IS → Sto → Prop} {de da db : DE} {dt : DT} {ds : DS} {p : Pth}
theorem w_lockW {WD : DW} {dw : DW → DS} {n : Nat} {kvs : List (Key × D)} (hp : p.at ρ S = some (.hdl n)) (hn : S[n]? = some (.dic false kvs)) (h : dw (fun C gs ρ' S' => WD C gs ρ' (S'.set n (.dic false kvs))) (lkF n S.length kvs F) ρ (S.set n (.dic true kvs))) : dLockW WD p dw F ρ S := ⟨n, kvs, hp, hn, h⟩
theorem w_lockE {n : Nat} {kvs : List (Key × D)} (hp : p.at ρ S = some (.hdl n)) (hn : S[n]? = some (.dic false kvs)) (h : de ρ (S.set n (.dic true kvs)) fun v S' => Q v (S'.set n (.dic false kvs))) : dLockE p de ρ S Q := ⟨n, kvs, hp, hn, h⟩
theorem w_keys (h : de ρ S fun x S1 => ∃ n kvs, x = .hdl n ∧ S1[n]? = some (.dic true kvs) ∧ RI ⟨kvs.map fun p => kD p.1, fun _ => True⟩ S1) : dKeys de ρ S RI := h
theorem w_vals (h : de ρ S fun x S1 => ∃ n kvs, x = .hdl n ∧ S1[n]? = some (.dic true kvs) ∧ RI ⟨kvs.map Prod.snd, fun _ => True⟩ S1) : dVals de ρ S RI := h
theorem w_ownK {m : List (Str × Str)} (h : de ρ S fun x S1 => ∃ C gs f n kvs, rs S1 x = .obj C gs ∧ (C, f) ∈ m ∧ gs.lookup f = some (.hdl n) ∧ S1[n]? = some (.dic true kvs) ∧ RI ⟨kvs.map fun p => kD p.1, fun _ => True⟩ S1) : dOwnK m de ρ S RI := h
theorem w_while (h : WhileD dt ds F ρ S) : dWhile dt ds F ρ S := h
theorem w_newK (h : Q (.hdl S.length) (S ++ [.dic false []])) : dNewK ρ S Q := h
theorem rt_all {S0 : Sto} {x : D} (h : Q x S) : RtD S0 Q x S := ⟨x, S, .all, h⟩
end
end Dx
namespace Dx
open PySem PySem.Spec PyProof.Rows L2 Px
section
variable {K : PySem.W.Frag} {W : WX} {WD : DW} {tl : TA} {dl : DA} {ρ : Rho} {S : Sto} {RI : IS → Sto → Prop}
def rngC (lo c : Int) (n : Nat) : List D := (List.range n).map fun (j : Nat) => D.int (lo + (j : Nat) * c)
theorem Dts.rngC {H : Hp} {A : Ads} (lo c : Int) : ∀ l : List Nat, Dts K H A (l.map fun (j : Nat) => V.int (lo + (j : Nat) * c)) (l.map fun (j : Nat) => D.int (lo + (j : Nat) * c))
  | [] => .nil
  | x :: r => .cons (.int _) (Dts.rngC lo c r)
def dRng3 (dl : DA) : DI := fun ρ S R => dl ρ S fun ds S1 => ∃ (i j c : Int) (n : Nat), ds = [.int i, .int j, .int c] ∧ RgC i j c n ∧ R ⟨rngC i c n, fun _ => True⟩ S1
theorem w_rng3 (h : dl ρ S fun ds S1 => ∃ (i j c : Int) (n : Nat), ds = [.int i, .int j, .int c] ∧ RgC i j c n ∧ RI ⟨rngC i c n, fun _ => True⟩ S1) : dRng3 dl ρ S RI := h
end
section
variable {K : PySem.W.Frag} {W : WX} {WD : DW} {ta tb : TE} {da db : DE} {ρ : Rho} {S : Sto} {Q : DQ}
def dDGet (da db : DE) : DE := fun ρ S Q => da ρ S fun x S1 => db ρ S1 fun y S2 => ∃ lk ds key d, rs S2 x = .dic lk ds ∧ y = kD key ∧ getK ds key = some d ∧ Q d S2
theorem sim_dget (h1 : SimE K W WD ta da) (h2 : SimE K W WD tb db) : SimE K W WD (tDGet ta tb) (dDGet da db) := by
  intro H0 A0 hW σ ρ A S H Q QD x h k
  refine h1.at hW x h fun v1 d1 A1 S1 H1 l1 x1 t1 q1 => ?_
  refine h2.at hW x1 q1 fun v2 d2 A2 S2 H2 l2 x2 t2 ⟨lk, ds, key, d, e1, e2, e3, q⟩ => ?_
  subst e2
  obtain ⟨a, kvs, rfl, r, dk⟩ := dc_at x2.c (t1.later l2) e1
  rcases dk.look key with ⟨e4, _⟩ | ⟨u, y, e4, e5, tu⟩
  · rw [e3] at e4; cases e4
  · rw [e3] at e4
    cases e4
    refine ⟨a, u, rfl, ?_, k _ _ _ _ _ (l1.trans l2) x2 tu q⟩
    rw [kD_V t2, ← e5]
    exact .inl ⟨kvs, key, r, rfl, rfl⟩
theorem w_dget (h : da ρ S fun x S1 => db ρ S1 fun y S2 => ∃ lk ds key d, rs S2 x = .dic lk ds ∧ y = kD key ∧ getK ds key = some d ∧ Q d S2) : dDGet da db ρ S Q := h
end
end Dx
namespace Dx
open PySem PySem.Spec PyProof.Rows L2 Px He
section
variable {K : PySem.W.Frag} {W : WX} {WD : DW} {te : TE} {de : DE} {ρ : Rho} {S : Sto} {Q : DQ}
def dRev (b : Bool) (de : DE) : DE := fun ρ S Q => de ρ S fun x S1 => ∃ ds, rs S1 x = .lst ds ∧ newAt b ds.reverse S1 Q
theorem sim_rev {b : Bool} (h1 : SimE K W WD te de) : SimE K W WD (tRevL K te) (dRev b de) := by
  intro H0 A0 hW σ ρ A S H Q QD x h k
  refine h1.at hW x h fun v1 d1 A1 S1 H1 l1 x1 t1 ⟨ds, e1, q⟩ => ?_
  obtain ⟨a, xs, rfl, h2, r⟩ := ls_at x1.c t1 e1
  exact ⟨a, xs, rfl, SqL.of h2, fun p hp => mk_lst (fun v d A' S' H' l4 c t h => k v d A' S' H' (l1.trans l4) (x1.go l4 c) t h) x1.c r.rev q hp⟩
theorem w_rev {b : Bool} (h : de ρ S fun x S1 => ∃ ds, rs S1 x = .lst ds ∧ newAt b ds.reverse S1 Q) : dRev b de ρ S Q := h
def dIsO (C : Str) (de : DE) : DE := fun ρ S Q => de ρ S fun x S1 => ∃ gs, rs S1 x = .obj C gs ∧ Q (.bl true) S1
theorem sim_isO {C : Str} (ik : Hk.InsK K (He.ga K C)) (cc : PySem.W.kitOne K (.ref (He.ga K C)) (.ref (He.ga K C)) = some true) (h1 : SimE K W WD te de) : SimE K W WD (tCB (rIsi K) (tCons te (tCons (tC (.ref (He.ga K C))) tNil))) (dIsO C de) := by
  intro H0 A0 hW σ ρ A S H Q QD x h k
  refine h1.at hW x h fun v1 d1 A1 S1 H1 l1 x1 t1 ⟨gs, e1, q⟩ => ?_
  obtain ⟨a, dx, fs, rfl, h2, r⟩ := ob_at x1.c t1 e1
  exact ⟨_, _, _, _, true, rfl, .own _, ik.ty h2, cc, k _ _ _ _ _ l1 x1 (.bl _) q⟩
theorem w_isO {C : Str} (h : de ρ S fun x S1 => ∃ gs, rs S1 x = .obj C gs ∧ Q (.bl true) S1) : dIsO C de ρ S Q := h
def tyD : D → Option String
  | .non => some "NoneType"
  | .bl _ => some "bool"
  | .int _ => some "int"
  | .str _ => some "str"
  | .lst _ => some "list"
  | .tup _ => some "tuple"
  | _ => none
theorem ty_at {H : Hp} {A : Ads} {v : V} {d : D} {s : String} (C : Cells K H A S) (t : Dt K H A v d) (e : tyD (rs S d) = some s) : TyX K H v (.type s) := by
  cases t with
  | non => cases e; exact .base .non
  | bl b => cases e; exact .base (.bl b)
  | int i => cases e; exact .base (.int i)
  | str z => cases e; exact .base (.str z)
  | lst h o r => cases e; exact .base (.lst h)
  | tup h o r => cases e; exact .base (.tup h)
  | obj h o r => cases e
  | dic h o r => cases e
  | fz h => cases e
  | hdl ha =>
    obtain ⟨c, hc, kc⟩ := C.at_ _ _ ha
    rw [rs_h hc] at e
    cases c <;> first
      | (cases e; done)
      | (exact kc.elim)
      | skip
    obtain ⟨xs, hx, r⟩ := kc
    cases e
    exact .base (.lst hx)
def dIsT (ty : String) (de : DE) : DE := fun ρ S Q => de ρ S fun x S1 => ∃ s b, tyD (rs S1 x) = some s ∧ kitB s ty = some b ∧ Q (.bl b) S1
theorem sim_isT {ty : String} (h1 : SimE K W WD te de) : SimE K W WD (tCB (rIsi K) (tCons te (tCons (tC (.ty ty)) tNil))) (dIsT ty de) := by
  intro H0 A0 hW σ ρ A S H Q QD x h k
  refine h1.at hW x h fun v1 d1 A1 S1 H1 l1 x1 t1 ⟨s, b, e1, e2, q⟩ => ?_
  exact ⟨_, _, _, _, b, rfl, .ty _, ty_at x1.c t1 e1, kit_ty e2, k _ _ _ _ _ l1 x1 (.bl _) q⟩
theorem w_isT {ty : String} (h : de ρ S fun x S1 => ∃ s b, tyD (rs S1 x) = some s ∧ kitB s ty = some b ∧ Q (.bl b) S1) : dIsT ty de ρ S Q := h
end
end Dx
namespace Dx
open PySem PySem.Spec PyProof.Rows L2 Px
section
variable {K : PySem.W.Frag} {W : WX} {WD : DW} {tk tv ta : TE} {dk dv da : DE} {ρ : Rho} {S : Sto} {Q : DQ}
def dDisp1 (dk dv : DE) : DE := fun ρ S Q => dk ρ (S ++ [.dic false []]) fun x S1 => dv ρ S1 fun y S2 => S2[S.length]? = some (.dic false []) ∧ ∃ key, x = kD key ∧ Q (.hdl S.length) (S2.set S.length (.dic false [(key, y)]))
theorem w_disp1 (h : dk ρ (S ++ [.dic false []]) fun x S1 => dv ρ S1 fun y S2 => S2[S.length]? = some (.dic false []) ∧ ∃ key, x = kD key ∧ Q (.hdl S.length) (S2.set S.length (.dic false [(key, y)]))) : dDisp1 dk dv ρ S Q := h
def dRevM (da : DE) : DE := fun ρ S Q => da ρ S fun o S1 => ∃ n ds, o = .hdl n ∧ S1[n]? = some (.lst ds) ∧ Q .non (S1.set n (.lst ds.reverse))
theorem w_revm (h : da ρ S fun o S1 => ∃ n ds, o = .hdl n ∧ S1[n]? = some (.lst ds) ∧ Q .non (S1.set n (.lst ds.reverse))) : dRevM da ρ S Q := h
def dSlT (de : DE) (lo hi : DO) : DE := fun ρ S Q => de ρ S fun x S1 => lo ρ S1 fun l S2 => hi ρ S2 fun u S3 => ∃ ds, x = .tup ds ∧ Q (.tup (cutD ds l u)) S3
theorem w_slT {de : DE} {lo hi : DO} (h : de ρ S fun x S1 => lo ρ S1 fun l S2 => hi ρ S2 fun u S3 => ∃ ds, x = .tup ds ∧ Q (.tup (cutD ds l u)) S3) : dSlT de lo hi ρ S Q := h
def dIndexS (da : DE) (dl : DA) : DE := fun ρ S Q => da ρ S fun o S1 => (∃ ds, rs S1 o = .lst ds) ∧ dl ρ S1 fun ys S2 => ∃ (z : Str) (l : List Str) (j : Nat), ys = [.str z] ∧ rs S2 o = .lst (l.map .str) ∧ l[j]? = some z ∧ (∀ m, m < j → l[m]? ≠ some z) ∧ Q (.int (j : Nat)) S2
theorem w_indexS {dl : DA} (h : da ρ S fun o S1 => (∃ ds, rs S1 o = .lst ds) ∧ dl ρ S1 fun ys S2 => ∃ (z : Str) (l : List Str) (j : Nat), ys = [.str z] ∧ rs S2 o = .lst (l.map .str) ∧ l[j]? = some z ∧ (∀ m, m < j → l[m]? ≠ some z) ∧ Q (.int (j : Nat)) S2) : dIndexS da dl ρ S Q := h
end
end Dx
namespace Px
open PySem PySem.Spec PyProof.Rows L2
section
variable {K : PySem.W.Frag} {σ : L2.St} {H H1 : Hp} {Q : VK} {te : TE}
end
end Px
namespace Dx
open PySem PySem.Spec PyProof.Rows L2 Px
section
variable {K : PySem.W.Frag}
def dSortI (b : Bool) : List D → Sto → DQ → Prop := fun ds S Q => ∃ (x : D) (l : List Int), ds = [x] ∧ rs S x = .lst (l.map .int) ∧ ∀ ys : List Int, ys.Perm l → ys.Pairwise (· ≤ ·) → newAt b (ys.map .int) S Q
theorem cb_sortI {b : Bool} : CbD K (rSortAny K) (dSortI b) := by
  intro H A S vs ds Q QD c ts h k
  obtain ⟨x, l, rfl, e, h⟩ := h
  cases ts with
  | cons t ts =>
    cases ts
    obtain ⟨a, xs, rfl, h1, r⟩ := ls_at c t e
    rw [r.intsV] at h1
    exact .inr ⟨a, _, rfl, SqL.of h1, fun ys q hp hs hn => mk_lst k c (Dts.ints ys) (h ys hp hs) hn⟩
end
end Dx
namespace Dx
open PySem PySem.Spec PyProof.Rows L2 Px
section
variable {K : PySem.W.Frag} {H : Hp} {A : Ads} {S : Sto}
end
section
variable {X : Cx}
end
section
variable {K : PySem.W.Frag} {W : WX} {WD : DW} {te : TE} {de : DE} {ρ : Rho} {S : Sto} {Q : DQ} {QA : List D → Sto → Prop} {x y : D}
def dStar (de : DE) : DA := fun ρ S Q => de ρ S fun d S1 => ∃ ds, Sq S1 d ds ∧ Q ds S1
theorem w_star (h : de ρ S fun d S1 => ∃ ds, Sq S1 d ds ∧ QA ds S1) : dStar de ρ S QA := h
def dListVals (b : Bool) (de : DE) : DE := fun ρ S Q => de ρ S fun x S1 => ∃ n kvs, x = .hdl n ∧ S1[n]? = some (.dic false kvs) ∧ newAt b (kvs.map Prod.snd) S1 Q
theorem sim_listVals {b : Bool} (h1 : SimE K W WD te de) : SimE K W WD (Cl.tListVals te) (dListVals b de) := by
  intro H0 A0 hW σ ρ A S H Q QD x h k
  refine h1.at hW x h fun v1 d1 A1 S1 H1 l1 x1 t1 ⟨n, kvs, e, he, q⟩ => ?_
  subst e
  cases t1 with
  | hdl ha =>
    obtain ⟨c, hc, kc⟩ := x1.c.at_ _ _ ha
    rw [he] at hc
    cases hc
    obtain ⟨vs, hk, r⟩ := kc
    have hk : H1 _ = some (.dK vs) := hk
    exact ⟨_, vs, rfl, hk, fun q0 hq => mk_lst (fun v d A' S' H' l2 c t h => k v d A' S' H' (l1.trans l2) (x1.go l2 c) t h) x1.c r.vals q hq⟩
theorem w_listVals {b : Bool} (h : de ρ S fun x S1 => ∃ n kvs, x = .hdl n ∧ S1[n]? = some (.dic false kvs) ∧ newAt b (kvs.map Prod.snd) S1 Q) : dListVals b de ρ S Q := h
end
end Dx
namespace Dx
open PySem PySem.Spec PyProof.Rows L2 Px
section
variable {K : PySem.W.Frag} {W : WX} {WD : DW} {te : TE} {de : DE} {tl : TA} {dl : DA} {ρ : Rho} {S : Sto} {Q : DQ}
def dStp (b : Bool) (de : DE) (lo hi st : DO) : DE := fun ρ S Q => de ρ S fun x S1 => lo ρ S1 fun l S2 => hi ρ S2 fun u S3 => st ρ S3 fun o S4 => ∃ ds, rs S4 x = .lst ds ∧ o ≠ some 0 ∧ (Cl.stL ds l u o).length ≤ sizeLine ∧ newAt b (Cl.stL ds l u o) S4 Q
theorem w_stp {b : Bool} {lo hi st : DO} (h : de ρ S fun x S1 => lo ρ S1 fun l S2 => hi ρ S2 fun u S3 => st ρ S3 fun o S4 => ∃ ds, rs S4 x = .lst ds ∧ o ≠ some 0 ∧ (Cl.stL ds l u o).length ≤ sizeLine ∧ newAt b (Cl.stL ds l u o) S4 Q) : dStp b de lo hi st ρ S Q := h
def dMakeK (m : Nat) (WD : DW) (dsp : DSp) (de : DE) (dl : DA) : DE := fun ρ S Q => de ρ S fun d S1 => dl ρ S1 fun zs S2 => zs.length = m ∧ ∃ ds, Sq S2 d ds ∧ dsp (zs ++ ds) S2 Q fun C gs S3 => WD C gs ρ S3
theorem w_makeK {m : Nat} {WD : DW} {dsp : DSp} (h : de ρ S fun d S1 => dl ρ S1 fun zs S2 => zs.length = m ∧ ∃ ds, Sq S2 d ds ∧ dsp (zs ++ ds) S2 Q fun C gs S3 => WD C gs ρ S3) : dMakeK m WD dsp de dl ρ S Q := h
end
end Dx
namespace Dx
open PySem PySem.Spec PyProof.Rows L2 Px
section
variable {K : PySem.W.Frag}
variable {W : WX} {WD : DW} {te ta : TE} {de da : DE} {tl : TA} {dl : DA} {ρ : Rho} {S : Sto} {Q : DQ} {RI : IS → Sto → Prop}
def dRevIt (de : DE) : DI := fun ρ S R => de ρ S fun x S1 => ∃ ds, x = .lst ds ∧ R ⟨ds.reverse, fun _ => True⟩ S1
theorem w_revIt (h : de ρ S fun x S1 => ∃ ds, x = .lst ds ∧ RI ⟨ds.reverse, fun _ => True⟩ S1) : dRevIt de ρ S RI := h
def dCountI (da : DE) (dl : DA) : DE := fun ρ S Q => da ρ S fun o S1 => (∃ ds, rs S1 o = .lst ds) ∧ dl ρ S1 fun ys S2 => ∃ (k : Int) (l : List Int), ys = [.int k] ∧ rs S2 o = .lst (l.map .int) ∧ Q (.int (l.count k : Nat)) S2
theorem w_countI (h : da ρ S fun o S1 => (∃ ds, rs S1 o = .lst ds) ∧ dl ρ S1 fun ys S2 => ∃ (k : Int) (l : List Int), ys = [.int k] ∧ rs S2 o = .lst (l.map .int) ∧ Q (.int (l.count k : Nat)) S2) : dCountI da dl ρ S Q := h
end
inductive Seqs : List D → List (List D) → Prop
  | nil : Seqs [] []
  | tup {ds : List D} {es : List D} {dss : List (List D)} : Seqs es dss → Seqs (.tup ds :: es) (ds :: dss)
  | lst {ds : List D} {es : List D} {dss : List (List D)} : Seqs es dss → Seqs (.lst ds :: es) (ds :: dss)
section
variable {K : PySem.W.Frag} {W : WX} {WD : DW} {te : TE} {de : DE} {ρ : Rho} {S : Sto} {Q : DQ}
def dFlat (v1 v2 : Nat) (de : DE) : DE := fun ρ S Q => de ρ S fun x S1 => v1 < ρ.length ∧ v2 < ρ.length ∧ ∃ (es : List D) (dss : List (List D)), Sq S1 x es ∧ Seqs es dss ∧ dss.flatten.length ≤ 1000000 ∧ Q (.lst dss.flatten) S1
theorem w_flat {v1 v2 : Nat} (h : de ρ S fun x S1 => v1 < ρ.length ∧ v2 < ρ.length ∧ ∃ (es : List D) (dss : List (List D)), Sq S1 x es ∧ Seqs es dss ∧ dss.flatten.length ≤ 1000000 ∧ Q (.lst dss.flatten) S1) : dFlat v1 v2 de ρ S Q := h
end
def DSp7 (P : D → D → D → D → D → D → D → Sto → DQ → DX → Prop) : DSp := fun ds S Q E => ∃ x y z u v w t, ds = [x, y, z, u, v, w, t] ∧ P x y z u v w t S Q E
theorem DSp7.len {P : D → D → D → D → D → D → D → Sto → DQ → DX → Prop} {ds : List D} {S : Sto} {Q : DQ} {E : DX} (h : DSp7 P ds S Q E) : ds.length = 7 := by obtain ⟨x, y, z, u, v, w, t, rfl, _⟩ := h; rfl
end Dx
namespace Dx
open PySem PySem.Spec PyProof.Rows L2 Px
def dMax2 : List D → Sto → DQ → Prop := fun ds S Q => ∃ i j : Int, ds = [.int i, .int j] ∧ Q (.int (if j > i then j else i)) S
def dMin2 : List D → Sto → DQ → Prop := fun ds S Q => ∃ i j : Int, ds = [.int i, .int j] ∧ Q (.int (if j < i then j else i)) S
section
variable {K : PySem.W.Frag} {S : Sto} {Q : DQ} {i j : Int}
theorem w_max2 (h : Q (.int (if j > i then j else i)) S) : dMax2 [.int i, .int j] S Q := ⟨i, j, rfl, h⟩
theorem w_min2 (h : Q (.int (if j < i then j else i)) S) : dMin2 [.int i, .int j] S Q := ⟨i, j, rfl, h⟩
end
end Dx
namespace Hk
open PySem PySem.W He He5
inductive MT where
  | nil
  | node (m : Bool) (l r : MT)
def MT.get : MT → Nat → Bool
  | .nil, _ => false
  | .node m l r, i => match Nat.beq i 0 with
    | true => m
    | false => match Nat.beq (i % 2) 1 with
      | true => l.get (i / 2)
      | false => r.get (i / 2 - 1)
def MT.add : Nat → MT → Nat → MT
  | 0, t, _ => t
  | f + 1, .nil, i => (match Nat.beq i 0 with
    | true => .node true .nil .nil
    | false => match Nat.beq (i % 2) 1 with
      | true => .node false (MT.add f .nil (i / 2)) .nil
      | false => .node false .nil (MT.add f .nil (i / 2 - 1)))
  | f + 1, .node m l r, i => match Nat.beq i 0 with
    | true => .node true l r
    | false => match Nat.beq (i % 2) 1 with
      | true => .node m (MT.add f l (i / 2)) r
      | false => .node m l (MT.add f r (i / 2 - 1))
def newT : List Addr → MT → List Addr → MT × List Addr
  | [], t, out => (t, out)
  | a :: r, t, out => match t.get a with
    | true => newT r t out
    | false => newT r (MT.add 40 t a) (a :: out)
def goU (g : Addr → Option Obj) : Nat → List Addr → MT → List Addr
  | 0, _, _ => []
  | n + 1, fr, t => match newT (fr.flatMap fun a => match g a with
      | some o => refsD o
      | none => []) t [] with
    | (t', out) => out ++ goU g n out t'
def asU (g : Addr → Option Obj) (n : Nat) : List Addr := mainGlobals :: goU g n [mainGlobals] (MT.add 40 .nil mainGlobals) ++ [cStatics]
end Hk
noncomputable section
namespace Hy
open PySem PySem.W PySem.Calls PyProof.Rows HandSHeadRun
section
variable (st : SharedT → Thread → Option (SharedT × Thread)) (n0 : Nat) (ann : Option Value)
def segF : Nat → SharedT → Thread → Option (Flow × SharedT × Code × Pos)
  | 0, _, _ => none
  | m + 1, s, t => match endAt 1 t with
    | some f => some (f, s, t.code, t.pos)
    | none => match stepOk n0 ann t with
      | false => none
      | true => match st s t with
        | some (s', t') => frS s' fun s' => segF m s' t'
        | none => none
def goP : Nat → SharedT → Thread → Option (SharedT × Thread)
  | 0, s, t => some (s, t)
  | m + 1, s, t => match through t with
    | true => none
    | false => match stepOk n0 ann t with
      | false => none
      | true => match st s t with
        | some (s', t') => frS s' fun s' => goP m s' t'
        | none => none
end
section
variable {tb : String → Option Builtin} {p : Program} {w : World} {n0 : Nat} {ann : Option Value}
theorem segF_ok : ∀ {m : Nat} {s s' : SharedT} {t : Thread} {f : Flow} {c : Code} {q : Pos}, segF (stepT (denote tb) p w) n0 ann m s t = some (f, s', c, q) → segRun tb p w n0 ann 1 m s.abs t = some (f, s'.abs, c, q)
  | 0, _, _, _, _, _, _, h => by cases h
  | m + 1, s, s', t, f, c, q, h => by
    unfold segF at h
    unfold segRun
    cases he : endAt 1 t with
    | some x => rw [he] at h; cases h; rfl
    | none =>
      rw [he] at h
      cases hk : stepOk n0 ann t with
      | false => rw [hk] at h; cases h
      | true =>
        rw [hk] at h
        cases hs : stepT (denote tb) p w s t with
        | none => rw [hs] at h; cases h
        | some r =>
          obtain ⟨s2, t2⟩ := r
          rw [hs] at h
          have h3 : (frS s2 fun s' => segF (stepT (denote tb) p w) n0 ann m s' t2) = some (f, s', c, q) := h
          rw [frS_eq] at h3
          rw [stepT_spec hs]
          exact segF_ok h3
theorem goP_ok : ∀ {m : Nat} {s s' : SharedT} {t t' : Thread}, goP (stepT (denote tb) p w) n0 ann m s t = some (s', t') → topGo tb p w n0 ann m s.abs t = some (s'.abs, t')
  | 0, _, _, _, _, h => by cases h; rfl
  | m + 1, s, s', t, t', h => by
    unfold goP at h
    unfold topGo
    cases he : through t with
    | true => rw [he] at h; cases h
    | false =>
      rw [he] at h
      cases hk : stepOk n0 ann t with
      | false => rw [hk] at h; cases h
      | true =>
        rw [hk] at h
        cases hs : stepT (denote tb) p w s t with
        | none => rw [hs] at h; cases h
        | some r =>
          obtain ⟨s2, t2⟩ := r
          rw [hs] at h
          have h3 : (frS s2 fun s' => goP (stepT (denote tb) p w) n0 ann m s' t2) = some (s', t') := h
          rw [frS_eq] at h3
          rw [stepT_spec hs]
          exact goP_ok h3
end
abbrev stQ (p : Program) (w : World) : SharedT → Thread → Option (SharedT × Thread) := stepQ (denQ tabQ) p w
theorem stQ_eq (p : Program) (w : World) : stQ p w = stepT (denote treeTable) p w := by
  show stepQ (denQ tabQ) p w = _
  rw [← stepQ_eq, ← denQ_eq, ← tabQ_eq]
def Ends (p : Program) (w : World) (n0 : Nat) (ann : Option Value) (env : Env) (c : Code) (q : Pos) (V : SharedT → Prop) (N : Nat) (l : List Stmt) (S : OsState → SharedT) (pos : Pos) : Prop :=
  ∀ os, ∃ r : SharedT, topRun treeTable p w n0 ann N (S os).abs (restOf l env c pos [topFrame q]) = some r.abs ∧ V r
section
variable {p : Program} {w : World} {n0 : Nat} {ann : Option Value} {env : Env} {c : Code} {q : Pos} {V : SharedT → Prop} {N : Nat} {l : List Stmt} {S S' : OsState → SharedT} {pos pos' : Pos}
theorem Ends.last {α : Type} {view : SharedT → α} {good : α} (h : ∀ os, (goF (stQ p w) n0 ann N (S os) (restOf l env c pos [topFrame q])).map view = some good) : Ends p w n0 ann env c q (fun r => view r = good) N l S pos := fun os => by
  obtain ⟨r, hr, hv⟩ := Option.map_eq_some_iff.mp (h os)
  rw [stQ_eq] at hr
  exact ⟨r, goF_ok hr, hv⟩
theorem Ends.seg (k n : Nat) (h : ∀ os, segF (stQ p w) n0 ann n (S os) (piecesOf (l.take k) env c pos [topFrame q]) = some (.next, S' os, c, pos')) (e : Ends p w n0 ann env c q V N (l.drop k) S' pos') : Ends p w n0 ann env c q V (n + N) l S pos := fun os => by
  obtain ⟨r, hr, hv⟩ := e os
  have h1 := h os
  rw [stQ_eq] at h1
  refine ⟨r, ?_, hv⟩
  have := piece_app (rest := l.drop k) (segF_ok h1) hr
  rwa [List.take_append_drop] at this
theorem Ends.top {b : List Stmt} {S0 : OsState → SharedT} (k n : Nat) (hb : ∀ os, segF (stQ p w) n0 ann n (S os) (blockOf b env (.body b env) pos [topFrame q]) = some (.next, S' os, .body b env, pos'))
    (hp : ∀ os, goP (stQ p w) n0 ann k (S0 os) (topStub p) = some (S os, ⟨denQ tabQ (.body b env), .body b env, pos, [topFrame q]⟩)) (e : Ends p w n0 ann env (.body b env) q V N b S' pos') :
    ∀ os, ∃ r : SharedT, topRun treeTable p w n0 ann (k + (n + N)) (S0 os).abs (topStub p) = some r.abs ∧ V r := fun os => by
  obtain ⟨r, hr, hv⟩ := e os
  have h1 := hb os
  have h2 := hp os
  rw [stQ_eq] at h1 h2
  rw [← denQ_eq, ← tabQ_eq] at h2
  exact ⟨r, go_top (goP_ok h2) (piece_block (segF_ok h1) hr), hv⟩
end
def bt (P : Params) : PySem.W.BT × Nat := (putAll (boot_heap P).objs.toList .nil 0).getD (.nil, 0)
theorem bt_some (P : Params) : (putAll (boot_heap P).objs.toList .nil 0).isSome = true := by kernel_rfl
theorem bt_eq (P : Params) : putAll (boot_heap P).objs.toList .nil 0 = some (bt P) := by
  have h := bt_some P
  unfold bt
  cases e : putAll (boot_heap P).objs.toList .nil 0 with
  | none => rw [e] at h; cases h
  | some r => rfl
theorem boot_abs (w : World) (os : OsState) : (bootT w os (bt w.params)).abs = ⟨boot_heap w.params, #[], boot_drawn, boot_toks, os⟩ := by
  have eh : absHeap (bt w.params).1 (bt w.params).2 (boot_heap w.params).life = boot_heap w.params := putAll_heap (t := (bt w.params).1) (n := (bt w.params).2) (bt_eq w.params)
  show (⟨absHeap (bt w.params).1 (bt w.params).2 (boot_heap w.params).life, #[], boot_drawn, boot_toks, os⟩ : Shared) = _
  rw [eh]
theorem left_seg {p q : Program} {loose : List Str} {Xt : Shared → Bool} {α : Type} {Yf : Shared → α} {Ya : World → α} {N M n0 : Nat} {ann : Option Value}
    (e : opening p = plainProg p.main.scope.names) (hN : Nat.ble 600 N = true) (f : ∀ s, fenceModules? p s = some s) (le : Nat.ble M N = true)
    (hn : ∀ w : World, ((boot_heap w.params).objs.size, bootAnn w) = (n0, ann))
    (run : ∀ (w : World) (os : OsState), ∃ r : SharedT, topRun treeTable p w n0 ann M (bootT w os (bt w.params)).abs (topStub p) = some r.abs ∧ (looksF p (boot_heap w.params) r.abs, seenQ q loose (importedModules p.main.body) Xt r.abs, Yf r.abs) = (true, openGood q loose, Ya w)) :
    LeftO p q loose Xt Yf Ya N true := fun w => by
  obtain ⟨⟨h, gs, d, k, os⟩, a, a'⟩ := Option.map_eq_some_iff.mp (boot_open e hN f w)
  obtain ⟨rfl, rfl, rfl, rfl⟩ : h = boot_heap w.params ∧ gs = Array.mk [] ∧ d = boot_drawn ∧ k = boot_toks := by simpa using a'
  obtain ⟨s, hs, hv⟩ := run w os
  obtain ⟨l1, l2, l3⟩ : _ ∧ _ ∧ _ := by simpa only [Prod.mk.injEq] using hv
  obtain ⟨en, ea⟩ : _ ∧ _ := by simpa only [Prod.mk.injEq] using hn w
  rw [boot_abs] at hs
  have r := topRun_mono (N - M) _ _ _ _ hs
  rw [show M + (N - M) = N by have := Nat.le_of_ble_eq_true le; omega] at r
  have l1' : (staticsOk (importedModules p.main.body) (boot_heap w.params) s.abs.heap && namesBound p s.abs.heap && gensDone s.abs && laidKept (boot_heap w.params) s.abs.heap) = true := l1
  have t : topFrom treeTable p w N ⟨boot_heap w.params, Array.mk [], boot_drawn, boot_toks, os⟩ = some s.abs := by
    unfold topFrom
    dsimp only
    rw [boot_ns]
    show (topRun treeTable p w (boot_heap w.params).objs.size (bootAnn w) N ⟨boot_heap w.params, #[], boot_drawn, boot_toks, os⟩ (topStub p)).bind _ = _
    rw [en, ea, r]
    show (match staticsOk (importedModules p.main.body) (boot_heap w.params) s.abs.heap && namesBound p s.abs.heap && gensDone s.abs && laidKept (boot_heap w.params) s.abs.heap with | true => some s.abs | false => none) = _
    rw [l1']
  unfold openEnds
  rw [a]
  show (topFrom treeTable p w N _).map _ = _
  rw [t]
  refine congrArg some (Prod.ext ?_ l3)
  show openSeen q loose _ Xt true s.abs = _
  rw [seenQ_eq]
  exact l2
def ViewS (r : OpenRow) (q : Program) (H : Hook) (ob : SharedT → H.α) (loose : List PySem.Str) (w : World) (s : SharedT) := (looksF r.prog (boot_heap w.params) s.abs, seenQ q loose (importedModules r.prog.main.body) (fun s => xlAt q [] s && recOk r.toRowW.records s) s.abs, ob s)
theorem head_seg {r : OpenRow} {q : Program} {H : Hook} {ob : SharedT → H.α} {M n0 : Nat} {ann : Option Value} {loose : List PySem.Str} {d : DefRec} {kwd : List (PySem.Str × PySem.Expr)} (ho : ∀ s : SharedT, ob s = H.obs s.abs)
    (e : opening r.prog = plainProg r.prog.main.scope.names) (f : ∀ s, fenceModules? r.prog s = some s) (hn : ∀ w : World, ((boot_heap w.params).objs.size, bootAnn w) = (n0, ann))
    (run : ∀ (w : World) (os : OsState), ∃ s : SharedT, topRun treeTable r.prog w n0 ann M (bootT w os (bt w.params)).abs (topStub r.prog) = some s.abs ∧ ViewS r q H ob loose w s = (true, openGood q loose, H.val w))
    (hdef : defOf q r.name = some (d, kwd)) (hp : r.prog.theDef r.name = some (d.params, d.body, d.scope)) (hk : kwWritten? d.params.kwonlyargs d.params.kw_defaults = some kwd)
    (hwr : (!r.writes || r.records.isEmpty) = true) (k1 : r.wellSaid = true) (ok : (chainsOk q && opensWell r.prog && (frees r.toRowW && r.within.isEmpty)) = true) (hb : r.prog.bare) (hw : r.toRowW.promised)
    (call : WalkO q loose (XL q []) H.says r.toRowW d kwd fun f vs => PySem.call f vs) : r.Holds := by
  have left : LeftO r.prog q loose (fun s => xlAt q [] s && recOk r.toRowW.records s) H.obs H.val (M + 600) true :=
    left_seg (M := M) e (Nat.ble_eq_true_of_le (by omega)) f (Nat.ble_eq_true_of_le (by omega)) hn fun w os => by
      obtain ⟨s, h1, h2⟩ := run w os
      refine ⟨s, h1, ?_⟩
      unfold ViewS at h2
      rw [ho] at h2
      exact h2
  exact holds_open (r := r) (q := q) (loose := loose) (XP := XL q []) (YP := H.says) (d := d) (kwd := kwd) left H.of H.keeps (fun s z => xl_of s (Bool.and_eq_true_iff.mp z).1) XL.keeps hdef hp hk (fun s z => recFacts_of (Bool.and_eq_true_iff.mp z).2) hwr k1 ok hb hw call
end Hy
end
namespace Hk
open PySem PySem.W He He5
def obsV (n : Nat) (fa : List Fa) (ex : List (Frag → Bool)) (its : List It) (g : Addr → Option Obj) : AlZ := obsZ fa ex its (frG g (asU g n))
def hookV (n : Nat) (fa : List Fa) (ex : List (Frag → Bool)) (its : List It) : PySem.W.Hook where
  α := AlZ
  obs := fun s => obsV n fa ex its s.heap.get?
  val := fun _ => valZ its
  says := fun _ h => ∃ K : Frag, K.In h ∧ SaysZ fa ex its K
  of := fun _ _ e => ⟨_, frG_in, e⟩
  keeps := fun _ _ _ ⟨K, hK, c⟩ k => ⟨K, Frag.In.keeps hK k, c⟩
theorem obV_eq {n : Nat} {fa : List Fa} {ex : List (Frag → Bool)} {its : List It} (s : SharedT) : obsV n fa ex its (HandSHeadRun.getT s) = (hookV n fa ex its).obs s.abs := by
  have e : HandSHeadRun.getT s = s.abs.heap.get? := funext fun a => HandSHeadRun.getT_eq s a
  rw [e]
  rfl
end Hk
namespace Cl
open PySem PySem.Spec PyProof.Rows L2 Px
def LiO (t it : Addr) : HO := .ext fun h => h.IsListIter it t 0
structure IterL (P : Program) (w : World) (K : PySem.W.Frag) (mg : Str → Option Value) (base : Heap) (k : Nat) (C : Addr) (f : Str) : Prop where
  run : ∃ fi : Addr, PySem.W.findIn K (.ref C) "__iter__" = some (some (.ref fi)) ∧ PySem.W.isFn K (.ref fi) = true ∧
    ∀ (A : Around) (outer : List Env) (s : Shared) (H : Hp) (a dx t : Addr) (fs : List (Str × V)) (xs : List V), Room k A → Env0 P w K mg base A outer s H → H a = some (.ins C dx fs) → fs.lookup f = some (.ref t) → H t = some (.lst xs) →
      codeAny (model P w) A (.call (.ref fi) ⟨[.ref a], []⟩) (CR (L2N.CX P w) outer P w H s (fun y H' => ∃ it, y = .ref it ∧ H it = none ∧ s.heap.objs.size ≤ it ∧ H' = upd H it (LiO t it)) E0) s
section
variable {X : Cx} {k : Nat} {C : Addr} {f : Str} {pins : List (Addr × Obj)} {σ : L2.St} {H : Hp} {s : Shared} {a dx t : Addr} {fs : List (Str × V)} {xs : List V}
def spLenL (C : Addr) (f : Str) : Sp := fun vs H Q _ => ∃ a dx fs t xs, vs = [.ref a] ∧ H a = some (.ins C dx fs) ∧ fs.lookup f = some (.ref t) ∧ H t = some (.lst xs) ∧ xs.length ≤ 1000000 ∧ Q (.int xs.length) H
end
def WalkL (X : Cx) (C : Addr) (f : Str) : Prop := ∃ (n : Nat) (fl : Addr), IterL X.prog X.w X.K X.mg X.base n C f ∧ OwnOp X.K C "__len__" fl ∧ FnR X.prog X.w X.K X.mg X.base (L2N.CX X.prog X.w) n fl (spLenL C f) ∧ Room (n + 3) X.A
inductive WalkLs (X : Cx) : List (Addr × Str) → Prop
  | nil : WalkLs X []
  | cons {C : Addr} {f : Str} {l : List (Addr × Str)} : WalkL X C f → WalkLs X l → WalkLs X ((C, f) :: l)
section
variable {X : Cx} {l : List (Addr × Str)}
theorem WalkLs.at (h : WalkLs X l) : ∀ {i : Nat} {C : Addr} {f : Str}, l[i]? = some (C, f) → WalkL X C f := by
  induction h with
  | nil => intro i C f e; cases e
  | cons h _ ih =>
    intro i C f e
    cases i with
    | zero => cases e; exact h
    | succ i => exact ih (by simpa using e)
end
end Cl
namespace Dx
open PySem PySem.Spec PyProof.Rows L2 Px He
section
variable {K : PySem.W.Frag} {W : WX} {WD : DW} {wi : TI} {di : DI} {tg : TG} {dg : DG} {tt : TT} {dt : DT} {tk tv : TE} {dk dv : DE} {ρ : Rho} {S : Sto} {Q : DQ}
def DcD (is : IS) (dg : DG) (dt : DT) (dk dv : DE) (vs : List Nat) (ρ : Rho) (S1 : Sto) (Q : DQ) : Prop := ∃ P : Nat → Sto → Prop, P 0 (S1 ++ [.dic false []]) ∧ (∀ i S', i ≤ is.items.length → P i S' → is.ok S') ∧
  (∀ i d S', is.items[i]? = some d → P i S' → dg d (wipeD ρ vs) S' fun ρ2 S2 => dt ρ2 S2 fun b S3 => if b = true then dk ρ2 S3 fun y S4 => dv ρ2 S4 fun z S5 => ∃ kvs k, y = kD k ∧ S5[S1.length]? = some (.dic false kvs) ∧ kvs.length < sizeLine ∧ P (i + 1) (S5.set S1.length (.dic false (putG kvs k z))) else P (i + 1) S3) ∧
  ∀ S', P is.items.length S' → Q (.hdl S1.length) S'
def dDc (di : DI) (dg : DG) (dt : DT) (dk dv : DE) (vs : List Nat) : DE := fun ρ S Q => di ρ S fun is S1 => DcD is dg dt dk dv vs ρ S1 Q
theorem sim_dc {vs : List Nat} (h1 : SimI K W WD wi di) (h2 : SimGv K W WD vs tg dg) (h3 : SimT K W WD tt dt) (h4 : SimE K W WD tk dk) (h5 : SimE K W WD tv dv) : SimE K W WD (tDc wi tg tt tk tv vs) (dDc di dg dt dk dv vs) := by
  intro H0 A0 hW σ ρ A S H Q QD x h k
  refine h1 H0 A0 hW _ _ _ _ _ _ _ x h fun J is A1 S1 H1 l1 x1 hy ⟨P, p0, pok, ps, pe⟩ => ?_
  intro p hp
  have lin := Later.cell x1.c hp (o := .dK [])
  have cin := x1.c.cell hp (c := .dic false []) ⟨[], upd_same, .nil⟩
  have hat : (A1.add p).c[S1.length]? = some (some p) := by
    show (A1.c ++ [some p])[S1.length]? = _
    rw [← x1.c.len, List.getElem?_append_right (Nat.le_refl _), Nat.sub_self]
    rfl
  refine ⟨fun i m H => m = is.items.length - i ∧ i ≤ is.items.length ∧ ∃ A S, Later H1 A1 H A ∧ Later (upd H1 p (.dK [])) (A1.add p) H A ∧ Cells K H A S ∧ P i S, ⟨_, rfl, Nat.zero_le _, _, _, lin, Later.refl _ _, cin, p0⟩, ?_⟩
  rintro i m H2 ⟨rfl, hi, A2, S2, l2, l2', c2, p2⟩
  have y := hy A2 S2 H2 i l2 c2 (pok i S2 hi p2)
  by_cases hlt : i < is.items.length
  · refine .inr ⟨(y.1 hlt).1, fun H' => ∃ A S, Later H1 A1 H' A ∧ Later (upd H1 p (.dK [])) (A1.add p) H' A ∧ Cells K H' A S ∧ P (i + 1) S, fun H' p' => ⟨is.items.length - (i + 1), by omega, rfl, hlt, p'⟩, fun v H3 hyl => ?_⟩
    obtain ⟨l3, hc3, d, hd, t⟩ := (y.1 hlt).2 v H3 hyl
    have l13 := l2.trans l3
    have x3 : StR K H0 A0 (L2.wipe σ vs) (wipeD ρ vs) A2 S2 H3 := ⟨(x1.r.wipe vs).kp l13.toKp, hc3 _ c2, x1.l.trans l13⟩
    refine h2 H0 A0 hW _ _ _ _ _ _ _ _ _ x3 t (ps i d S2 hd p2) fun σ4 ρ4 A4 S4 H4 l4 x4 ew q4 => ⟨ew.trans wipe_wipe, ?_⟩
    refine h3 H0 A0 hW _ _ _ _ _ _ _ x4 q4 fun b A5 S5 H5 l5 x5 q5 => ?_
    cases b with
    | false =>
      rw [if_neg Bool.false_ne_true] at q5 ⊢
      have l := (l3.trans l4).trans l5
      exact ⟨A5, S5, l2.trans l, l2'.trans l, x5.c, q5⟩
    | true =>
      rw [if_pos rfl] at q5 ⊢
      refine h4.at hW x5 q5 fun v6 d6 A6 S6 H6 l6 x6 t6 q6 => ?_
      refine h5.at hW x6 q6 fun v7 d7 A7 S7 H7 l7 x7 t7 ⟨kvs, key, ek, hs, hl, q7⟩ => ?_
      have l := (((l3.trans l4).trans l5).trans l6).trans l7
      have ha : A7.c[S1.length]? = some (some p) := (l2'.trans l).live _ _ hat
      obtain ⟨c, hc, kc⟩ := x7.c.at_ _ _ ha
      rw [hs] at hc
      cases hc
      obtain ⟨ws, hx, r⟩ := kc
      have hx : H7 p = some (.dK ws) := hx
      have lp := Later.put x7.c ha (fun _ _ e => by rw [hx] at e; cases e) (o := .dK (putK ws key v7))
      subst ek
      refine ⟨ws, key, kD_V t6, hx, by rw [r.len]; exact hl, _, _, (l2.trans l).trans lp, (l2'.trans l).trans lp, x7.c.put ha (c := .dic false (putG kvs key d7)) ⟨_, upd_same, (r.put t7).later lp⟩, q7⟩
  · have ei : i = is.items.length := by omega
    subst ei
    exact .inl ⟨y.2 (Nat.le_refl _), k _ _ _ _ _ (l1.trans l2) (x1.go l2 c2) (.hdl (l2'.live _ _ hat)) (pe _ p2)⟩
theorem w_dc {vs : List Nat} (h : di ρ S fun is S1 => DcD is dg dt dk dv vs ρ S1 Q) : dDc di dg dt dk dv vs ρ S Q := h
end
section
variable {K : PySem.W.Frag}
end
def putFD (f : Str) (v : D) : List (Str × D) → List (Str × D)
  | [] => [(f, v)]
  | (g, x) :: r => if g = f then (g, v) :: r else (g, x) :: putFD f v r
section
variable {K : PySem.W.Frag} {H : Hp} {A : Ads}
theorem Dtf.put {f : Str} {v : V} {d : D} (t : Dt K H A v d) : ∀ {fs : List (Str × V)} {gs : List (Str × D)}, Dtf K H A fs gs → Dtf K H A (putF f v fs) (putFD f d gs)
  | _, _, .nil => .cons t .nil
  | _, _, .cons (f := g) h r => by
    unfold putF putFD
    by_cases e : g = f
    · rw [if_pos e, if_pos e]; exact .cons t r
    · rw [if_neg e, if_neg e]; exact .cons h (r.put t)
theorem putFD_look {f g : Str} {v : D} : ∀ {gs : List (Str × D)}, f ≠ g → (putFD f v gs).lookup g = gs.lookup g
  | [], h => by
    show List.lookup g [(f, v)] = none
    have : (g == f) = false := by simpa using fun e => h (Eq.symm e)
    simp [List.lookup, this]
  | (k, x) :: r, h => by
    unfold putFD
    by_cases e : k = f
    · rw [if_pos e]
      subst e
      have : (g == k) = false := by simpa using fun e => h (Eq.symm e)
      simp [List.lookup, this]
    · rw [if_neg e]
      by_cases hg : g == k
      · simp [List.lookup, hg]
      · have hg : (g == k) = false := by simpa using hg
        simp only [List.lookup, hg]
        exact putFD_look h
end
section
variable {K : PySem.W.Frag} {W : WX} {WD : DW} {ta tv : TE} {da dv : DE}
def dSatt (m : List Str) (da dv : DE) (f : Str) : DS := fun F ρ S => dv ρ S fun y S1 => da ρ S1 fun x S2 => ∃ n C gs, x = .hdl n ∧ C ∈ m ∧ S2[n]? = some (.obj C gs) ∧ gs.length < 1000 ∧ f ≠ ("literals" : Str) ∧ F.nx ρ (S2.set n (.obj C (putFD f y gs)))
theorem sim_satt {l : List Addr} {m : List Str} {f : Str} (hm : ∀ C, C ∈ m → He.ga K C ∈ l) (h1 : SimE K W WD ta da) (h2 : SimE K W WD tv dv) : SimS K W WD (Cl.sAtt l ta tv f) (dSatt m da dv f) := by
  intro H0 A0 hW σ ρ A S H E F x e h
  refine h2.at hW x h fun v1 d1 A1 S1 H1 l1 x1 t1 q1 => ?_
  refine h1.at hW x1 q1 fun v2 d2 A2 S2 H2 l2 x2 t2 ⟨n, C, gs, ed, hC, hs, hl, hf, q⟩ => ?_
  subst ed
  cases t2 with
  | hdl ha =>
    rename_i a
    obtain ⟨c, hc, kc⟩ := x2.c.at_ _ _ ha
    rw [hs] at hc
    cases hc
    obtain ⟨dx, fs, hx, r, hz⟩ := kc
    have lp := Later.put x2.c ha (fun _ _ e => by rw [hx] at e; cases e) (o := .ins (He.ga K C) dx (putF f v1 fs))
    refine ⟨a, _, dx, fs, rfl, hm C hC, hx, by rw [r.len]; exact hl, ?_⟩
    exact e.nx _ _ _ _ _ (x2.go lp (x2.c.put ha (c := .obj C (putFD f d1 gs)) ⟨dx, _, upd_same, Dtf.put (t1.later (l2.trans lp)) (r.later lp), by rw [putFD_look hf]; exact hz⟩)) q
theorem w_satt {m : List Str} {f : Str} {F : DEnds} {ρ : Rho} {S : Sto} (h : dv ρ S fun y S1 => da ρ S1 fun x S2 => ∃ n C gs, x = .hdl n ∧ C ∈ m ∧ S2[n]? = some (.obj C gs) ∧ gs.length < 1000 ∧ f ≠ ("literals" : Str) ∧ F.nx ρ (S2.set n (.obj C (putFD f y gs)))) : dSatt m da dv f F ρ S := h
end
def spInit (K : PySem.W.Frag) (C : Str) (dsi : DSp) : Sp := fun vs H1 Q E => ∃ c dx ws H Q', vs = V.ref c :: ws ∧ H c = none ∧ H dx = none ∧ dx ≠ c ∧ H1 = upd (upd H dx (.own c)) c (.ins (He.ga K C) dx []) ∧ lift K dsi ws H Q' E ∧ ∀ H', Q' (.ref c) H' → Q .non H'
end Dx
namespace Dx
open PySem PySem.Spec PyProof.Rows L2 Px He
section
variable {K : PySem.W.Frag}
end
end Dx
namespace Cl
open PySem PySem.Spec PyProof.Rows L2 Px
section
variable {X : Cx} {l : List (Addr × Str)}
end
end Cl
namespace Dx
open PySem PySem.Spec PyProof.Rows L2 Px He
section
variable {K : PySem.W.Frag} {W : WX} {WD : DW} {te : TE} {de : DE} {ρ : Rho} {S : Sto} {RI : IS → Sto → Prop}
def dOwnL (m : List (Str × Str)) (de : DE) : DI := fun ρ S R => de ρ S fun x S1 => ∃ C gs f ds, x = .obj C gs ∧ (C, f) ∈ m ∧ gs.lookup f = some (.lst ds) ∧ ds.length ≤ 1000000 ∧ R ⟨ds, fun _ => True⟩ S1
theorem w_ownL {m : List (Str × Str)} (h : de ρ S fun x S1 => ∃ C gs f ds, x = .obj C gs ∧ (C, f) ∈ m ∧ gs.lookup f = some (.lst ds) ∧ ds.length ≤ 1000000 ∧ RI ⟨ds, fun _ => True⟩ S1) : dOwnL m de ρ S RI := h
end
end Dx
namespace Px
open PySem PySem.Spec PyProof.Rows L2
section
variable {X : Cx}
end
end Px
namespace Cl
open PySem PySem.Spec PySem.Calls PyProof.Rows L2 Px
def rDictD : List V → Hp → VK → Prop := fun xs H Q => ∃ (a : Addr) (kvs : List (Key × V)), xs = [.ref a] ∧ Rd H a (.dK kvs) ∧ ∀ p, H p = none → Q (.ref p) (upd H p (.dK kvs))
theorem call_dictD2 {X : Cx} : CallR X (.type "dict") rDictD := call_dictD
def getI (ls : List (Key × Int)) (k : Key) : Option Int := (ls.find? fun p => decide (p.1 = k)).map (·.2)
def eqI (ks ls : List (Key × Int)) : Bool := ks.length == ls.length && ks.all fun p => decide (getI ls p.1 = some p.2)
def kvI (ks : List (Key × Int)) : List (Key × V) := ks.map fun p => (p.1, V.int p.2)
theorem val_kvI {ls : List (Key × Int)} {k : Key} : valV (kvI ls) k = (getI ls k).map V.int := by
  unfold valV getI kvI
  rw [List.find?_map, Option.map_map, Option.map_map]
  rfl
def rEqKI : R2 := fun x y H Q => ∃ (a b : Addr) (ks ls : List (Key × Int)), x = .ref a ∧ y = .ref b ∧ H a = some (.dK (kvI ks)) ∧ H b = some (.dK (kvI ls)) ∧ Q (.bl (eqI ks ls)) H
theorem hits_I {P : Program} {w : World} {A : Around} {s : Shared} {ls : List (Key × Int)} {vb : List (Key × Value)} (rb : KV (kvI ls) vb) : ∀ {ks : List (Key × Int)} {va : List (Key × Value)}, KV (kvI ks) va → PySem.W.KeqHitsP P w A s vb va (ks.all fun p => decide (getI ls p.1 = some p.2))
  | [], _, .nil => .nil
  | p :: ks, _, @Paired.cons _ _ _ _ q _ _ h r => by
    obtain ⟨h1, h2⟩ := h
    obtain ⟨key, v⟩ := q
    have h1 : p.1 = key := h1
    obtain ⟨t, rfl⟩ : ∃ t, v = Value.int p.2 t := h2
    subst h1
    have rr : RelO (valV (kvI ls) p.1) (valueAt vb p.1) := rb.val p.1
    rw [val_kvI] at rr
    rw [List.all_cons]
    cases e : getI ls p.1 with
    | none =>
      rw [e] at rr
      have hn : valueAt vb p.1 = none := by
        cases hv : valueAt vb p.1 with
        | none => rfl
        | some _ => rw [hv] at rr; cases rr
      rw [show decide ((none : Option Int) = some p.2) = false from decide_eq_false (by simp), Bool.false_and]
      exact .miss hn
    | some i =>
      rw [e] at rr
      obtain ⟨y, hy, ry⟩ := rr.some_of
      obtain ⟨u, rfl⟩ : ∃ u, y = Value.int i u := ry
      have ee := SeqAt.EqAt.int_int (A := A) (s := s) p.2 t i u
      have eb : decide (some i = some p.2) = (p.2 == i) := by
        rw [Bool.eq_iff_iff, decide_eq_true_eq, beq_iff_eq, Option.some.injEq]
        exact eq_comm
      rw [eb]
      exact .hit hy ee.eqP (hits_I rb r)
theorem op_eqKI {X : Cx} (hu : X.A.units + 64 < cLine) : OpR X (compareOp .Eq) rEqKI := by
  intro pins s σ H x y v u Q I rx ry h
  obtain ⟨a, b, ks, ls, rfl, rfl, ha, hb, q⟩ := h
  cases (show v = Value.ref a from rx)
  cases (show u = Value.ref b from ry)
  obtain ⟨_, ya, va, ra, da⟩ := (show ObjOk X.prog X.w H s.heap a (.dK (kvI ks)) from I.hok a _ ha)
  obtain ⟨_, yb, vb, rb, db⟩ := (show ObjOk X.prog X.w H s.heap b (.dK (kvI ls)) from I.hok b _ hb)
  show wpAny _ _ (richCompare .Eq (.ref a) (.ref b)) _ _ s
  refine PySem.W.rcP_dicts (knd := mixKind X.prog X.w) ya yb da db (by omega) (fun _ => hits_I rb ra) _ _ ⟨.bl (eqI ks ls), H, I, ?_, q⟩
  have e1 : va.length = ks.length := by rw [← ra.length]; unfold kvI; rw [List.length_map]
  have e2 : vb.length = ls.length := by rw [← rb.length]; unfold kvI; rw [List.length_map]
  rw [e1, e2]
  rfl
section
variable {X : Cx} {CX : CXT} {k : Nat} {f C : Addr} {ks : List Str} {spK : List V → Sp} {E : L2.St → XK} {x : Str} {tk : TA} {p pos : Pos} {kws : List Keyword}
def tMakeSK0 (C : Addr) (m : Nat) (spK : List V → Sp) (E : L2.St → XK) (tk : TA) : TE := fun σ H Q => tk σ H fun zs H2 => zs.length = m ∧ ∀ x dx, H2 x = none → H2 dx = none → dx ≠ x →
  spK zs [V.ref x] (upd (upd H2 dx (.own x)) x (.ins C dx [])) (fun v H3 => v = .non ∧ Q (.ref x) H3) (E σ)
theorem pe_makeSK0 (M : Mk X.K C f) (F : FnRK X.prog X.w X.K X.mg X.base CX k f ks spK) (hr : Room (k + 1) X.A) (hg : Gl X x) (hm : X.mg x = some (.ref C)) (hx : ∀ σ, PassesAt CX X σ (E σ)) (hkw : PK X kws tk)
    (hall : (backToKw pos (keywordEach kws X.env)).all (·.1.isSome) = true := by rfl) (hks : (backToKw pos (keywordEach kws X.env)).filterMap (·.1) = ks := by rfl) (hdb : (x == ("__debug__" : Str)) = false := by decide)
    (hpl : ((backTo pos (starEach [] X.env)).any (·.1) || (backToKw pos (keywordEach kws X.env)).any (·.1.isNone)) = false := by rfl) : PE X (.Call (.Name x p) [] kws pos) (tMakeSK0 C ks.length spK E tk) := by
  refine ⟨fun pins s σ H Q I h => ?_⟩
  refine wpAny_Call_Name_kw (ld_glob I hg hm ?_ hdb)
  refine PySem.W.callWith_KW0 (h₀ := X.base) I.ok.mod.kin M.kp hall ?_ hpl
  refine thn (hkw.run pos pins s σ H _ I h) fun ws s2 ⟨zs, H2, I2, rz, hlz, q2⟩ => ⟨I2.kIn, ?_⟩
  rw [hks]
  have hq := q2 (s2.heap.objs.size + 1) s2.heap.objs.size (I2.hok.fresh (Nat.le_succ _)) (I2.hok.fresh (Nat.le_refl _)) (Nat.ne_of_lt (Nat.lt_succ_self _))
  have I4 := Inv.made (C := C) I2
  refine wpAny_call (make_map (f := f) I2.kIn M.makes M.init (beq_iff_eq.mp M.fn) (codeAny_mono (F _ X.stack _ _ [Value.ref (s2.heap.objs.size + 1)] ws _ _ _ (E σ) (hr.make C [] (ks.zip ws)) (I4.env0.make C [] (ks.zip ws)) (show Vals [V.ref (s2.heap.objs.size + 1)] [Value.ref (s2.heap.objs.size + 1)] from .cons rfl .nil) rz hlz hq) fun r s' hq' => ?_))
  cases r with
  | error e => exact hx σ pins _ _ e s' I4 hq'
  | ok fl =>
    cases fl with
    | ret u =>
      obtain ⟨v, H', I5, rv', ev, q3⟩ := I4.after hq'
      subst ev
      exact ⟨rv', V.ref (s2.heap.objs.size + 1), H', I5, rfl, q3⟩
    | _ => exact hq'.elim
end
end Cl
namespace Dx
open PySem PySem.Spec PyProof.Rows L2 Px He
section
variable {K : PySem.W.Frag} {W : WX} {WD : DW} {ta tb tc : TE} {da db dc : DE} {tl : TA} {dl : DA} {ρ : Rho} {S : Sto} {Q : DQ}
def dDictC : List D → Sto → DQ → Prop := fun xs S Q => ∃ x lk ds, xs = [x] ∧ rs S x = .dic lk ds ∧ Q (.hdl S.length) (S ++ [.dic false ds])
theorem cb_dictC : CbD K Cl.rDictD dDictC := by
  intro H A S vs ds Q QD c ts h k
  obtain ⟨x, lk, es, rfl, e, q⟩ := h
  cases ts with
  | cons t ts =>
    cases ts
    obtain ⟨a, kvs, rfl, r, dk⟩ := dc_at c t e
    refine ⟨a, kvs, rfl, r, fun p hp => ?_⟩
    have l := Later.cell c hp (o := .dK kvs)
    refine k _ _ (A.add p) _ _ l (c.cell hp (c := .dic false es) ⟨kvs, upd_same, dk.later l⟩) (.hdl ?_) q
    show (A.c ++ [some p])[S.length]? = _
    rw [← c.len, List.getElem?_append_right (Nat.le_refl _), Nat.sub_self]
    rfl
def dSum : List D → Sto → DQ → Prop := fun xs S Q => ∃ (x : D) (ns : List Int), xs = [x] ∧ rs S x = .lst (ns.map .int) ∧ Q (.int ns.sum) S
theorem cb_sum : CbD K (rSum K) dSum := by
  intro H A S vs ds Q QD c ts h k
  obtain ⟨x, ns, rfl, e, q⟩ := h
  cases ts with
  | cons t ts =>
    cases ts
    obtain ⟨a, xs, rfl, hx, r⟩ := ls_at c t e
    rw [r.intsV] at hx
    exact ⟨a, ns, rfl, SqL.of hx, k.now c (.int _) q⟩
theorem isD_of {H : Hp} {a : Addr} {kvs : List (Key × V)} (r : Rd H a (.dK kvs)) : IsD H a := .inl ⟨kvs, r⟩
def dDGet2 (da db dc : DE) : DE := fun ρ S Q => da ρ S fun x S1 => (∃ lk ds, rs S1 x = .dic lk ds) ∧ db ρ S1 fun y S2 => dc ρ S2 fun z S3 => ∃ lk ds key, rs S3 x = .dic lk ds ∧ y = kD key ∧ Q ((getK ds key).getD z) S3
theorem sim_dget2 (h1 : SimE K W WD ta da) (h2 : SimE K W WD tb db) (h3 : SimE K W WD tc dc) : SimE K W WD (tDGet2 ta tb tc) (dDGet2 da db dc) := by
  intro H0 A0 hW σ ρ A S H Q QD x h k
  refine h1.at hW x h fun v1 d1 A1 S1 H1 l1 x1 t1 ⟨⟨lk1, ds1, f1⟩, q1⟩ => ?_
  obtain ⟨a, kvs1, rfl, r1, _⟩ := dc_at x1.c t1 f1
  refine ⟨a, rfl, isD_of r1, ?_⟩
  refine h2.at hW x1 q1 fun v2 d2 A2 S2 H2 l2 x2 t2 q2 => ?_
  refine h3.at hW x2 q2 fun v3 d3 A3 S3 H3 l3 x3 t3 ⟨lk, ds, key, e1, e2, q⟩ => ?_
  subst e2
  obtain ⟨a', kvs, ea, r, dk⟩ := dc_at x3.c (t1.later (l2.trans l3)) e1
  cases ea
  have l := (l1.trans l2).trans l3
  refine ⟨valV kvs key, ?_, ?_⟩
  · rw [kD_V t2]
    exact .inl ⟨kvs, key, r, rfl, rfl⟩
  · rcases dk.look key with ⟨e4, e5⟩ | ⟨u, y, e4, e5, tu⟩
    · rw [e4] at q
      rw [e5]
      exact k _ _ _ _ _ l x3 t3 q
    · rw [e4] at q
      rw [e5]
      exact k _ _ _ _ _ l x3 tu q
theorem w_dget2 (h : da ρ S fun x S1 => (∃ lk ds, rs S1 x = .dic lk ds) ∧ db ρ S1 fun y S2 => dc ρ S2 fun z S3 => ∃ lk ds key, rs S3 x = .dic lk ds ∧ y = kD key ∧ Q ((getK ds key).getD z) S3) : dDGet2 da db dc ρ S Q := h
def dropG {α : Type} (l : List (Key × α)) (k : Key) : List (Key × α) := l.filter fun kv => decide (kv.1 ≠ k)
theorem Dtk.drop {H : Hp} {A : Ads} {k : Key} : ∀ {l : List (Key × V)} {m : List (Key × D)}, Dtk K H A l m → Dtk K H A (dropK l k) (dropG m k)
  | _, _, .nil => .nil
  | _, _, .cons (f := f) (vs := vs) (ds := ds) h r => by
    have ih := r.drop (k := k)
    unfold dropK dropG at ih ⊢
    by_cases e : f = k
    · rw [List.filter_cons_of_neg (by simpa using e), List.filter_cons_of_neg (by simpa using e)]
      exact ih
    · rw [List.filter_cons_of_pos (by simpa using e), List.filter_cons_of_pos (by simpa using e)]
      exact .cons h ih
def dDPop1 (da db : DE) : DE := fun ρ S Q => da ρ S fun o S1 => ∃ n, o = .hdl n ∧ (∃ ds, S1[n]? = some (.dic false ds)) ∧ db ρ S1 fun y S2 => ∃ ds key d, S2[n]? = some (.dic false ds) ∧ y = kD key ∧ getK ds key = some d ∧ Q d (S2.set n (.dic false (dropG ds key)))
theorem sim_dpop1 (h1 : SimE K W WD ta da) (h2 : SimE K W WD tb db) : SimE K W WD (tDPop1 ta tb) (dDPop1 da db) := by
  intro H0 A0 hW σ ρ A S H Q QD x h k
  refine h1.at hW x h fun v1 d1 A1 S1 H1 l1 x1 t1 ⟨n, e, ⟨es, he⟩, q⟩ => ?_
  subst e
  cases t1 with
  | hdl ha =>
    rename_i a
    obtain ⟨c, hc, kc⟩ := x1.c.at_ _ _ ha
    rw [he] at hc
    cases hc
    obtain ⟨kvs0, hx, _⟩ := kc
    have hx : H1 a = some (.dK kvs0) := hx
    refine ⟨a, rfl, isD_of (.inl hx), ?_⟩
    refine h2.at hW x1 q fun v2 d2 A2 S2 H2 l2 x2 t2 ⟨ds, key, d, hs, ey, hg, q2⟩ => ?_
    subst ey
    have ha2 := l2.live _ _ ha
    obtain ⟨c, hc, kc⟩ := x2.c.at_ _ _ ha2
    rw [hs] at hc
    cases hc
    obtain ⟨kvs, hy, dk⟩ := kc
    have hy : H2 a = some (.dK kvs) := hy
    rcases dk.look key with ⟨e4, _⟩ | ⟨u, y, e4, e5, tu⟩
    · rw [hg] at e4; cases e4
    · rw [hg] at e4
      cases e4
      have lp := Later.put x2.c ha2 (fun _ _ e => by rw [hy] at e; cases e) (o := .dK (dropK kvs key))
      refine ⟨kvs, key, u, hy, kD_V t2, e5, ?_⟩
      exact k _ _ _ _ _ ((l1.trans l2).trans lp) (x2.go lp (x2.c.put ha2 (c := .dic false (dropG ds key)) ⟨_, upd_same, (dk.drop).later lp⟩)) (tu.later lp) q2
theorem w_dpop1 (h : da ρ S fun o S1 => ∃ n, o = .hdl n ∧ (∃ ds, S1[n]? = some (.dic false ds)) ∧ db ρ S1 fun y S2 => ∃ ds key d, S2[n]? = some (.dic false ds) ∧ y = kD key ∧ getK ds key = some d ∧ Q d (S2.set n (.dic false (dropG ds key)))) : dDPop1 da db ρ S Q := h
def dMakeK0 (m : Nat) (WD : DW) (dsp : DSp) (dl : DA) : DE := fun ρ S Q => dl ρ S fun zs S2 => zs.length = m ∧ dsp zs S2 Q fun C gs S3 => WD C gs ρ S3
theorem sim_makeK0 {C : Addr} {m : Nat} {spK : List V → Sp} {dsp : DSp} (ad : ∀ zs H Q E, zs.length = m → lift K dsp zs H Q E → ∀ x dx, H x = none → H dx = none → dx ≠ x → spK zs [V.ref x] (upd (upd H dx (.own x)) x (.ins C dx [])) (fun v H2 => v = .non ∧ Q (.ref x) H2) E)
    (hl : SimA K W WD tl dl) : SimE K W WD (Cl.tMakeSK0 C m spK (WE W) tl) (dMakeK0 m WD dsp dl) := by
  intro H0 A0 hW σ ρ A S H Q QD x h k
  refine hl H0 A0 hW _ _ _ _ _ _ _ x h fun zs ds A2 S2 H2 l x2 ts ⟨hm, q⟩ => ?_
  have hlen : zs.length = m := by rw [ts.len]; exact hm
  refine ⟨hlen, fun y dy h1 h2 h3 => ?_⟩
  refine ad zs _ _ _ hlen ⟨A2, S2, _, _, _, x2.c, ts, q, fun v d A' S' H' l3 c t q => k v d A' S' H' (l.trans l3) (x2.go l3 c) t q, fun C gs fs d A' S' H' l3 c hd tf q => ?_⟩ y dy h1 h2 h3
  exact hW _ _ _ _ _ _ _ _ _ (x2.go l3 c) hd tf q
theorem w_makeK0 {m : Nat} {WD : DW} {dsp : DSp} (h : dl ρ S fun zs S2 => zs.length = m ∧ dsp zs S2 Q fun C gs S3 => WD C gs ρ S3) : dMakeK0 m WD dsp dl ρ S Q := h
theorem pure_initA {C : Str} {dsi : DSp} {t : WX → TS} {d : DW → DS} {N : List Str} (sim : ∀ W WD, SimS K W WD (t W) (d WD))
    (dp : ∀ ds S Q E, dsi ds S Q E → d (ExD S E) { nx := fun _ S' => Q (.hdl S.length) S', rt := fun _ _ => False, b := S.length + 1 } (startD N.length (.hdl S.length :: ds)) (S ++ [.obj C []]))
    {vs : List V} {H : Hp} {Q : VK} {E : XK} (h : spInit K C dsi vs H Q E) : t (fun cls d _ H => E cls d H) { nx := fun _ H' => Q .non H', rt := Q } (L2.start N vs) H := by
  obtain ⟨c, dx, ws, H0, Q', rfl, hc, hd, hne, rfl, ⟨A, S, ds, QD, ED, C0, ts, h, hq, he⟩, hk⟩ := h
  have hc1 : (upd H0 dx (.own c)) c = none := by rw [upd_ne (Ne.symm hne)]; exact hc
  have C1 := C0.new (o := .own c) hd
  have l1 := Later.new C0 (o := .own c) hd
  have l2 := Later.cell C1 hc1 (o := .ins (He.ga K C) dx [])
  have C2 := C1.cell hc1 (c := .obj C []) ⟨dx, [], upd_same, .nil, rfl⟩
  have l12 := l1.trans l2
  have hat : (A.add c).c[S.length]? = some (some c) := by
    show (A.c ++ [some c])[S.length]? = _
    rw [← C0.len, List.getElem?_append_right (Nat.le_refl _), Nat.sub_self]
    rfl
  refine sim _ _ _ (A.add c) ?_ _ _ (A.add c) (S ++ [.obj C []]) _ _ _ ⟨Rel.start (.cons (.hdl hat) (ts.later l12)), C2, Later.refl _ _⟩ ⟨?_, ?_, ?_, ?_, ?_⟩ (dp ds S QD ED h)
  · rintro σ ρ A' S' H' C' gs fs dd x hd' tf ⟨k, lt, e⟩
    obtain ⟨l1', c1⟩ := kept_ok C0 (l12.trans x.l) x.c k
    exact he _ _ _ _ _ _ _ l1' c1 hd' (Dtf.to (cut_o _) cut_c tf lt) e
  · rintro σ ρ A' S' H' x q
    exact hk _ (hq _ _ _ _ _ (l12.trans x.l) x.c (.hdl (x.l.live _ _ hat)) q)
  · exact fun _ _ _ _ _ _ h => h.elim
  · exact fun _ _ _ _ _ _ h => h.elim
  · exact fun _ _ _ _ _ _ _ _ _ h => h.elim
  · show S.length + 1 = (A.c ++ [some c]).length
    rw [List.length_append, C0.len]
    rfl
theorem ad_initV {C : Str} {dsi : DSp} {zs : List V} {zd : List D} {vs : List V} {H : Hp} {Q : VK} {E : XK} (kz : ∀ H A, Dts K H A zs zd) (h : lift K (fun ds S Q E => dsi (zd ++ [.tup ds]) S Q E) vs H Q E) {x dx : Addr} (hx : H x = none) (hd : H dx = none) (hne : dx ≠ x) {p : Addr} (hp : (upd (upd H dx (.own x)) x (.ins (He.ga K C) dx [])) p = none) :
    spInit K C dsi (V.ref x :: (zs ++ [V.ref p])) (upd (upd (upd H dx (.own x)) x (.ins (He.ga K C) dx [])) p (.tup vs)) (fun v H2 => v = .non ∧ Q (.ref x) H2) E := by
  have n1 : p ≠ x := fun e => by rw [e, upd_same] at hp; cases hp
  have hp2 : (upd H dx (.own x)) p = none := by rw [upd_ne n1] at hp; exact hp
  have n2 : p ≠ dx := fun e => by rw [e, upd_same] at hp2; cases hp2
  have hp3 : H p = none := by rw [upd_ne n2] at hp2; exact hp2
  refine ⟨x, dx, zs ++ [V.ref p], upd H p (.tup vs), Q, rfl, ?_, ?_, hne, ?_, ?_, fun H' q => ⟨rfl, q⟩⟩
  · rw [upd_ne (Ne.symm n1)]; exact hx
  · rw [upd_ne (Ne.symm n2)]; exact hd
  · funext b
    by_cases b1 : b = p
    · subst b1; rw [upd_same, upd_ne n1, upd_ne n2, upd_same]
    · rw [upd_ne b1]
      by_cases b2 : b = x
      · subst b2; rw [upd_same, upd_same]
      · rw [upd_ne b2, upd_ne b2]
        by_cases b3 : b = dx
        · subst b3; rw [upd_same, upd_same]
        · rw [upd_ne b3, upd_ne b3, upd_ne b1]
  · obtain ⟨A, S, ds, QD, ED, C0, ts, h, k, hE⟩ := h
    obtain ⟨C1, l⟩ := C0.same (same_new (o := .tup vs) hp3)
    exact ⟨A, S, _, QD, ED, C1, (kz _ _).app (.one (.tup upd_same (C0.out hp3) (ts.later l))), h, fun v d A' S' H' l2 c t q => k v d A' S' H' (l.trans l2) c t q, fun cc gs fs d A' S' H' l2 c hd tf q => hE cc gs fs d A' S' H' (l.trans l2) c hd tf q⟩
theorem ad_initK {C : Str} {dsi : DSp} {zs : List V} {H : Hp} {Q : VK} {E : XK} (h : lift K (fun ds S Q E => dsi (ds ++ [.tup []]) S Q E) zs H Q E) {x dx : Addr} (hx : H x = none) (hd : H dx = none) (hne : dx ≠ x) {p : Addr} (hp : (upd (upd H dx (.own x)) x (.ins (He.ga K C) dx [])) p = none) :
    spInit K C dsi (V.ref x :: (zs ++ [V.ref p])) (upd (upd (upd H dx (.own x)) x (.ins (He.ga K C) dx [])) p (.tup [])) (fun v H2 => v = .non ∧ Q (.ref x) H2) E := by
  have n1 : p ≠ x := fun e => by rw [e, upd_same] at hp; cases hp
  have hp2 : (upd H dx (.own x)) p = none := by rw [upd_ne n1] at hp; exact hp
  have n2 : p ≠ dx := fun e => by rw [e, upd_same] at hp2; cases hp2
  have hp3 : H p = none := by rw [upd_ne n2] at hp2; exact hp2
  refine ⟨x, dx, zs ++ [V.ref p], upd H p (.tup []), Q, rfl, ?_, ?_, hne, ?_, ?_, fun H' q => ⟨rfl, q⟩⟩
  · rw [upd_ne (Ne.symm n1)]; exact hx
  · rw [upd_ne (Ne.symm n2)]; exact hd
  · funext b
    by_cases b1 : b = p
    · subst b1; rw [upd_same, upd_ne n1, upd_ne n2, upd_same]
    · rw [upd_ne b1]
      by_cases b2 : b = x
      · subst b2; rw [upd_same, upd_same]
      · rw [upd_ne b2, upd_ne b2]
        by_cases b3 : b = dx
        · subst b3; rw [upd_same, upd_same]
        · rw [upd_ne b3, upd_ne b3, upd_ne b1]
  · obtain ⟨A, S, ds, QD, ED, C0, ts, h, k, hE⟩ := h
    obtain ⟨C1, l⟩ := C0.same (same_new (o := .tup []) hp3)
    exact ⟨A, S, _, QD, ED, C1, (ts.later l).app (.one (.tup upd_same (C0.out hp3) .nil)), h, fun v d A' S' H' l2 c t q => k v d A' S' H' (l.trans l2) c t q, fun cc gs fs d A' S' H' l2 c hd tf q => hE cc gs fs d A' S' H' (l.trans l2) c hd tf q⟩
def dLenR : List D → Sto → DQ → Prop := fun xs S Q => dLen xs S Q ∨ ∃ x lk ds, xs = [x] ∧ rs S x = .dic lk ds ∧ Q (.int ds.length) S
theorem cb_lenR : CbD K (Cl.rLenR K) dLenR := by
  intro H A S vs ds Q QD c ts h k
  rcases h with h | ⟨x, lk, es, rfl, e, q⟩
  · exact .inl (cb_len _ _ _ _ _ _ _ c ts h k)
  · cases ts with
    | cons t ts =>
      cases ts
      obtain ⟨a, kvs, rfl, r, dk⟩ := dc_at c t e
      rw [← dk.len] at q
      exact .inr ⟨a, kvs, rfl, r, k.now c (.int _) q⟩
def dListK0 (c : Bool) : List D → Sto → DQ → Prop := fun xs S Q => ∃ n ds, xs = [.hdl n] ∧ S[n]? = some (.dic false ds) ∧ newAt c (ds.map fun p => kD p.1) S Q
theorem Dtk.keysH {H : Hp} {A : Ads} : ∀ {kvs : List (Key × V)} {ds : List (Key × D)}, Dtk K H A kvs ds → Dts K H A (kvs.map fun p => kV p.1) (ds.map fun p => kD p.1)
  | _, _, .nil => .nil
  | _, _, .cons (f := f) h r => by
    refine .cons ?_ r.keysH
    cases f with
    | inl i => exact .int _
    | inr z => exact .str _
theorem cb_listK0 {b : Bool} : CbD K rListD (dListK0 b) := by
  intro H A S vs ds Q QD c ts h k
  obtain ⟨n, es, rfl, hs, q⟩ := h
  cases ts with
  | cons t ts =>
    cases ts
    cases t with
    | hdl ha =>
      obtain ⟨c0, hc, kc⟩ := c.at_ _ _ ha
      rw [hs] at hc
      cases hc
      obtain ⟨kvs, hx, dk⟩ := kc
      exact ⟨_, kvs, rfl, hx, fun p hp => mk_lst k c dk.keysH q hp⟩
end
def kvID (ks : List (Key × Int)) : List (Key × D) := ks.map fun p => (p.1, D.int p.2)
theorem Dtk.ints {K : PySem.W.Frag} {H : Hp} {A : Ads} : ∀ {vs : List (Key × V)} {ks : List (Key × Int)}, Dtk K H A vs (kvID ks) → vs = Cl.kvI ks
  | _, p :: ks, h => by
    have h : Dtk K H A _ ((p.1, D.int p.2) :: kvID ks) := h
    cases h with
    | cons h r =>
      cases h
      rw [r.ints]
      rfl
  | _, [], h => by
    have h : Dtk K H A _ [] := h
    cases h
    rfl
def dEqKI : D → D → Sto → DQ → Prop := fun x y S Q => ∃ n m ks ls, x = .hdl n ∧ y = .hdl m ∧ S[n]? = some (.dic false (kvID ks)) ∧ S[m]? = some (.dic false (kvID ls)) ∧ Q (.bl (Cl.eqI ks ls)) S
theorem op_eqKI {K : PySem.W.Frag} : OpD K Cl.rEqKI dEqKI := by
  rintro H A S x y dx dy Q QD c tx ty ⟨n, m, ks, ls, rfl, rfl, h1, h2, q⟩ k
  cases tx with
  | hdl ha => cases ty with
    | hdl hb =>
      obtain ⟨c1, e1, k1⟩ := c.at_ _ _ ha
      rw [h1] at e1
      cases e1
      obtain ⟨c2, e2, k2⟩ := c.at_ _ _ hb
      rw [h2] at e2
      cases e2
      obtain ⟨v1, hx, d1⟩ := k1
      obtain ⟨v2, hy, d2⟩ := k2
      have g1 := d1.ints
      have g2 := d2.ints
      subst g1 g2
      exact ⟨_, _, ks, ls, rfl, rfl, hx, hy, k.now c (.bl _) q⟩
inductive MxSim (K : PySem.W.Frag) : List (Addr × Sp × Sp) → List (Str × DSp × DSp) → Prop
  | nil : MxSim K [] []
  | cons {C : Str} {sp spr : Sp} {dsp dspr : DSp} {l : List (Addr × Sp × Sp)} {m : List (Str × DSp × DSp)} : (∀ vs H Q E, lift K dsp vs H Q E → sp vs H Q E) → (∀ vs H Q E, lift K dspr vs H Q E → spr vs H Q E) → MxSim K l m → MxSim K ((He.ga K C, sp, spr) :: l) ((C, dsp, dspr) :: m)
  | skip {x : Addr × Sp × Sp} {l : List (Addr × Sp × Sp)} {m : List (Str × DSp × DSp)} : MxSim K l m → MxSim K (x :: l) m
theorem MxSim.at {K : PySem.W.Frag} {C : Str} {dsp dspr : DSp} : ∀ {l : List (Addr × Sp × Sp)} {m : List (Str × DSp × DSp)}, MxSim K l m → (C, dsp, dspr) ∈ m → ∃ (i : Nat) (sp spr : Sp), l[i]? = some (He.ga K C, sp, spr) ∧ (∀ vs H Q E, lift K dsp vs H Q E → sp vs H Q E) ∧ ∀ vs H Q E, lift K dspr vs H Q E → spr vs H Q E
  | _, _, .nil, h => by cases h
  | _, _, .skip t, m => by
    obtain ⟨i, sp, spr, h⟩ := t.at m
    exact ⟨i + 1, sp, spr, h⟩
  | _, _, .cons h h2 t, m => by
    rcases List.mem_cons.mp m with e | m
    · cases e; exact ⟨0, _, _, rfl, h, h2⟩
    · obtain ⟨i, sp, spr, h⟩ := t.at m
      exact ⟨i + 1, sp, spr, h⟩
section
variable {K : PySem.W.Frag} {W : WX} {WD : DW} {E : L2.St → XK} {ED : Rho → DX}
def dMix (ED : Rho → DX) (m : List (Str × DSp × DSp)) (base : D → D → Sto → DQ → Prop) : Rho → D → D → Sto → DQ → Prop := fun ρ x y S Q => base x y S Q ∨ ∃ C dsp dspr, (C, dsp, dspr) ∈ m ∧
  ((∃ gs, rs S x = .obj C gs ∧ ((∃ hs, rs S y = .obj C hs) ∨ ∃ n, y = .int n) ∧ dsp [x, y] S Q (ED ρ)) ∨ ∃ n gs, x = .int n ∧ rs S y = .obj C gs ∧ dspr [y, .int n] S Q (ED ρ))
theorem ops_mix {l : List (Addr × Sp × Sp)} {m : List (Str × DSp × DSp)} {r : R2} {rd : D → D → Sto → DQ → Prop} (hm : MxSim K l m) (eo : EOk K W WD E ED) (hb : OpD K r rd) : OpDS K W WD (Cl.rMix l E r) (dMix ED m rd) := by
  intro H0 A0 hW σ ρ A S H x y dx dy Q QD xx tx ty q k
  rcases q with q | ⟨C, dsp, dspr, hin, q⟩
  · exact .inl (opd_s hb xx tx ty q k)
  obtain ⟨i, sp, spr, hl, ad, adr⟩ := hm.at hin
  rcases q with ⟨gs, e1, e2, q⟩ | ⟨n, gs, rfl, e2, q⟩
  · obtain ⟨a, dx', fs, rfl, ha, _⟩ := ob_at xx.c tx e1
    refine .inr ⟨i, _, sp, spr, hl, .inl ⟨a, dx', fs, rfl, ha, ?_, run_lift ad eo hW xx (.cons tx (.cons ty .nil)) q k⟩⟩
    rcases e2 with ⟨hs, e2⟩ | ⟨n, rfl⟩
    · obtain ⟨b, dy', fs', rfl, hb', _⟩ := ob_at xx.c ty e2
      exact .inl ⟨b, dy', fs', rfl, hb'⟩
    · cases ty
      exact .inr ⟨n, rfl⟩
  · obtain ⟨b, dy', fs', rfl, hb', _⟩ := ob_at xx.c ty e2
    cases tx
    exact .inr ⟨i, _, sp, spr, hl, .inr ⟨n, b, dy', fs', rfl, rfl, hb', run_lift adr eo hW xx (.cons ty (.cons (.int n) .nil)) q k⟩⟩
inductive BsD (S : Sto) (C : Str) : D → Prop
  | own {y : D} {gs : List (Str × D)} : rs S y = .obj C gs → BsD S C y
  | int (n : Int) : BsD S C (.int n)
  | str (z : Str) : BsD S C (.str z)
  | seq {y : D} {ds : List D} : Sq S y ds → BsD S C y
inductive LfD : CmpOp → D → Prop
  | int {op : CmpOp} (n : Int) : LfD op (.int n)
  | str (z : Str) : LfD .Eq (.str z)
end
end Dx
namespace Hd
open PySem PySem.Spec PyProof.Rows L2 He Hk
def top (i : Nat) : Stmt := PySem.Challenge.pw_renamedhorn_k42_mixtures_counted.main.body.getD i (.Pass ⟨0, 0, 0, 0⟩)
abbrev s_check_number : Stmt := top 36
def d_check_number : DefX := ⟨fun K => ga K "check_number", "check_number", "check_number", defArgs s_check_number, defBody s_check_number, defScope s_check_number, [], []⟩
abbrev s_tally : Stmt := top 37
def d_tally : DefX := ⟨fun K => ga K "tally", "tally", "tally", defArgs s_tally, defBody s_tally, defScope s_tally, [], []⟩
abbrev s_summed : Stmt := top 38
def d_summed : DefX := ⟨fun K => ga K "summed", "summed", "summed", defArgs s_summed, defBody s_summed, defScope s_summed, [], []⟩
abbrev s_multiplied_counts : Stmt := top 39
def d_multiplied_counts : DefX := ⟨fun K => ga K "multiplied_counts", "multiplied_counts", "multiplied_counts", defArgs s_multiplied_counts, defBody s_multiplied_counts, defScope s_multiplied_counts, [], []⟩
abbrev s_law_source : Stmt := top 42
def d_law_source : DefX := ⟨fun K => ga K "_law_source", "_law_source", "_law_source", defArgs s_law_source, defBody s_law_source, defScope s_law_source, [], []⟩
abbrev s_law_take : Stmt := top 43
def d_law_take : DefX := ⟨fun K => ga K "_law_take", "_law_take", "_law_take", defArgs s_law_take, defBody s_law_take, defScope s_law_take, [], []⟩
abbrev s_law_same : Stmt := top 44
def d_law_same : DefX := ⟨fun K => ga K "_law_same", "_law_same", "_law_same", defArgs s_law_same, defBody s_law_same, defScope s_law_same, [], []⟩
abbrev s_law_mixed : Stmt := top 45
def d_law_mixed : DefX := ⟨fun K => ga K "_law_mixed", "_law_mixed", "_law_mixed", defArgs s_law_mixed, defBody s_law_mixed, defScope s_law_mixed, [], []⟩
abbrev s_law_error : Stmt := top 46
def d_law_error : DefX := ⟨fun K => ga K "_law_error", "_law_error", "_law_error", defArgs s_law_error, defBody s_law_error, defScope s_law_error, [], []⟩
abbrev s_law_are : Stmt := top 47
def d_law_are : DefX := ⟨fun K => ga K "_law_are", "_law_are", "_law_are", defArgs s_law_are, defBody s_law_are, defScope s_law_are, [], []⟩
abbrev s_law_drawn : Stmt := top 48
def d_law_drawn : DefX := ⟨fun K => ga K "_law_drawn", "_law_drawn", "_law_drawn", defArgs s_law_drawn, defBody s_law_drawn, defScope s_law_drawn, [], []⟩
abbrev s_law_outside : Stmt := top 49
def d_law_outside : DefX := ⟨fun K => ga K "_law_outside", "_law_outside", "_law_outside", defArgs s_law_outside, defBody s_law_outside, defScope s_law_outside, [], []⟩
abbrev s_law_settings : Stmt := top 50
def d_law_settings : DefX := ⟨fun K => ga K "_law_settings", "_law_settings", "_law_settings", defArgs s_law_settings, defBody s_law_settings, defScope s_law_settings, [], []⟩
abbrev s_law_sum : Stmt := top 51
def d_law_sum : DefX := ⟨fun K => ga K "_law_sum", "_law_sum", "_law_sum", defArgs s_law_sum, defBody s_law_sum, defScope s_law_sum, [], []⟩
abbrev s_law_times : Stmt := top 52
def d_law_times : DefX := ⟨fun K => ga K "_law_times", "_law_times", "_law_times", defArgs s_law_times, defBody s_law_times, defScope s_law_times, [], []⟩
abbrev s_law_over : Stmt := top 53
def d_law_over : DefX := ⟨fun K => ga K "_law_over", "_law_over", "_law_over", defArgs s_law_over, defBody s_law_over, defScope s_law_over, [], []⟩
abbrev s_law_added : Stmt := top 54
def d_law_added : DefX := ⟨fun K => ga K "_law_added", "_law_added", "_law_added", defArgs s_law_added, defBody s_law_added, defScope s_law_added, [], []⟩
abbrev s_law_multiplied : Stmt := top 55
def d_law_multiplied : DefX := ⟨fun K => ga K "_law_multiplied", "_law_multiplied", "_law_multiplied", defArgs s_law_multiplied, defBody s_law_multiplied, defScope s_law_multiplied, [], []⟩
abbrev s_law_equal : Stmt := top 56
def d_law_equal : DefX := ⟨fun K => ga K "_law_equal", "_law_equal", "_law_equal", defArgs s_law_equal, defBody s_law_equal, defScope s_law_equal, [], []⟩
abbrev s_law_in_place : Stmt := top 57
def d_law_in_place : DefX := ⟨fun K => ga K "_law_in_place", "_law_in_place", "_law_in_place", defArgs s_law_in_place, defBody s_law_in_place, defScope s_law_in_place, [], []⟩
abbrev s_law : Stmt := top 58
def d_law : DefX := ⟨fun K => ga K "law", "law", "law", defArgs s_law, defBody s_law, defScope s_law, [], []⟩
abbrev s_Mixture_init : Stmt := inClass (top 40) 1
def d_Mixture_init : DefX := ⟨fun K => (ma K (ga K "Mixture") "__init__"), "__init__", "Mixture.__init__", defArgs s_Mixture_init, defBody s_Mixture_init, defScope s_Mixture_init, [], [("counts", .non)]⟩
abbrev s_Mixture_total : Stmt := inClass (top 40) 2
def d_Mixture_total : DefX := ⟨fun K => (He5.wf K (ga K "Mixture") "property" "total"), "total", "Mixture.total", defArgs s_Mixture_total, defBody s_Mixture_total, defScope s_Mixture_total, [], []⟩
abbrev s_Mixture_iter : Stmt := inClass (top 40) 9
def d_Mixture_iter : DefX := ⟨fun K => (ma K (ga K "Mixture") "__iter__"), "__iter__", "Mixture.__iter__", defArgs s_Mixture_iter, defBody s_Mixture_iter, defScope s_Mixture_iter, [], []⟩
abbrev s_Mixture_len : Stmt := inClass (top 40) 10
def d_Mixture_len : DefX := ⟨fun K => (ma K (ga K "Mixture") "__len__"), "__len__", "Mixture.__len__", defArgs s_Mixture_len, defBody s_Mixture_len, defScope s_Mixture_len, [], []⟩
abbrev s_Mixture_contains : Stmt := inClass (top 40) 11
def d_Mixture_contains : DefX := ⟨fun K => (ma K (ga K "Mixture") "__contains__"), "__contains__", "Mixture.__contains__", defArgs s_Mixture_contains, defBody s_Mixture_contains, defScope s_Mixture_contains, [], []⟩
abbrev s_Mixture_getitem : Stmt := inClass (top 40) 12
def d_Mixture_getitem : DefX := ⟨fun K => (ma K (ga K "Mixture") "__getitem__"), "__getitem__", "Mixture.__getitem__", defArgs s_Mixture_getitem, defBody s_Mixture_getitem, defScope s_Mixture_getitem, [], []⟩
abbrev s_Mixture_setitem : Stmt := inClass (top 40) 13
def d_Mixture_setitem : DefX := ⟨fun K => (ma K (ga K "Mixture") "__setitem__"), "__setitem__", "Mixture.__setitem__", defArgs s_Mixture_setitem, defBody s_Mixture_setitem, defScope s_Mixture_setitem, [], []⟩
abbrev s_Mixture_eq : Stmt := inClass (top 40) 14
def d_Mixture_eq : DefX := ⟨fun K => (ma K (ga K "Mixture") "__eq__"), "__eq__", "Mixture.__eq__", defArgs s_Mixture_eq, defBody s_Mixture_eq, defScope s_Mixture_eq, [], []⟩
abbrev s_Mixture_iadd : Stmt := inClass (top 40) 15
def d_Mixture_iadd : DefX := ⟨fun K => (ma K (ga K "Mixture") "__iadd__"), "__iadd__", "Mixture.__iadd__", defArgs s_Mixture_iadd, defBody s_Mixture_iadd, defScope s_Mixture_iadd, [], []⟩
abbrev s_Mixture_add : Stmt := inClass (top 40) 16
def d_Mixture_add : DefX := ⟨fun K => (ma K (ga K "Mixture") "__add__"), "__add__", "Mixture.__add__", defArgs s_Mixture_add, defBody s_Mixture_add, defScope s_Mixture_add, [], []⟩
abbrev s_Mixture_mul : Stmt := inClass (top 40) 17
def d_Mixture_mul : DefX := ⟨fun K => (ma K (ga K "Mixture") "__mul__"), "__mul__", "Mixture.__mul__", defArgs s_Mixture_mul, defBody s_Mixture_mul, defScope s_Mixture_mul, [], []⟩
abbrev s_Mixture_rmul : Stmt := inClass (top 40) 18
def d_Mixture_rmul : DefX := ⟨fun K => (ma K (ga K "Mixture") "__rmul__"), "__rmul__", "Mixture.__rmul__", defArgs s_Mixture_rmul, defBody s_Mixture_rmul, defScope s_Mixture_rmul, [], []⟩
abbrev s_BadName_init : Stmt := inClass (top 3) 0
def d_BadName : ErrD := ⟨"BadName", ["text"], "BadName.__init__", defArgs s_BadName_init, defBody s_BadName_init, defScope s_BadName_init⟩
abbrev s_BadLiteral_init : Stmt := inClass (top 4) 0
def d_BadLiteral : ErrD := ⟨"BadLiteral", ["text"], "BadLiteral.__init__", defArgs s_BadLiteral_init, defBody s_BadLiteral_init, defScope s_BadLiteral_init⟩
abbrev s_BothSigns_init : Stmt := inClass (top 5) 0
def d_BothSigns : ErrD := ⟨"BothSigns", ["name"], "BothSigns.__init__", defArgs s_BothSigns_init, defBody s_BothSigns_init, defScope s_BothSigns_init⟩
abbrev s_TooMany_init : Stmt := inClass (top 6) 0
def d_TooMany : ErrD := ⟨"TooMany", ["limit"], "TooMany.__init__", defArgs s_TooMany_init, defBody s_TooMany_init, defScope s_TooMany_init⟩
abbrev s_NoClause_init : Stmt := inClass (top 7) 0
def d_NoClause : ErrD := ⟨"NoClause", ["number"], "NoClause.__init__", defArgs s_NoClause_init, defBody s_NoClause_init, defScope s_NoClause_init⟩
abbrev s_BadNumber_init : Stmt := inClass (top 8) 0
def d_BadNumber : ErrD := ⟨"BadNumber", ["number"], "BadNumber.__init__", defArgs s_BadNumber_init, defBody s_BadNumber_init, defScope s_BadNumber_init⟩
abbrev s_BadCount_init : Stmt := inClass (top 9) 0
def d_BadCount : ErrD := ⟨"BadCount", ["count"], "BadCount.__init__", defArgs s_BadCount_init, defBody s_BadCount_init, defScope s_BadCount_init⟩
def its : List Hk.It := [d_check_number.it, d_tally.it, d_summed.it, d_multiplied_counts.it, d_law_source.it, d_law_take.it, d_law_same.it, d_law_mixed.it, d_law_error.it, d_law_are.it, d_law_drawn.it, d_law_outside.it, d_law_settings.it, d_law_sum.it, d_law_times.it, d_law_over.it, d_law_added.it, d_law_multiplied.it, d_law_equal.it, d_law_in_place.it, d_law.it, d_Mixture_init.it, d_Mixture_total.it, d_Mixture_iter.it, d_Mixture_len.it, d_Mixture_contains.it, d_Mixture_getitem.it, d_Mixture_setitem.it, d_Mixture_eq.it, d_Mixture_iadd.it, d_Mixture_add.it, d_Mixture_mul.it, d_Mixture_rmul.it, d_BadName.it "/claim/cut.py", d_BadLiteral.it "/claim/cut.py", d_BothSigns.it "/claim/cut.py", d_TooMany.it "/claim/cut.py", d_NoClause.it "/claim/cut.py", d_BadNumber.it "/claim/cut.py", d_BadCount.it "/claim/cut.py"]
def fa : List Fa := [.glo "check_number", .glo "tally", .glo "summed", .glo "multiplied_counts", .glo "_law_source", .glo "_law_take", .glo "_law_same", .glo "_law_mixed", .glo "_law_error", .glo "_law_are", .glo "_law_drawn", .glo "_law_outside", .glo "_law_settings", .glo "_law_sum", .glo "_law_times", .glo "_law_over", .glo "_law_added", .glo "_law_multiplied", .glo "_law_equal", .glo "_law_in_place", .glo "law", .glo "Clause", .cls "Clause", .noat "Clause" "literals", .glo "Turning", .cls "Turning", .noat "Turning" "turned", .glo "Book", .cls "Book", .noat "Book" "greatest", .noat "Book" "rows", .glo "Mixture", .cls "Mixture", .mkr "Mixture", .noat "Mixture" "rows", .glo "HornError", .glo "BadName", .glo "BadLiteral", .glo "BothSigns", .glo "TooMany", .glo "NoClause", .glo "BadNumber", .glo "BadCount", .str "LETTERS" "abcdefghijklmnopqrstuvwxyz", .str "SIGNS" "abcdefghijklmnopqrstuvwxyz0123456789", .int "NAME_SIZE" 8, .free "NotImplemented", .free "ValueError", .free "all", .free "bool", .free "classmethod", .free "dict", .free "int", .free "isinstance", .free "iter", .free "len", .free "list", .free "property", .free "range", .free "sorted", .free "staticmethod", .free "str", .free "sum", .free "tuple", .free "zip", .exm "BadName" "BadNumber" false, .exm "BadLiteral" "BadNumber" false, .exm "BothSigns" "BadNumber" false, .exm "TooMany" "BadNumber" false, .exm "NoClause" "BadNumber" false, .exm "BadNumber" "BadNumber" true, .exm "BadCount" "BadNumber" false, .exm "BadName" "BadCount" false, .exm "BadLiteral" "BadCount" false, .exm "BothSigns" "BadCount" false, .exm "TooMany" "BadCount" false, .exm "NoClause" "BadCount" false, .exm "BadNumber" "BadCount" false, .exm "BadCount" "BadCount" true]
def ex : List (PySem.W.Frag → Bool) := [fun K => Hk.ownB K (ga K "Mixture") "__iter__", fun K => Hk.ownB K (ga K "Mixture") "__len__", fun K => Hk.ownB K (ga K "Mixture") "__contains__", fun K => Hk.ownB K (ga K "Mixture") "__getitem__", fun K => Hk.ownB K (ga K "Mixture") "__setitem__", fun K => Hk.ownB K (ga K "Mixture") "__eq__", fun K => Hk.ownB K (ga K "Mixture") "__iadd__", fun K => Hk.ownB K (ga K "Mixture") "__add__", fun K => Hk.ownB K (ga K "Mixture") "__mul__", fun K => Hk.ownB K (ga K "Mixture") "__rmul__", fun K => Hk.mixB K (ga K "Mixture") "__mul__" "__rmul__" "__imul__", fun K => PySem.W.noSeq K (ga K "Mixture"), fun K => Hk.propB K (ga K "Mixture") "total", fun K => Hk.insKB K (ga K "Clause"), fun K => Hk.kitB K (.type "str") (.type "str") true, fun K => Hk.kitB K (.type "str") (.ref (ga K "Clause")) false, fun K => Hk.kitB K (.ref (ga K "Clause")) (.ref (ga K "Clause")) true, fun K => Hk.kitB K (.ref (ga K "Clause")) (.ref (ga K "Turning")) false, fun K => Hk.kitB K (.ref (ga K "Clause")) (.ref (ga K "Book")) false, fun K => Hk.kitB K (.ref (ga K "Clause")) (.ref (ga K "Mixture")) false, fun K => Hk.conB K (ga K "Clause") "LIMIT" 6, fun K => Hk.cvalB K (ga K "Clause") "LIMIT" 6, fun K => Hk.insKB K (ga K "Turning"), fun K => Hk.kitB K (.type "str") (.ref (ga K "Turning")) false, fun K => Hk.kitB K (.ref (ga K "Turning")) (.ref (ga K "Clause")) false, fun K => Hk.kitB K (.ref (ga K "Turning")) (.ref (ga K "Turning")) true, fun K => Hk.kitB K (.ref (ga K "Turning")) (.ref (ga K "Book")) false, fun K => Hk.kitB K (.ref (ga K "Turning")) (.ref (ga K "Mixture")) false, fun K => Hk.conB K (ga K "Turning") "LIMIT" 12, fun K => Hk.cvalB K (ga K "Turning") "LIMIT" 12, fun K => Hk.insKB K (ga K "Book"), fun K => Hk.kitB K (.type "str") (.ref (ga K "Book")) false, fun K => Hk.kitB K (.ref (ga K "Book")) (.ref (ga K "Clause")) false, fun K => Hk.kitB K (.ref (ga K "Book")) (.ref (ga K "Turning")) false, fun K => Hk.kitB K (.ref (ga K "Book")) (.ref (ga K "Book")) true, fun K => Hk.kitB K (.ref (ga K "Book")) (.ref (ga K "Mixture")) false, fun K => Hk.conB K (ga K "Book") "LIMIT" 24, fun K => Hk.cvalB K (ga K "Book") "LIMIT" 24, fun K => Hk.conB K (ga K "Book") "NAMES" 12, fun K => Hk.cvalB K (ga K "Book") "NAMES" 12, fun K => Hk.conB K (ga K "Book") "NUMBERS" 999, fun K => Hk.cvalB K (ga K "Book") "NUMBERS" 999, fun K => Hk.insKB K (ga K "Mixture"), fun K => Hk.kitB K (.type "str") (.ref (ga K "Mixture")) false, fun K => Hk.kitB K (.ref (ga K "Mixture")) (.ref (ga K "Clause")) false, fun K => Hk.kitB K (.ref (ga K "Mixture")) (.ref (ga K "Turning")) false, fun K => Hk.kitB K (.ref (ga K "Mixture")) (.ref (ga K "Book")) false, fun K => Hk.kitB K (.ref (ga K "Mixture")) (.ref (ga K "Mixture")) true, fun K => Hk.conB K (ga K "Mixture") "LIMIT" 1000000, fun K => Hk.cvalB K (ga K "Mixture") "LIMIT" 1000000, fun K => excCB K (ga K "BadNumber"), fun K => Hk.kitB K (.ref (ga K "BadNumber")) (.ref (ga K "HornError")) true, fun K => Hk.kitB K (.ref (ga K "BadNumber")) (.ref (ga K "NoClause")) false, fun K => excCB K (ga K "BadCount"), fun K => Hk.kitB K (.ref (ga K "BadCount")) (.ref (ga K "HornError")) true]
def loose : List PySem.Str := (["_wall", "HornError", "BadName", "BadLiteral", "BothSigns", "TooMany", "NoClause", "BadNumber", "BadCount", "LETTERS", "SIGNS", "NAME_SIZE"] : List PySem.Str) ++ (["is_name", "is_literal", "name_of", "negated", "ordered_names", "in_order", "twice_named", "checked_facts", "names_of", "Clause", "turned_literal", "turned_clause"] : List PySem.Str) ++ (["differing", "comes_before", "Turning", "names_in", "check_sizes", "Book", "check_number", "tally", "summed", "multiplied_counts", "Mixture", "_law_source"] : List PySem.Str) ++ (["_law_take", "_law_same", "_law_mixed", "_law_error", "_law_are", "_law_drawn", "_law_outside", "_law_settings", "_law_sum", "_law_times", "_law_over", "_law_added"] : List PySem.Str) ++ (["_law_multiplied", "_law_equal", "_law_in_place"] : List PySem.Str)
abbrev R : PySem.W.OpenRow := PySem.W.OpenLaw.row PySem.Challenge.rw_renamedhorn_k42_mixtures_counted
abbrev hk : PySem.W.Hook := hookV 6 fa ex its
def ob (s : PySem.W.SharedT) : AlZ := obsV 6 fa ex its (HandSHeadRun.getT s)
theorem ob_eq (s : PySem.W.SharedT) : ob s = hk.obs s.abs := obV_eq s
end Hd
noncomputable section
def kh (P : PySem.Params) (x : PySem.Str) (n : Nat) (v : PySem.Value) : PySem.DictEntry := ⟨PySem.PyData.keyHash P x, .str x n, v⟩
namespace Hs
open PySem PySem.W PySem.Calls PyProof.Rows HandSHeadRun
def z1 (P : Params) : Obj := ⟨(.type "tuple"), none, (.seq #[] 0), #[]⟩
def z2 (P : Params) : Obj := ⟨.none, none, (.fields #[]), #[]⟩
def z3 (P : Params) : Obj := ⟨(.type "code"), none, (.fields #[(.str "<module>" 182), (.str "<module>" 183), (.str "/claim/cut.py" 184), (.int 1 0), (.int 0 0), (.int 0 0), (.int 0 0), (.int 0 0), (.ref 11), (.bool false), (.int 181 0), (.ref 12), .none, .none, .none, .none, (.int 185 0), (.int 1 0), (.str "/claim/cut.py" 186)]), #[]⟩
def z4 (P : Params) : Obj := ⟨(.type "frame"), none, .plain, #[(some (.ref 13)), (some (.ref 3)), (some (.ref 3)), none, (some (.str "__main__" 164)), none, (some (.ref 0))]⟩
def tr0 (P : Params) : PySem.W.BT := (.node (PySem.W.boot_o_0 P) (.node (PySem.W.boot_o_1 P) (.node (PySem.W.boot_o_3 P) (.node (PySem.W.boot_o_7 P) .nil .nil) (.node (z1 P) .nil .nil)) (.node (PySem.W.boot_o_5 P) (.node (PySem.W.boot_o_9 P) .nil .nil) (.node (z3 P) .nil .nil))) (.node (PySem.W.boot_o_2 P) (.node (PySem.W.boot_o_4 P) (.node (PySem.W.boot_o_8 P) .nil .nil) (.node (z2 P) .nil .nil)) (.node (PySem.W.boot_o_6 P) (.node (PySem.W.boot_o_10 P) .nil .nil) (.node (z4 P) .nil .nil))))
def z261 (P : Params) : Obj := ⟨(.type "dict"), none, (.dict #[(kh P "__name__" 165 (.str "renamedhorn.clauses" 474)), (kh P "__doc__" 166 .none), (kh P "__package__" 167 .none), (kh P "__loader__" 168 (.builtin "__main__.__loader__#opaque")), (kh P "__spec__" 169 .none), (kh P "__annotations__" 170 (.ref 6)), (kh P "__builtins__" 171 (.ref 4)), (kh P "__file__" 173 (.str "/claim/cut.py" 172)), (kh P "__cached__" 174 .none), (kh P "_wall" 193 (.ref 21)), (kh P "HornError" 213 (.ref 31)), (kh P "BadName" 240 (.ref 53)), (kh P "BadLiteral" 267 (.ref 74)), (kh P "BothSigns" 294 (.ref 95)), (kh P "TooMany" 321 (.ref 116)), (kh P "NoClause" 348 (.ref 137)), (kh P "BadNumber" 375 (.ref 158)), (kh P "BadCount" 402 (.ref 179)), (kh P "LETTERS" 406 (.str "abcdefghijklmnopqrstuvwxyz" 405)), (kh P "SIGNS" 408 (.str "abcdefghijklmnopqrstuvwxyz0123456789" 407)), (kh P "NAME_SIZE" 410 (.int 8 409)), (kh P "is_name" 416 (.ref 186)), (kh P "is_literal" 423 (.ref 193)), (kh P "name_of" 430 (.ref 200)), (kh P "negated" 437 (.ref 207)), (kh P "ordered_names" 443 (.ref 212)), (kh P "in_order" 449 (.ref 217)), (kh P "twice_named" 457 (.ref 224)), (kh P "checked_facts" 467 (.ref 231)), (kh P "names_of" 473 (.ref 236)), (kh P "Clause" 593 (.ref 331))] 31), #[]⟩
def z262 (P : Params) : Obj := ⟨.none, none, (.fields #[(.int 1 0), (.int 0 0), (.ref 20), (.int 5 0), (.int 0 0), (.ref 27), (.int 7 0), (.int 0 0), (.ref 41), (.int 12 0), (.int 0 0), (.ref 62), (.int 17 0), (.int 0 0), (.ref 83), (.int 22 0), (.int 0 0), (.ref 104), (.int 27 0), (.int 0 0), (.ref 125), (.int 32 0), (.int 0 0), (.ref 146), (.int 37 0), (.int 0 0), (.ref 167), (.int 46 0), (.int 0 0), (.ref 185), (.int 52 0), (.int 0 0), (.ref 192), (.int 56 0), (.int 0 0), (.ref 199), (.int 62 0), (.int 0 0), (.ref 206), (.int 68 0), (.int 0 0), (.ref 211), (.int 77 0), (.int 0 0), (.ref 216), (.int 89 0), (.int 0 0), (.ref 223), (.int 94 0), (.int 0 0), (.ref 230), (.int 102 0), (.int 0 0), (.ref 235), (.int 105 0), (.int 0 0), (.ref 242)]), #[]⟩
def z7 (P : Params) : Obj := ⟨(.type "tuple"), none, (.seq #[] 0), #[]⟩
def z8 (P : Params) : Obj := ⟨.none, none, (.fields #[]), #[]⟩
def z9 (P : Params) : Obj := ⟨(.type "tuple"), none, (.seq #[(.str "k" 190)] 0), #[]⟩
def z10 (P : Params) : Obj := ⟨(.type "tuple"), none, (.seq #[] 0), #[]⟩
def z11 (P : Params) : Obj := ⟨.none, none, (.func ⟨"_wall", "_wall", L2.defArgs (Hd.top 0), .stmts (L2.defBody (Hd.top 0)), L2.defScope (Hd.top 0), 0, [], .none, .none, .none, .none, none, .none, .none, 0⟩), #[]⟩
def z12 (P : Params) : Obj := ⟨(.type "code"), none, (.fields #[(.str "_wall" 187), (.str "_wall" 188), (.str "/claim/cut.py" 189), (.int 1 0), (.int 1 0), (.int 0 0), (.int 0 0), (.int 3 0), (.ref 15), (.bool true), (.int 181 0), (.ref 16), .none, (.ref 17), (.ref 18), (.ref 19), (.int 191 0), (.int 1 0), (.str "/claim/cut.py" 192)]), #[]⟩
def z13 (P : Params) : Obj := ⟨(.type "function"), none, (.func ⟨"_wall", "_wall", L2.defArgs (Hd.top 0), .stmts (L2.defBody (Hd.top 0)), L2.defScope (Hd.top 0), 3, [], .none, .none, .none, (.str "__main__" 164), none, (.ref 20), .none, 0⟩), #[]⟩
def z14 (P : Params) : Obj := ⟨(.type "tuple"), none, (.seq #[(.type "ValueError")] 0), #[]⟩
def z15 (P : Params) : Obj := ⟨(.type "builtin_function_or_method"), none, (.fields #[(.builtin "type.__prepare__"), (.type "type")]), #[]⟩
def z16 (P : Params) : Obj := ⟨(.type "dict"), none, (.dict #[(kh P "__module__" 203 (.str "renamedhorn.errors" 194)), (kh P "__qualname__" 205 (.str "HornError" 204)), (kh P "__firstlineno__" 207 (.int 5 206)), (kh P "__static_attributes__" 208 (.ref 29))] 4), #[]⟩
def z17 (P : Params) : Obj := ⟨(.type "tuple"), none, (.seq #[] 0), #[]⟩
def z18 (P : Params) : Obj := ⟨.none, none, (.fields #[]), #[]⟩
def z19 (P : Params) : Obj := ⟨(.type "code"), none, (.fields #[(.str "HornError" 198), (.str "HornError" 199), (.str "/claim/cut.py" 200), (.int 5 0), (.int 0 0), (.int 0 0), (.int 0 0), (.int 0 0), (.ref 25), (.bool false), (.int 181 0), (.ref 26), .none, .none, .none, .none, (.int 201 0), (.int 5 0), (.str "/claim/cut.py" 202)]), #[]⟩
def z20 (P : Params) : Obj := ⟨(.type "frame"), none, .plain, #[(some (.ref 27)), (some (.ref 3)), (some (.ref 24)), none, (some (.str "renamedhorn.errors" 194)), none, (some (.ref 0))]⟩
def z21 (P : Params) : Obj := ⟨(.type "tuple"), none, (.seq #[] 0), #[]⟩
def z22 (P : Params) : Obj := ⟨(.type "dict"), none, (.dict #[(kh P "__module__" 203 (.str "renamedhorn.errors" 194)), (kh P "__firstlineno__" 207 (.int 5 206)), (kh P "__static_attributes__" 208 (.ref 29)), (kh P "__weakref__" 210 (.ref 32)), (kh P "__doc__" 211 .none)] 3), #[]⟩
def z180 (P : Params) : Obj := ⟨(.type "type"), none, (.cls ⟨"HornError", [(.type "ValueError")], [(.ref 31), (.type "ValueError"), (.type "Exception"), (.type "BaseException"), (.type "object")], 30, "HornError", true, [], [(.ref 53), (.ref 74), (.ref 95), (.ref 116), (.ref 137), (.ref 158), (.ref 179)], false, none, false⟩), #[(some (.ref 22)), none, (some (.str "HornError" 196)), (some (.str "HornError" 204)), (some (.builtin "ValueError.__new__")), (some (.bool true))]⟩
def z24 (P : Params) : Obj := ⟨(.type "getset_descriptor"), none, (.fields #[(.str "__weakref__" 209), (.ref 31), (.builtin "ExceptionGroup.__weakref__"), .none]), #[]⟩
def z25 (P : Params) : Obj := ⟨(.type "super"), none, (.fields #[(.ref 31), (.ref 31), (.ref 31)]), #[]⟩
def z26 (P : Params) : Obj := ⟨(.type "builtin_function_or_method"), none, (.fields #[(.builtin "object.__init_subclass__"), (.ref 31)]), #[]⟩
def z31 (P : Params) : Obj := ⟨(.type "tuple"), none, (.seq #[(.ref 31)] 0), #[]⟩
def z32 (P : Params) : Obj := ⟨(.type "builtin_function_or_method"), none, (.fields #[(.builtin "type.__prepare__"), (.type "type")]), #[]⟩
def z33 (P : Params) : Obj := ⟨(.type "dict"), none, (.dict #[(kh P "__module__" 221 (.str "renamedhorn.errors" 194)), (kh P "__qualname__" 223 (.str "BadName" 222)), (kh P "__firstlineno__" 225 (.int 7 224)), (kh P "__init__" 234 (.ref 50)), (kh P "__static_attributes__" 236 (.ref 51)), (kh P "__classcell__" 237 (.ref 38))] 6), #[]⟩
def z34 (P : Params) : Obj := ⟨(.type "cell"), none, (.cell (some (.ref 53))), #[]⟩
def z35 (P : Params) : Obj := ⟨(.type "tuple"), none, (.seq #[] 0), #[]⟩
def z36 (P : Params) : Obj := ⟨.none, none, (.fields #[(.int 9 0), (.int 4 0), (.ref 49)]), #[]⟩
def z37 (P : Params) : Obj := ⟨(.type "code"), none, (.fields #[(.str "BadName" 216), (.str "BadName" 217), (.str "/claim/cut.py" 218), (.int 7 0), (.int 0 0), (.int 0 0), (.int 0 0), (.int 0 0), (.ref 39), (.bool false), (.int 181 0), (.ref 40), .none, .none, .none, .none, (.int 219 0), (.int 7 0), (.str "/claim/cut.py" 220)]), #[]⟩
def z38 (P : Params) : Obj := ⟨(.type "frame"), none, .plain, #[(some (.ref 41)), (some (.ref 3)), (some (.ref 37)), none, (some (.str "renamedhorn.errors" 194)), none, (some (.ref 0))]⟩
def z39 (P : Params) : Obj := ⟨(.type "tuple"), none, (.seq #[(.ref 38)] 0), #[]⟩
def z40 (P : Params) : Obj := ⟨(.type "tuple"), none, (.seq #[(.str "__class__" 229)] 0), #[]⟩
def z41 (P : Params) : Obj := ⟨.none, none, (.fields #[]), #[]⟩
def z42 (P : Params) : Obj := ⟨(.type "tuple"), none, (.seq #[(.str "self" 230), (.str "text" 231)] 0), #[]⟩
def z43 (P : Params) : Obj := ⟨(.type "tuple"), none, (.seq #[] 0), #[]⟩
def z44 (P : Params) : Obj := ⟨.none, none, (.func ⟨"__init__", "BadName.__init__", L2.defArgs (L2.inClass (Hd.top 3) 0), .stmts (L2.defBody (L2.inClass (Hd.top 3) 0)), L2.defScope (L2.inClass (Hd.top 3) 0), 0, [], .none, .none, .none, .none, none, .none, .none, 0⟩), #[]⟩
def z45 (P : Params) : Obj := ⟨(.type "code"), none, (.fields #[(.str "__init__" 226), (.str "BadName.__init__" 227), (.str "/claim/cut.py" 228), (.int 9 0), (.int 2 0), (.int 0 0), (.int 0 0), (.int 3 0), (.ref 44), (.bool true), (.int 181 0), (.ref 45), .none, (.ref 46), (.ref 47), (.ref 48), (.int 232 0), (.int 9 0), (.str "/claim/cut.py" 233)]), #[]⟩
def z46 (P : Params) : Obj := ⟨(.type "function"), none, (.func ⟨"__init__", "BadName.__init__", L2.defArgs (L2.inClass (Hd.top 3) 0), .stmts (L2.defBody (L2.inClass (Hd.top 3) 0)), L2.defScope (L2.inClass (Hd.top 3) 0), 3, [("__class__", 38)], .none, .none, .none, (.str "renamedhorn.errors" 194), none, (.ref 49), (.ref 43), 0⟩), #[]⟩
def z47 (P : Params) : Obj := ⟨(.type "tuple"), none, (.seq #[(.str "text" 235)] 0), #[]⟩
def z48 (P : Params) : Obj := ⟨(.type "dict"), none, (.dict #[(kh P "__module__" 221 (.str "renamedhorn.errors" 194)), (kh P "__firstlineno__" 225 (.int 7 224)), (kh P "__init__" 234 (.ref 50)), (kh P "__static_attributes__" 236 (.ref 51)), (kh P "__doc__" 238 .none)] 3), #[]⟩
def z49 (P : Params) : Obj := ⟨(.type "type"), none, (.cls ⟨"BadName", [(.ref 31)], [(.ref 53), (.ref 31), (.type "ValueError"), (.type "Exception"), (.type "BaseException"), (.type "object")], 52, "BadName", true, [], [], false, none, false⟩), #[(some (.ref 35)), none, (some (.str "BadName" 214)), (some (.str "BadName" 222)), (some (.builtin "ValueError.__new__")), (some (.bool true))]⟩
def z50 (P : Params) : Obj := ⟨(.type "super"), none, (.fields #[(.ref 53), (.ref 53), (.ref 53)]), #[]⟩
def z51 (P : Params) : Obj := ⟨(.type "builtin_function_or_method"), none, (.fields #[(.builtin "object.__init_subclass__"), (.ref 53)]), #[]⟩
def z56 (P : Params) : Obj := ⟨(.type "tuple"), none, (.seq #[(.ref 31)] 0), #[]⟩
def z57 (P : Params) : Obj := ⟨(.type "builtin_function_or_method"), none, (.fields #[(.builtin "type.__prepare__"), (.type "type")]), #[]⟩
def z58 (P : Params) : Obj := ⟨(.type "dict"), none, (.dict #[(kh P "__module__" 248 (.str "renamedhorn.errors" 194)), (kh P "__qualname__" 250 (.str "BadLiteral" 249)), (kh P "__firstlineno__" 252 (.int 12 251)), (kh P "__init__" 261 (.ref 71)), (kh P "__static_attributes__" 263 (.ref 72)), (kh P "__classcell__" 264 (.ref 59))] 6), #[]⟩
def z59 (P : Params) : Obj := ⟨(.type "cell"), none, (.cell (some (.ref 74))), #[]⟩
def z60 (P : Params) : Obj := ⟨(.type "tuple"), none, (.seq #[] 0), #[]⟩
def z61 (P : Params) : Obj := ⟨.none, none, (.fields #[(.int 14 0), (.int 4 0), (.ref 70)]), #[]⟩
def z62 (P : Params) : Obj := ⟨(.type "code"), none, (.fields #[(.str "BadLiteral" 243), (.str "BadLiteral" 244), (.str "/claim/cut.py" 245), (.int 12 0), (.int 0 0), (.int 0 0), (.int 0 0), (.int 0 0), (.ref 60), (.bool false), (.int 181 0), (.ref 61), .none, .none, .none, .none, (.int 246 0), (.int 12 0), (.str "/claim/cut.py" 247)]), #[]⟩
def z63 (P : Params) : Obj := ⟨(.type "frame"), none, .plain, #[(some (.ref 62)), (some (.ref 3)), (some (.ref 58)), none, (some (.str "renamedhorn.errors" 194)), none, (some (.ref 0))]⟩
def z64 (P : Params) : Obj := ⟨(.type "tuple"), none, (.seq #[(.ref 59)] 0), #[]⟩
def z65 (P : Params) : Obj := ⟨(.type "tuple"), none, (.seq #[(.str "__class__" 256)] 0), #[]⟩
def z66 (P : Params) : Obj := ⟨.none, none, (.fields #[]), #[]⟩
def z67 (P : Params) : Obj := ⟨(.type "tuple"), none, (.seq #[(.str "self" 257), (.str "text" 258)] 0), #[]⟩
def z68 (P : Params) : Obj := ⟨(.type "tuple"), none, (.seq #[] 0), #[]⟩
def z69 (P : Params) : Obj := ⟨.none, none, (.func ⟨"__init__", "BadLiteral.__init__", L2.defArgs (L2.inClass (Hd.top 4) 0), .stmts (L2.defBody (L2.inClass (Hd.top 4) 0)), L2.defScope (L2.inClass (Hd.top 4) 0), 0, [], .none, .none, .none, .none, none, .none, .none, 0⟩), #[]⟩
def z70 (P : Params) : Obj := ⟨(.type "code"), none, (.fields #[(.str "__init__" 253), (.str "BadLiteral.__init__" 254), (.str "/claim/cut.py" 255), (.int 14 0), (.int 2 0), (.int 0 0), (.int 0 0), (.int 3 0), (.ref 65), (.bool true), (.int 181 0), (.ref 66), .none, (.ref 67), (.ref 68), (.ref 69), (.int 259 0), (.int 14 0), (.str "/claim/cut.py" 260)]), #[]⟩
def z71 (P : Params) : Obj := ⟨(.type "function"), none, (.func ⟨"__init__", "BadLiteral.__init__", L2.defArgs (L2.inClass (Hd.top 4) 0), .stmts (L2.defBody (L2.inClass (Hd.top 4) 0)), L2.defScope (L2.inClass (Hd.top 4) 0), 3, [("__class__", 59)], .none, .none, .none, (.str "renamedhorn.errors" 194), none, (.ref 70), (.ref 64), 0⟩), #[]⟩
def z72 (P : Params) : Obj := ⟨(.type "tuple"), none, (.seq #[(.str "text" 262)] 0), #[]⟩
def z73 (P : Params) : Obj := ⟨(.type "dict"), none, (.dict #[(kh P "__module__" 248 (.str "renamedhorn.errors" 194)), (kh P "__firstlineno__" 252 (.int 12 251)), (kh P "__init__" 261 (.ref 71)), (kh P "__static_attributes__" 263 (.ref 72)), (kh P "__doc__" 265 .none)] 3), #[]⟩
def z74 (P : Params) : Obj := ⟨(.type "type"), none, (.cls ⟨"BadLiteral", [(.ref 31)], [(.ref 74), (.ref 31), (.type "ValueError"), (.type "Exception"), (.type "BaseException"), (.type "object")], 73, "BadLiteral", true, [], [], false, none, false⟩), #[(some (.ref 56)), none, (some (.str "BadLiteral" 241)), (some (.str "BadLiteral" 249)), (some (.builtin "ValueError.__new__")), (some (.bool true))]⟩
def z75 (P : Params) : Obj := ⟨(.type "super"), none, (.fields #[(.ref 74), (.ref 74), (.ref 74)]), #[]⟩
def z76 (P : Params) : Obj := ⟨(.type "builtin_function_or_method"), none, (.fields #[(.builtin "object.__init_subclass__"), (.ref 74)]), #[]⟩
def z81 (P : Params) : Obj := ⟨(.type "tuple"), none, (.seq #[(.ref 31)] 0), #[]⟩
def z82 (P : Params) : Obj := ⟨(.type "builtin_function_or_method"), none, (.fields #[(.builtin "type.__prepare__"), (.type "type")]), #[]⟩
def z83 (P : Params) : Obj := ⟨(.type "dict"), none, (.dict #[(kh P "__module__" 275 (.str "renamedhorn.errors" 194)), (kh P "__qualname__" 277 (.str "BothSigns" 276)), (kh P "__firstlineno__" 279 (.int 17 278)), (kh P "__init__" 288 (.ref 92)), (kh P "__static_attributes__" 290 (.ref 93)), (kh P "__classcell__" 291 (.ref 80))] 6), #[]⟩
def z84 (P : Params) : Obj := ⟨(.type "cell"), none, (.cell (some (.ref 95))), #[]⟩
def z85 (P : Params) : Obj := ⟨(.type "tuple"), none, (.seq #[] 0), #[]⟩
def z86 (P : Params) : Obj := ⟨.none, none, (.fields #[(.int 19 0), (.int 4 0), (.ref 91)]), #[]⟩
def z87 (P : Params) : Obj := ⟨(.type "code"), none, (.fields #[(.str "BothSigns" 270), (.str "BothSigns" 271), (.str "/claim/cut.py" 272), (.int 17 0), (.int 0 0), (.int 0 0), (.int 0 0), (.int 0 0), (.ref 81), (.bool false), (.int 181 0), (.ref 82), .none, .none, .none, .none, (.int 273 0), (.int 17 0), (.str "/claim/cut.py" 274)]), #[]⟩
def z88 (P : Params) : Obj := ⟨(.type "frame"), none, .plain, #[(some (.ref 83)), (some (.ref 3)), (some (.ref 79)), none, (some (.str "renamedhorn.errors" 194)), none, (some (.ref 0))]⟩
def z89 (P : Params) : Obj := ⟨(.type "tuple"), none, (.seq #[(.ref 80)] 0), #[]⟩
def z90 (P : Params) : Obj := ⟨(.type "tuple"), none, (.seq #[(.str "__class__" 283)] 0), #[]⟩
def z91 (P : Params) : Obj := ⟨.none, none, (.fields #[]), #[]⟩
def z92 (P : Params) : Obj := ⟨(.type "tuple"), none, (.seq #[(.str "self" 284), (.str "name" 285)] 0), #[]⟩
def z93 (P : Params) : Obj := ⟨(.type "tuple"), none, (.seq #[] 0), #[]⟩
def z94 (P : Params) : Obj := ⟨.none, none, (.func ⟨"__init__", "BothSigns.__init__", L2.defArgs (L2.inClass (Hd.top 5) 0), .stmts (L2.defBody (L2.inClass (Hd.top 5) 0)), L2.defScope (L2.inClass (Hd.top 5) 0), 0, [], .none, .none, .none, .none, none, .none, .none, 0⟩), #[]⟩
def z95 (P : Params) : Obj := ⟨(.type "code"), none, (.fields #[(.str "__init__" 280), (.str "BothSigns.__init__" 281), (.str "/claim/cut.py" 282), (.int 19 0), (.int 2 0), (.int 0 0), (.int 0 0), (.int 3 0), (.ref 86), (.bool true), (.int 181 0), (.ref 87), .none, (.ref 88), (.ref 89), (.ref 90), (.int 286 0), (.int 19 0), (.str "/claim/cut.py" 287)]), #[]⟩
def z96 (P : Params) : Obj := ⟨(.type "function"), none, (.func ⟨"__init__", "BothSigns.__init__", L2.defArgs (L2.inClass (Hd.top 5) 0), .stmts (L2.defBody (L2.inClass (Hd.top 5) 0)), L2.defScope (L2.inClass (Hd.top 5) 0), 3, [("__class__", 80)], .none, .none, .none, (.str "renamedhorn.errors" 194), none, (.ref 91), (.ref 85), 0⟩), #[]⟩
def z97 (P : Params) : Obj := ⟨(.type "tuple"), none, (.seq #[(.str "name" 289)] 0), #[]⟩
def z98 (P : Params) : Obj := ⟨(.type "dict"), none, (.dict #[(kh P "__module__" 275 (.str "renamedhorn.errors" 194)), (kh P "__firstlineno__" 279 (.int 17 278)), (kh P "__init__" 288 (.ref 92)), (kh P "__static_attributes__" 290 (.ref 93)), (kh P "__doc__" 292 .none)] 3), #[]⟩
def z99 (P : Params) : Obj := ⟨(.type "type"), none, (.cls ⟨"BothSigns", [(.ref 31)], [(.ref 95), (.ref 31), (.type "ValueError"), (.type "Exception"), (.type "BaseException"), (.type "object")], 94, "BothSigns", true, [], [], false, none, false⟩), #[(some (.ref 77)), none, (some (.str "BothSigns" 268)), (some (.str "BothSigns" 276)), (some (.builtin "ValueError.__new__")), (some (.bool true))]⟩
def z100 (P : Params) : Obj := ⟨(.type "super"), none, (.fields #[(.ref 95), (.ref 95), (.ref 95)]), #[]⟩
def z101 (P : Params) : Obj := ⟨(.type "builtin_function_or_method"), none, (.fields #[(.builtin "object.__init_subclass__"), (.ref 95)]), #[]⟩
def z106 (P : Params) : Obj := ⟨(.type "tuple"), none, (.seq #[(.ref 31)] 0), #[]⟩
def z107 (P : Params) : Obj := ⟨(.type "builtin_function_or_method"), none, (.fields #[(.builtin "type.__prepare__"), (.type "type")]), #[]⟩
def z108 (P : Params) : Obj := ⟨(.type "dict"), none, (.dict #[(kh P "__module__" 302 (.str "renamedhorn.errors" 194)), (kh P "__qualname__" 304 (.str "TooMany" 303)), (kh P "__firstlineno__" 306 (.int 22 305)), (kh P "__init__" 315 (.ref 113)), (kh P "__static_attributes__" 317 (.ref 114)), (kh P "__classcell__" 318 (.ref 101))] 6), #[]⟩
def z109 (P : Params) : Obj := ⟨(.type "cell"), none, (.cell (some (.ref 116))), #[]⟩
def z110 (P : Params) : Obj := ⟨(.type "tuple"), none, (.seq #[] 0), #[]⟩
def z111 (P : Params) : Obj := ⟨.none, none, (.fields #[(.int 24 0), (.int 4 0), (.ref 112)]), #[]⟩
def z112 (P : Params) : Obj := ⟨(.type "code"), none, (.fields #[(.str "TooMany" 297), (.str "TooMany" 298), (.str "/claim/cut.py" 299), (.int 22 0), (.int 0 0), (.int 0 0), (.int 0 0), (.int 0 0), (.ref 102), (.bool false), (.int 181 0), (.ref 103), .none, .none, .none, .none, (.int 300 0), (.int 22 0), (.str "/claim/cut.py" 301)]), #[]⟩
def z113 (P : Params) : Obj := ⟨(.type "frame"), none, .plain, #[(some (.ref 104)), (some (.ref 3)), (some (.ref 100)), none, (some (.str "renamedhorn.errors" 194)), none, (some (.ref 0))]⟩
def z114 (P : Params) : Obj := ⟨(.type "tuple"), none, (.seq #[(.ref 101)] 0), #[]⟩
def z115 (P : Params) : Obj := ⟨(.type "tuple"), none, (.seq #[(.str "__class__" 310)] 0), #[]⟩
def z116 (P : Params) : Obj := ⟨.none, none, (.fields #[]), #[]⟩
def z117 (P : Params) : Obj := ⟨(.type "tuple"), none, (.seq #[(.str "self" 311), (.str "limit" 312)] 0), #[]⟩
def z118 (P : Params) : Obj := ⟨(.type "tuple"), none, (.seq #[] 0), #[]⟩
def z119 (P : Params) : Obj := ⟨.none, none, (.func ⟨"__init__", "TooMany.__init__", L2.defArgs (L2.inClass (Hd.top 6) 0), .stmts (L2.defBody (L2.inClass (Hd.top 6) 0)), L2.defScope (L2.inClass (Hd.top 6) 0), 0, [], .none, .none, .none, .none, none, .none, .none, 0⟩), #[]⟩
def z120 (P : Params) : Obj := ⟨(.type "code"), none, (.fields #[(.str "__init__" 307), (.str "TooMany.__init__" 308), (.str "/claim/cut.py" 309), (.int 24 0), (.int 2 0), (.int 0 0), (.int 0 0), (.int 3 0), (.ref 107), (.bool true), (.int 181 0), (.ref 108), .none, (.ref 109), (.ref 110), (.ref 111), (.int 313 0), (.int 24 0), (.str "/claim/cut.py" 314)]), #[]⟩
def z121 (P : Params) : Obj := ⟨(.type "function"), none, (.func ⟨"__init__", "TooMany.__init__", L2.defArgs (L2.inClass (Hd.top 6) 0), .stmts (L2.defBody (L2.inClass (Hd.top 6) 0)), L2.defScope (L2.inClass (Hd.top 6) 0), 3, [("__class__", 101)], .none, .none, .none, (.str "renamedhorn.errors" 194), none, (.ref 112), (.ref 106), 0⟩), #[]⟩
def z122 (P : Params) : Obj := ⟨(.type "tuple"), none, (.seq #[(.str "limit" 316)] 0), #[]⟩
def z123 (P : Params) : Obj := ⟨(.type "dict"), none, (.dict #[(kh P "__module__" 302 (.str "renamedhorn.errors" 194)), (kh P "__firstlineno__" 306 (.int 22 305)), (kh P "__init__" 315 (.ref 113)), (kh P "__static_attributes__" 317 (.ref 114)), (kh P "__doc__" 319 .none)] 3), #[]⟩
def z124 (P : Params) : Obj := ⟨(.type "type"), none, (.cls ⟨"TooMany", [(.ref 31)], [(.ref 116), (.ref 31), (.type "ValueError"), (.type "Exception"), (.type "BaseException"), (.type "object")], 115, "TooMany", true, [], [], false, none, false⟩), #[(some (.ref 98)), none, (some (.str "TooMany" 295)), (some (.str "TooMany" 303)), (some (.builtin "ValueError.__new__")), (some (.bool true))]⟩
def z125 (P : Params) : Obj := ⟨(.type "super"), none, (.fields #[(.ref 116), (.ref 116), (.ref 116)]), #[]⟩
def z126 (P : Params) : Obj := ⟨(.type "builtin_function_or_method"), none, (.fields #[(.builtin "object.__init_subclass__"), (.ref 116)]), #[]⟩
def z131 (P : Params) : Obj := ⟨(.type "tuple"), none, (.seq #[(.ref 31)] 0), #[]⟩
def z132 (P : Params) : Obj := ⟨(.type "builtin_function_or_method"), none, (.fields #[(.builtin "type.__prepare__"), (.type "type")]), #[]⟩
def z133 (P : Params) : Obj := ⟨(.type "dict"), none, (.dict #[(kh P "__module__" 329 (.str "renamedhorn.errors" 194)), (kh P "__qualname__" 331 (.str "NoClause" 330)), (kh P "__firstlineno__" 333 (.int 27 332)), (kh P "__init__" 342 (.ref 134)), (kh P "__static_attributes__" 344 (.ref 135)), (kh P "__classcell__" 345 (.ref 122))] 6), #[]⟩
def z134 (P : Params) : Obj := ⟨(.type "cell"), none, (.cell (some (.ref 137))), #[]⟩
def z135 (P : Params) : Obj := ⟨(.type "tuple"), none, (.seq #[] 0), #[]⟩
def z136 (P : Params) : Obj := ⟨.none, none, (.fields #[(.int 29 0), (.int 4 0), (.ref 133)]), #[]⟩
def z137 (P : Params) : Obj := ⟨(.type "code"), none, (.fields #[(.str "NoClause" 324), (.str "NoClause" 325), (.str "/claim/cut.py" 326), (.int 27 0), (.int 0 0), (.int 0 0), (.int 0 0), (.int 0 0), (.ref 123), (.bool false), (.int 181 0), (.ref 124), .none, .none, .none, .none, (.int 327 0), (.int 27 0), (.str "/claim/cut.py" 328)]), #[]⟩
def z138 (P : Params) : Obj := ⟨(.type "frame"), none, .plain, #[(some (.ref 125)), (some (.ref 3)), (some (.ref 121)), none, (some (.str "renamedhorn.errors" 194)), none, (some (.ref 0))]⟩
def z139 (P : Params) : Obj := ⟨(.type "tuple"), none, (.seq #[(.ref 122)] 0), #[]⟩
def z140 (P : Params) : Obj := ⟨(.type "tuple"), none, (.seq #[(.str "__class__" 337)] 0), #[]⟩
def z141 (P : Params) : Obj := ⟨.none, none, (.fields #[]), #[]⟩
def z142 (P : Params) : Obj := ⟨(.type "tuple"), none, (.seq #[(.str "self" 338), (.str "number" 339)] 0), #[]⟩
def z143 (P : Params) : Obj := ⟨(.type "tuple"), none, (.seq #[] 0), #[]⟩
def z144 (P : Params) : Obj := ⟨.none, none, (.func ⟨"__init__", "NoClause.__init__", L2.defArgs (L2.inClass (Hd.top 7) 0), .stmts (L2.defBody (L2.inClass (Hd.top 7) 0)), L2.defScope (L2.inClass (Hd.top 7) 0), 0, [], .none, .none, .none, .none, none, .none, .none, 0⟩), #[]⟩
def z145 (P : Params) : Obj := ⟨(.type "code"), none, (.fields #[(.str "__init__" 334), (.str "NoClause.__init__" 335), (.str "/claim/cut.py" 336), (.int 29 0), (.int 2 0), (.int 0 0), (.int 0 0), (.int 3 0), (.ref 128), (.bool true), (.int 181 0), (.ref 129), .none, (.ref 130), (.ref 131), (.ref 132), (.int 340 0), (.int 29 0), (.str "/claim/cut.py" 341)]), #[]⟩
def z146 (P : Params) : Obj := ⟨(.type "function"), none, (.func ⟨"__init__", "NoClause.__init__", L2.defArgs (L2.inClass (Hd.top 7) 0), .stmts (L2.defBody (L2.inClass (Hd.top 7) 0)), L2.defScope (L2.inClass (Hd.top 7) 0), 3, [("__class__", 122)], .none, .none, .none, (.str "renamedhorn.errors" 194), none, (.ref 133), (.ref 127), 0⟩), #[]⟩
def z147 (P : Params) : Obj := ⟨(.type "tuple"), none, (.seq #[(.str "number" 343)] 0), #[]⟩
def z148 (P : Params) : Obj := ⟨(.type "dict"), none, (.dict #[(kh P "__module__" 329 (.str "renamedhorn.errors" 194)), (kh P "__firstlineno__" 333 (.int 27 332)), (kh P "__init__" 342 (.ref 134)), (kh P "__static_attributes__" 344 (.ref 135)), (kh P "__doc__" 346 .none)] 3), #[]⟩
def z149 (P : Params) : Obj := ⟨(.type "type"), none, (.cls ⟨"NoClause", [(.ref 31)], [(.ref 137), (.ref 31), (.type "ValueError"), (.type "Exception"), (.type "BaseException"), (.type "object")], 136, "NoClause", true, [], [], false, none, false⟩), #[(some (.ref 119)), none, (some (.str "NoClause" 322)), (some (.str "NoClause" 330)), (some (.builtin "ValueError.__new__")), (some (.bool true))]⟩
def z150 (P : Params) : Obj := ⟨(.type "super"), none, (.fields #[(.ref 137), (.ref 137), (.ref 137)]), #[]⟩
def z151 (P : Params) : Obj := ⟨(.type "builtin_function_or_method"), none, (.fields #[(.builtin "object.__init_subclass__"), (.ref 137)]), #[]⟩
def z156 (P : Params) : Obj := ⟨(.type "tuple"), none, (.seq #[(.ref 31)] 0), #[]⟩
def z157 (P : Params) : Obj := ⟨(.type "builtin_function_or_method"), none, (.fields #[(.builtin "type.__prepare__"), (.type "type")]), #[]⟩
def z158 (P : Params) : Obj := ⟨(.type "dict"), none, (.dict #[(kh P "__module__" 356 (.str "renamedhorn.errors" 194)), (kh P "__qualname__" 358 (.str "BadNumber" 357)), (kh P "__firstlineno__" 360 (.int 32 359)), (kh P "__init__" 369 (.ref 155)), (kh P "__static_attributes__" 371 (.ref 156)), (kh P "__classcell__" 372 (.ref 143))] 6), #[]⟩
def z159 (P : Params) : Obj := ⟨(.type "cell"), none, (.cell (some (.ref 158))), #[]⟩
def z160 (P : Params) : Obj := ⟨(.type "tuple"), none, (.seq #[] 0), #[]⟩
def z161 (P : Params) : Obj := ⟨.none, none, (.fields #[(.int 34 0), (.int 4 0), (.ref 154)]), #[]⟩
def z162 (P : Params) : Obj := ⟨(.type "code"), none, (.fields #[(.str "BadNumber" 351), (.str "BadNumber" 352), (.str "/claim/cut.py" 353), (.int 32 0), (.int 0 0), (.int 0 0), (.int 0 0), (.int 0 0), (.ref 144), (.bool false), (.int 181 0), (.ref 145), .none, .none, .none, .none, (.int 354 0), (.int 32 0), (.str "/claim/cut.py" 355)]), #[]⟩
def z163 (P : Params) : Obj := ⟨(.type "frame"), none, .plain, #[(some (.ref 146)), (some (.ref 3)), (some (.ref 142)), none, (some (.str "renamedhorn.errors" 194)), none, (some (.ref 0))]⟩
def z164 (P : Params) : Obj := ⟨(.type "tuple"), none, (.seq #[(.ref 143)] 0), #[]⟩
def z165 (P : Params) : Obj := ⟨(.type "tuple"), none, (.seq #[(.str "__class__" 364)] 0), #[]⟩
def z166 (P : Params) : Obj := ⟨.none, none, (.fields #[]), #[]⟩
def z167 (P : Params) : Obj := ⟨(.type "tuple"), none, (.seq #[(.str "self" 365), (.str "number" 366)] 0), #[]⟩
def z168 (P : Params) : Obj := ⟨(.type "tuple"), none, (.seq #[] 0), #[]⟩
def z169 (P : Params) : Obj := ⟨.none, none, (.func ⟨"__init__", "BadNumber.__init__", L2.defArgs (L2.inClass (Hd.top 8) 0), .stmts (L2.defBody (L2.inClass (Hd.top 8) 0)), L2.defScope (L2.inClass (Hd.top 8) 0), 0, [], .none, .none, .none, .none, none, .none, .none, 0⟩), #[]⟩
def z170 (P : Params) : Obj := ⟨(.type "code"), none, (.fields #[(.str "__init__" 361), (.str "BadNumber.__init__" 362), (.str "/claim/cut.py" 363), (.int 34 0), (.int 2 0), (.int 0 0), (.int 0 0), (.int 3 0), (.ref 149), (.bool true), (.int 181 0), (.ref 150), .none, (.ref 151), (.ref 152), (.ref 153), (.int 367 0), (.int 34 0), (.str "/claim/cut.py" 368)]), #[]⟩
def z171 (P : Params) : Obj := ⟨(.type "function"), none, (.func ⟨"__init__", "BadNumber.__init__", L2.defArgs (L2.inClass (Hd.top 8) 0), .stmts (L2.defBody (L2.inClass (Hd.top 8) 0)), L2.defScope (L2.inClass (Hd.top 8) 0), 3, [("__class__", 143)], .none, .none, .none, (.str "renamedhorn.errors" 194), none, (.ref 154), (.ref 148), 0⟩), #[]⟩
def z172 (P : Params) : Obj := ⟨(.type "tuple"), none, (.seq #[(.str "number" 370)] 0), #[]⟩
def z173 (P : Params) : Obj := ⟨(.type "dict"), none, (.dict #[(kh P "__module__" 356 (.str "renamedhorn.errors" 194)), (kh P "__firstlineno__" 360 (.int 32 359)), (kh P "__init__" 369 (.ref 155)), (kh P "__static_attributes__" 371 (.ref 156)), (kh P "__doc__" 373 .none)] 3), #[]⟩
def z174 (P : Params) : Obj := ⟨(.type "type"), none, (.cls ⟨"BadNumber", [(.ref 31)], [(.ref 158), (.ref 31), (.type "ValueError"), (.type "Exception"), (.type "BaseException"), (.type "object")], 157, "BadNumber", true, [], [], false, none, false⟩), #[(some (.ref 140)), none, (some (.str "BadNumber" 349)), (some (.str "BadNumber" 357)), (some (.builtin "ValueError.__new__")), (some (.bool true))]⟩
def z175 (P : Params) : Obj := ⟨(.type "super"), none, (.fields #[(.ref 158), (.ref 158), (.ref 158)]), #[]⟩
def z176 (P : Params) : Obj := ⟨(.type "builtin_function_or_method"), none, (.fields #[(.builtin "object.__init_subclass__"), (.ref 158)]), #[]⟩
def z181 (P : Params) : Obj := ⟨(.type "tuple"), none, (.seq #[(.ref 31)] 0), #[]⟩
def z182 (P : Params) : Obj := ⟨(.type "builtin_function_or_method"), none, (.fields #[(.builtin "type.__prepare__"), (.type "type")]), #[]⟩
def z183 (P : Params) : Obj := ⟨(.type "dict"), none, (.dict #[(kh P "__module__" 383 (.str "renamedhorn.errors" 194)), (kh P "__qualname__" 385 (.str "BadCount" 384)), (kh P "__firstlineno__" 387 (.int 37 386)), (kh P "__init__" 396 (.ref 176)), (kh P "__static_attributes__" 398 (.ref 177)), (kh P "__classcell__" 399 (.ref 164))] 6), #[]⟩
def z184 (P : Params) : Obj := ⟨(.type "cell"), none, (.cell (some (.ref 179))), #[]⟩
def z185 (P : Params) : Obj := ⟨(.type "tuple"), none, (.seq #[] 0), #[]⟩
def z186 (P : Params) : Obj := ⟨.none, none, (.fields #[(.int 39 0), (.int 4 0), (.ref 175)]), #[]⟩
def z187 (P : Params) : Obj := ⟨(.type "code"), none, (.fields #[(.str "BadCount" 378), (.str "BadCount" 379), (.str "/claim/cut.py" 380), (.int 37 0), (.int 0 0), (.int 0 0), (.int 0 0), (.int 0 0), (.ref 165), (.bool false), (.int 181 0), (.ref 166), .none, .none, .none, .none, (.int 381 0), (.int 37 0), (.str "/claim/cut.py" 382)]), #[]⟩
def z188 (P : Params) : Obj := ⟨(.type "frame"), none, .plain, #[(some (.ref 167)), (some (.ref 3)), (some (.ref 163)), none, (some (.str "renamedhorn.errors" 194)), none, (some (.ref 0))]⟩
def z189 (P : Params) : Obj := ⟨(.type "tuple"), none, (.seq #[(.ref 164)] 0), #[]⟩
def z190 (P : Params) : Obj := ⟨(.type "tuple"), none, (.seq #[(.str "__class__" 391)] 0), #[]⟩
def z191 (P : Params) : Obj := ⟨.none, none, (.fields #[]), #[]⟩
def z192 (P : Params) : Obj := ⟨(.type "tuple"), none, (.seq #[(.str "self" 392), (.str "count" 393)] 0), #[]⟩
def z193 (P : Params) : Obj := ⟨(.type "tuple"), none, (.seq #[] 0), #[]⟩
def z194 (P : Params) : Obj := ⟨.none, none, (.func ⟨"__init__", "BadCount.__init__", L2.defArgs (L2.inClass (Hd.top 9) 0), .stmts (L2.defBody (L2.inClass (Hd.top 9) 0)), L2.defScope (L2.inClass (Hd.top 9) 0), 0, [], .none, .none, .none, .none, none, .none, .none, 0⟩), #[]⟩
def z195 (P : Params) : Obj := ⟨(.type "code"), none, (.fields #[(.str "__init__" 388), (.str "BadCount.__init__" 389), (.str "/claim/cut.py" 390), (.int 39 0), (.int 2 0), (.int 0 0), (.int 0 0), (.int 3 0), (.ref 170), (.bool true), (.int 181 0), (.ref 171), .none, (.ref 172), (.ref 173), (.ref 174), (.int 394 0), (.int 39 0), (.str "/claim/cut.py" 395)]), #[]⟩
def z196 (P : Params) : Obj := ⟨(.type "function"), none, (.func ⟨"__init__", "BadCount.__init__", L2.defArgs (L2.inClass (Hd.top 9) 0), .stmts (L2.defBody (L2.inClass (Hd.top 9) 0)), L2.defScope (L2.inClass (Hd.top 9) 0), 3, [("__class__", 164)], .none, .none, .none, (.str "renamedhorn.errors" 194), none, (.ref 175), (.ref 169), 0⟩), #[]⟩
def z197 (P : Params) : Obj := ⟨(.type "tuple"), none, (.seq #[(.str "count" 397)] 0), #[]⟩
def z198 (P : Params) : Obj := ⟨(.type "dict"), none, (.dict #[(kh P "__module__" 383 (.str "renamedhorn.errors" 194)), (kh P "__firstlineno__" 387 (.int 37 386)), (kh P "__init__" 396 (.ref 176)), (kh P "__static_attributes__" 398 (.ref 177)), (kh P "__doc__" 400 .none)] 3), #[]⟩
def z199 (P : Params) : Obj := ⟨(.type "type"), none, (.cls ⟨"BadCount", [(.ref 31)], [(.ref 179), (.ref 31), (.type "ValueError"), (.type "Exception"), (.type "BaseException"), (.type "object")], 178, "BadCount", true, [], [], false, none, false⟩), #[(some (.ref 161)), none, (some (.str "BadCount" 376)), (some (.str "BadCount" 384)), (some (.builtin "ValueError.__new__")), (some (.bool true))]⟩
def z200 (P : Params) : Obj := ⟨(.type "super"), none, (.fields #[(.ref 179), (.ref 179), (.ref 179)]), #[]⟩
def z201 (P : Params) : Obj := ⟨(.type "builtin_function_or_method"), none, (.fields #[(.builtin "object.__init_subclass__"), (.ref 179)]), #[]⟩
def z202 (P : Params) : Obj := ⟨(.type "tuple"), none, (.seq #[] 0), #[]⟩
def z203 (P : Params) : Obj := ⟨.none, none, (.fields #[]), #[]⟩
def z204 (P : Params) : Obj := ⟨.none, none, (.func ⟨"is_name", "is_name", L2.defArgs (Hd.top 14), .stmts (L2.defBody (Hd.top 14)), L2.defScope (Hd.top 14), 0, [], .none, .none, .none, .none, none, .none, .none, 0⟩), #[]⟩
def z205 (P : Params) : Obj := ⟨(.type "code"), none, (.fields #[(.str "is_name" 411), (.str "is_name" 412), (.str "/claim/cut.py" 413), (.int 46 0), (.int 1 0), (.int 0 0), (.int 0 0), (.int 3 0), (.ref 182), (.bool true), (.int 181 0), (.ref 183), .none, .none, .none, (.ref 184), (.int 414 0), (.int 46 0), (.str "/claim/cut.py" 415)]), #[]⟩
def z206 (P : Params) : Obj := ⟨(.type "function"), none, (.func ⟨"is_name", "is_name", L2.defArgs (Hd.top 14), .stmts (L2.defBody (Hd.top 14)), L2.defScope (Hd.top 14), 3, [], .none, .none, .none, (.str "renamedhorn.literals" 403), none, (.ref 185), .none, 0⟩), #[]⟩
def z207 (P : Params) : Obj := ⟨(.type "tuple"), none, (.seq #[] 0), #[]⟩
def z208 (P : Params) : Obj := ⟨.none, none, (.fields #[]), #[]⟩
def z209 (P : Params) : Obj := ⟨(.type "tuple"), none, (.seq #[(.str "text" 420)] 0), #[]⟩
def z210 (P : Params) : Obj := ⟨(.type "tuple"), none, (.seq #[] 0), #[]⟩
def z211 (P : Params) : Obj := ⟨.none, none, (.func ⟨"is_literal", "is_literal", L2.defArgs (Hd.top 15), .stmts (L2.defBody (Hd.top 15)), L2.defScope (Hd.top 15), 0, [], .none, .none, .none, .none, none, .none, .none, 0⟩), #[]⟩
def z212 (P : Params) : Obj := ⟨(.type "code"), none, (.fields #[(.str "is_literal" 417), (.str "is_literal" 418), (.str "/claim/cut.py" 419), (.int 52 0), (.int 1 0), (.int 0 0), (.int 0 0), (.int 3 0), (.ref 187), (.bool true), (.int 181 0), (.ref 188), .none, (.ref 189), (.ref 190), (.ref 191), (.int 421 0), (.int 52 0), (.str "/claim/cut.py" 422)]), #[]⟩
def z213 (P : Params) : Obj := ⟨(.type "function"), none, (.func ⟨"is_literal", "is_literal", L2.defArgs (Hd.top 15), .stmts (L2.defBody (Hd.top 15)), L2.defScope (Hd.top 15), 3, [], .none, .none, .none, (.str "renamedhorn.literals" 403), none, (.ref 192), .none, 0⟩), #[]⟩
def z214 (P : Params) : Obj := ⟨(.type "tuple"), none, (.seq #[] 0), #[]⟩
def z215 (P : Params) : Obj := ⟨.none, none, (.fields #[]), #[]⟩
def z216 (P : Params) : Obj := ⟨(.type "tuple"), none, (.seq #[(.str "literal" 427)] 0), #[]⟩
def z217 (P : Params) : Obj := ⟨(.type "tuple"), none, (.seq #[] 0), #[]⟩
def z218 (P : Params) : Obj := ⟨.none, none, (.func ⟨"name_of", "name_of", L2.defArgs (Hd.top 16), .stmts (L2.defBody (Hd.top 16)), L2.defScope (Hd.top 16), 0, [], .none, .none, .none, .none, none, .none, .none, 0⟩), #[]⟩
def z219 (P : Params) : Obj := ⟨(.type "code"), none, (.fields #[(.str "name_of" 424), (.str "name_of" 425), (.str "/claim/cut.py" 426), (.int 56 0), (.int 1 0), (.int 0 0), (.int 0 0), (.int 3 0), (.ref 194), (.bool true), (.int 181 0), (.ref 195), .none, (.ref 196), (.ref 197), (.ref 198), (.int 428 0), (.int 56 0), (.str "/claim/cut.py" 429)]), #[]⟩
def z220 (P : Params) : Obj := ⟨(.type "function"), none, (.func ⟨"name_of", "name_of", L2.defArgs (Hd.top 16), .stmts (L2.defBody (Hd.top 16)), L2.defScope (Hd.top 16), 3, [], .none, .none, .none, (.str "renamedhorn.literals" 403), none, (.ref 199), .none, 0⟩), #[]⟩
def z224 (P : Params) : Obj := ⟨(.type "tuple"), none, (.seq #[] 0), #[]⟩
def z225 (P : Params) : Obj := ⟨.none, none, (.fields #[]), #[]⟩
def z226 (P : Params) : Obj := ⟨(.type "tuple"), none, (.seq #[(.str "literal" 434)] 0), #[]⟩
def z227 (P : Params) : Obj := ⟨(.type "tuple"), none, (.seq #[] 0), #[]⟩
def z228 (P : Params) : Obj := ⟨.none, none, (.func ⟨"negated", "negated", L2.defArgs (Hd.top 17), .stmts (L2.defBody (Hd.top 17)), L2.defScope (Hd.top 17), 0, [], .none, .none, .none, .none, none, .none, .none, 0⟩), #[]⟩
def z229 (P : Params) : Obj := ⟨(.type "code"), none, (.fields #[(.str "negated" 431), (.str "negated" 432), (.str "/claim/cut.py" 433), (.int 62 0), (.int 1 0), (.int 0 0), (.int 0 0), (.int 3 0), (.ref 201), (.bool true), (.int 181 0), (.ref 202), .none, (.ref 203), (.ref 204), (.ref 205), (.int 435 0), (.int 62 0), (.str "/claim/cut.py" 436)]), #[]⟩
def z230 (P : Params) : Obj := ⟨(.type "function"), none, (.func ⟨"negated", "negated", L2.defArgs (Hd.top 17), .stmts (L2.defBody (Hd.top 17)), L2.defScope (Hd.top 17), 3, [], .none, .none, .none, (.str "renamedhorn.literals" 403), none, (.ref 206), .none, 0⟩), #[]⟩
def z231 (P : Params) : Obj := ⟨(.type "tuple"), none, (.seq #[] 0), #[]⟩
def z232 (P : Params) : Obj := ⟨.none, none, (.fields #[]), #[]⟩
def z233 (P : Params) : Obj := ⟨.none, none, (.func ⟨"ordered_names", "ordered_names", L2.defArgs (Hd.top 18), .stmts (L2.defBody (Hd.top 18)), L2.defScope (Hd.top 18), 0, [], .none, .none, .none, .none, none, .none, .none, 0⟩), #[]⟩
def z234 (P : Params) : Obj := ⟨(.type "code"), none, (.fields #[(.str "ordered_names" 438), (.str "ordered_names" 439), (.str "/claim/cut.py" 440), (.int 68 0), (.int 1 0), (.int 0 0), (.int 0 0), (.int 3 0), (.ref 208), (.bool true), (.int 181 0), (.ref 209), .none, .none, .none, (.ref 210), (.int 441 0), (.int 68 0), (.str "/claim/cut.py" 442)]), #[]⟩
def z235 (P : Params) : Obj := ⟨(.type "function"), none, (.func ⟨"ordered_names", "ordered_names", L2.defArgs (Hd.top 18), .stmts (L2.defBody (Hd.top 18)), L2.defScope (Hd.top 18), 3, [], .none, .none, .none, (.str "renamedhorn.literals" 403), none, (.ref 211), .none, 0⟩), #[]⟩
def z236 (P : Params) : Obj := ⟨(.type "tuple"), none, (.seq #[] 0), #[]⟩
def z237 (P : Params) : Obj := ⟨.none, none, (.fields #[]), #[]⟩
def z238 (P : Params) : Obj := ⟨.none, none, (.func ⟨"in_order", "in_order", L2.defArgs (Hd.top 19), .stmts (L2.defBody (Hd.top 19)), L2.defScope (Hd.top 19), 0, [], .none, .none, .none, .none, none, .none, .none, 0⟩), #[]⟩
def z239 (P : Params) : Obj := ⟨(.type "code"), none, (.fields #[(.str "in_order" 444), (.str "in_order" 445), (.str "/claim/cut.py" 446), (.int 77 0), (.int 1 0), (.int 0 0), (.int 0 0), (.int 3 0), (.ref 213), (.bool true), (.int 181 0), (.ref 214), .none, .none, .none, (.ref 215), (.int 447 0), (.int 77 0), (.str "/claim/cut.py" 448)]), #[]⟩
def z240 (P : Params) : Obj := ⟨(.type "function"), none, (.func ⟨"in_order", "in_order", L2.defArgs (Hd.top 19), .stmts (L2.defBody (Hd.top 19)), L2.defScope (Hd.top 19), 3, [], .none, .none, .none, (.str "renamedhorn.literals" 403), none, (.ref 216), .none, 0⟩), #[]⟩
def z241 (P : Params) : Obj := ⟨(.type "tuple"), none, (.seq #[] 0), #[]⟩
def z242 (P : Params) : Obj := ⟨.none, none, (.fields #[]), #[]⟩
def z243 (P : Params) : Obj := ⟨(.type "tuple"), none, (.seq #[(.str "literals" 453), (.str "literal" 454)] 0), #[]⟩
def z244 (P : Params) : Obj := ⟨(.type "tuple"), none, (.seq #[] 0), #[]⟩
def z245 (P : Params) : Obj := ⟨.none, none, (.func ⟨"twice_named", "twice_named", L2.defArgs (Hd.top 20), .stmts (L2.defBody (Hd.top 20)), L2.defScope (Hd.top 20), 0, [], .none, .none, .none, .none, none, .none, .none, 0⟩), #[]⟩
def z246 (P : Params) : Obj := ⟨(.type "code"), none, (.fields #[(.str "twice_named" 450), (.str "twice_named" 451), (.str "/claim/cut.py" 452), (.int 89 0), (.int 1 0), (.int 0 0), (.int 0 0), (.int 3 0), (.ref 218), (.bool true), (.int 181 0), (.ref 219), .none, (.ref 220), (.ref 221), (.ref 222), (.int 455 0), (.int 89 0), (.str "/claim/cut.py" 456)]), #[]⟩
def z247 (P : Params) : Obj := ⟨(.type "function"), none, (.func ⟨"twice_named", "twice_named", L2.defArgs (Hd.top 20), .stmts (L2.defBody (Hd.top 20)), L2.defScope (Hd.top 20), 3, [], .none, .none, .none, (.str "renamedhorn.literals" 403), none, (.ref 223), .none, 0⟩), #[]⟩
def z248 (P : Params) : Obj := ⟨(.type "tuple"), none, (.seq #[] 0), #[]⟩
def z249 (P : Params) : Obj := ⟨.none, none, (.fields #[]), #[]⟩
def z250 (P : Params) : Obj := ⟨(.type "tuple"), none, (.seq #[(.str "literals" 461), (.str "limit" 462), (.str "facts" 463), (.str "name" 464)] 0), #[]⟩
def z251 (P : Params) : Obj := ⟨(.type "tuple"), none, (.seq #[] 0), #[]⟩
def z252 (P : Params) : Obj := ⟨.none, none, (.func ⟨"checked_facts", "checked_facts", L2.defArgs (Hd.top 21), .stmts (L2.defBody (Hd.top 21)), L2.defScope (Hd.top 21), 0, [], .none, .none, .none, .none, none, .none, .none, 0⟩), #[]⟩
def z253 (P : Params) : Obj := ⟨(.type "code"), none, (.fields #[(.str "checked_facts" 458), (.str "checked_facts" 459), (.str "/claim/cut.py" 460), (.int 94 0), (.int 2 0), (.int 0 0), (.int 0 0), (.int 3 0), (.ref 225), (.bool true), (.int 181 0), (.ref 226), .none, (.ref 227), (.ref 228), (.ref 229), (.int 465 0), (.int 94 0), (.str "/claim/cut.py" 466)]), #[]⟩
def z254 (P : Params) : Obj := ⟨(.type "function"), none, (.func ⟨"checked_facts", "checked_facts", L2.defArgs (Hd.top 21), .stmts (L2.defBody (Hd.top 21)), L2.defScope (Hd.top 21), 3, [], .none, .none, .none, (.str "renamedhorn.literals" 403), none, (.ref 230), .none, 0⟩), #[]⟩
def z255 (P : Params) : Obj := ⟨(.type "tuple"), none, (.seq #[] 0), #[]⟩
def z256 (P : Params) : Obj := ⟨.none, none, (.fields #[]), #[]⟩
def z257 (P : Params) : Obj := ⟨.none, none, (.func ⟨"names_of", "names_of", L2.defArgs (Hd.top 22), .stmts (L2.defBody (Hd.top 22)), L2.defScope (Hd.top 22), 0, [], .none, .none, .none, .none, none, .none, .none, 0⟩), #[]⟩
def z258 (P : Params) : Obj := ⟨(.type "code"), none, (.fields #[(.str "names_of" 468), (.str "names_of" 469), (.str "/claim/cut.py" 470), (.int 102 0), (.int 1 0), (.int 0 0), (.int 0 0), (.int 3 0), (.ref 232), (.bool true), (.int 181 0), (.ref 233), .none, .none, .none, (.ref 234), (.int 471 0), (.int 102 0), (.str "/claim/cut.py" 472)]), #[]⟩
def z259 (P : Params) : Obj := ⟨(.type "function"), none, (.func ⟨"names_of", "names_of", L2.defArgs (Hd.top 22), .stmts (L2.defBody (Hd.top 22)), L2.defScope (Hd.top 22), 3, [], .none, .none, .none, (.str "renamedhorn.literals" 403), none, (.ref 235), .none, 0⟩), #[]⟩
def z263 (P : Params) : Obj := ⟨(.type "tuple"), none, (.seq #[] 0), #[]⟩
def z264 (P : Params) : Obj := ⟨(.type "builtin_function_or_method"), none, (.fields #[(.builtin "type.__prepare__"), (.type "type")]), #[]⟩
def z265 (P : Params) : Obj := ⟨(.type "dict"), none, (.dict #[(kh P "__module__" 483 (.str "renamedhorn.clauses" 474)), (kh P "__qualname__" 485 (.str "Clause" 484)), (kh P "__firstlineno__" 487 (.int 105 486)), (kh P "LIMIT" 489 (.int 6 488)), (kh P "__init__" 497 (.ref 250)), (kh P "names" 505 (.ref 258)), (kh P "positives" 513 (.ref 266)), (kh P "__iter__" 520 (.ref 273)), (kh P "__len__" 527 (.ref 280)), (kh P "__contains__" 535 (.ref 287)), (kh P "__eq__" 543 (.ref 294)), (kh P "__le__" 549 (.ref 299)), (kh P "__lt__" 555 (.ref 304)), (kh P "__or__" 564 (.ref 311)), (kh P "__and__" 570 (.ref 316)), (kh P "__sub__" 576 (.ref 321)), (kh P "__str__" 583 (.ref 328)), (kh P "__static_attributes__" 585 (.ref 329))] 18), #[]⟩
def z266 (P : Params) : Obj := ⟨(.type "tuple"), none, (.seq #[] 0), #[]⟩
def z267 (P : Params) : Obj := ⟨.none, none, (.fields #[(.int 108 0), (.int 4 0), (.ref 249), (.int 112 0), (.int 4 0), (.ref 256), (.int 116 0), (.int 4 0), (.ref 264), (.int 119 0), (.int 4 0), (.ref 272), (.int 122 0), (.int 4 0), (.ref 279), (.int 125 0), (.int 4 0), (.ref 286), (.int 128 0), (.int 4 0), (.ref 293), (.int 131 0), (.int 4 0), (.ref 298), (.int 136 0), (.int 4 0), (.ref 303), (.int 142 0), (.int 4 0), (.ref 310), (.int 148 0), (.int 4 0), (.ref 315), (.int 154 0), (.int 4 0), (.ref 320), (.int 160 0), (.int 4 0), (.ref 327)]), #[]⟩
def z268 (P : Params) : Obj := ⟨(.type "code"), none, (.fields #[(.str "Clause" 478), (.str "Clause" 479), (.str "/claim/cut.py" 480), (.int 105 0), (.int 0 0), (.int 0 0), (.int 0 0), (.int 0 0), (.ref 240), (.bool false), (.int 181 0), (.ref 241), .none, .none, .none, .none, (.int 481 0), (.int 105 0), (.str "/claim/cut.py" 482)]), #[]⟩
def z269 (P : Params) : Obj := ⟨(.type "frame"), none, .plain, #[(some (.ref 242)), (some (.ref 3)), (some (.ref 239)), none, (some (.str "renamedhorn.clauses" 474)), none, (some (.ref 0))]⟩
def z270 (P : Params) : Obj := ⟨(.type "tuple"), none, (.seq #[] 0), #[]⟩
def z271 (P : Params) : Obj := ⟨.none, none, (.fields #[]), #[]⟩
def z272 (P : Params) : Obj := ⟨(.type "tuple"), none, (.seq #[(.str "self" 493), (.str "literals" 494)] 0), #[]⟩
def z273 (P : Params) : Obj := ⟨(.type "tuple"), none, (.seq #[] 0), #[]⟩
def z274 (P : Params) : Obj := ⟨.none, none, (.func ⟨"__init__", "Clause.__init__", L2.defArgs (L2.inClass (Hd.top 24) 1), .stmts (L2.defBody (L2.inClass (Hd.top 24) 1)), L2.defScope (L2.inClass (Hd.top 24) 1), 0, [], .none, .none, .none, .none, none, .none, .none, 0⟩), #[]⟩
def z275 (P : Params) : Obj := ⟨(.type "code"), none, (.fields #[(.str "__init__" 490), (.str "Clause.__init__" 491), (.str "/claim/cut.py" 492), (.int 108 0), (.int 1 0), (.int 0 0), (.int 0 0), (.int 7 0), (.ref 244), (.bool true), (.int 181 0), (.ref 245), .none, (.ref 246), (.ref 247), (.ref 248), (.int 495 0), (.int 108 0), (.str "/claim/cut.py" 496)]), #[]⟩
def z276 (P : Params) : Obj := ⟨(.type "function"), none, (.func ⟨"__init__", "Clause.__init__", L2.defArgs (L2.inClass (Hd.top 24) 1), .stmts (L2.defBody (L2.inClass (Hd.top 24) 1)), L2.defScope (L2.inClass (Hd.top 24) 1), 3, [], .none, .none, .none, (.str "renamedhorn.clauses" 474), none, (.ref 249), .none, 0⟩), #[]⟩
def z277 (P : Params) : Obj := ⟨(.type "tuple"), none, (.seq #[] 0), #[]⟩
def z278 (P : Params) : Obj := ⟨.none, none, (.fields #[]), #[]⟩
def z279 (P : Params) : Obj := ⟨(.type "tuple"), none, (.seq #[(.str "self" 501)] 0), #[]⟩
def z280 (P : Params) : Obj := ⟨(.type "tuple"), none, (.seq #[] 0), #[]⟩
def z281 (P : Params) : Obj := ⟨.none, none, (.func ⟨"names", "Clause.names", L2.defArgs (L2.inClass (Hd.top 24) 2), .stmts (L2.defBody (L2.inClass (Hd.top 24) 2)), L2.defScope (L2.inClass (Hd.top 24) 2), 0, [], .none, .none, .none, .none, none, .none, .none, 0⟩), #[]⟩
def z282 (P : Params) : Obj := ⟨(.type "code"), none, (.fields #[(.str "names" 498), (.str "Clause.names" 499), (.str "/claim/cut.py" 500), (.int 111 0), (.int 1 0), (.int 0 0), (.int 0 0), (.int 3 0), (.ref 251), (.bool true), (.int 181 0), (.ref 252), .none, (.ref 253), (.ref 254), (.ref 255), (.int 502 0), (.int 111 0), (.str "/claim/cut.py" 503)]), #[]⟩
def z283 (P : Params) : Obj := ⟨(.type "function"), none, (.func ⟨"names", "Clause.names", L2.defArgs (L2.inClass (Hd.top 24) 2), .stmts (L2.defBody (L2.inClass (Hd.top 24) 2)), L2.defScope (L2.inClass (Hd.top 24) 2), 3, [], .none, .none, .none, (.str "renamedhorn.clauses" 474), none, (.ref 256), .none, 0⟩), #[]⟩
def z284 (P : Params) : Obj := ⟨(.type "property"), none, (.fields #[(.ref 257), .none, .none, .none, (.str "names" 505), (.bool false)]), #[]⟩
def z285 (P : Params) : Obj := ⟨(.type "tuple"), none, (.seq #[] 0), #[]⟩
def z286 (P : Params) : Obj := ⟨.none, none, (.fields #[]), #[]⟩
def z287 (P : Params) : Obj := ⟨(.type "tuple"), none, (.seq #[(.str "self" 509)] 0), #[]⟩
def z288 (P : Params) : Obj := ⟨(.type "tuple"), none, (.seq #[] 0), #[]⟩
def z289 (P : Params) : Obj := ⟨.none, none, (.func ⟨"positives", "Clause.positives", L2.defArgs (L2.inClass (Hd.top 24) 3), .stmts (L2.defBody (L2.inClass (Hd.top 24) 3)), L2.defScope (L2.inClass (Hd.top 24) 3), 0, [], .none, .none, .none, .none, none, .none, .none, 0⟩), #[]⟩
def z290 (P : Params) : Obj := ⟨(.type "code"), none, (.fields #[(.str "positives" 506), (.str "Clause.positives" 507), (.str "/claim/cut.py" 508), (.int 115 0), (.int 1 0), (.int 0 0), (.int 0 0), (.int 3 0), (.ref 259), (.bool true), (.int 181 0), (.ref 260), .none, (.ref 261), (.ref 262), (.ref 263), (.int 510 0), (.int 115 0), (.str "/claim/cut.py" 511)]), #[]⟩
def z291 (P : Params) : Obj := ⟨(.type "function"), none, (.func ⟨"positives", "Clause.positives", L2.defArgs (L2.inClass (Hd.top 24) 3), .stmts (L2.defBody (L2.inClass (Hd.top 24) 3)), L2.defScope (L2.inClass (Hd.top 24) 3), 3, [], .none, .none, .none, (.str "renamedhorn.clauses" 474), none, (.ref 264), .none, 0⟩), #[]⟩
def z292 (P : Params) : Obj := ⟨(.type "property"), none, (.fields #[(.ref 265), .none, .none, .none, (.str "positives" 513), (.bool false)]), #[]⟩
def z293 (P : Params) : Obj := ⟨(.type "tuple"), none, (.seq #[] 0), #[]⟩
def z294 (P : Params) : Obj := ⟨.none, none, (.fields #[]), #[]⟩
def z295 (P : Params) : Obj := ⟨(.type "tuple"), none, (.seq #[(.str "self" 517)] 0), #[]⟩
def z296 (P : Params) : Obj := ⟨(.type "tuple"), none, (.seq #[] 0), #[]⟩
def z297 (P : Params) : Obj := ⟨.none, none, (.func ⟨"__iter__", "Clause.__iter__", L2.defArgs (L2.inClass (Hd.top 24) 4), .stmts (L2.defBody (L2.inClass (Hd.top 24) 4)), L2.defScope (L2.inClass (Hd.top 24) 4), 0, [], .none, .none, .none, .none, none, .none, .none, 0⟩), #[]⟩
def z298 (P : Params) : Obj := ⟨(.type "code"), none, (.fields #[(.str "__iter__" 514), (.str "Clause.__iter__" 515), (.str "/claim/cut.py" 516), (.int 119 0), (.int 1 0), (.int 0 0), (.int 0 0), (.int 3 0), (.ref 267), (.bool true), (.int 181 0), (.ref 268), .none, (.ref 269), (.ref 270), (.ref 271), (.int 518 0), (.int 119 0), (.str "/claim/cut.py" 519)]), #[]⟩
def z299 (P : Params) : Obj := ⟨(.type "function"), none, (.func ⟨"__iter__", "Clause.__iter__", L2.defArgs (L2.inClass (Hd.top 24) 4), .stmts (L2.defBody (L2.inClass (Hd.top 24) 4)), L2.defScope (L2.inClass (Hd.top 24) 4), 3, [], .none, .none, .none, (.str "renamedhorn.clauses" 474), none, (.ref 272), .none, 0⟩), #[]⟩
def z300 (P : Params) : Obj := ⟨(.type "tuple"), none, (.seq #[] 0), #[]⟩
def z301 (P : Params) : Obj := ⟨.none, none, (.fields #[]), #[]⟩
def z302 (P : Params) : Obj := ⟨(.type "tuple"), none, (.seq #[(.str "self" 524)] 0), #[]⟩
def z303 (P : Params) : Obj := ⟨(.type "tuple"), none, (.seq #[] 0), #[]⟩
def z304 (P : Params) : Obj := ⟨.none, none, (.func ⟨"__len__", "Clause.__len__", L2.defArgs (L2.inClass (Hd.top 24) 5), .stmts (L2.defBody (L2.inClass (Hd.top 24) 5)), L2.defScope (L2.inClass (Hd.top 24) 5), 0, [], .none, .none, .none, .none, none, .none, .none, 0⟩), #[]⟩
def z305 (P : Params) : Obj := ⟨(.type "code"), none, (.fields #[(.str "__len__" 521), (.str "Clause.__len__" 522), (.str "/claim/cut.py" 523), (.int 122 0), (.int 1 0), (.int 0 0), (.int 0 0), (.int 3 0), (.ref 274), (.bool true), (.int 181 0), (.ref 275), .none, (.ref 276), (.ref 277), (.ref 278), (.int 525 0), (.int 122 0), (.str "/claim/cut.py" 526)]), #[]⟩
def z306 (P : Params) : Obj := ⟨(.type "function"), none, (.func ⟨"__len__", "Clause.__len__", L2.defArgs (L2.inClass (Hd.top 24) 5), .stmts (L2.defBody (L2.inClass (Hd.top 24) 5)), L2.defScope (L2.inClass (Hd.top 24) 5), 3, [], .none, .none, .none, (.str "renamedhorn.clauses" 474), none, (.ref 279), .none, 0⟩), #[]⟩
def z307 (P : Params) : Obj := ⟨(.type "tuple"), none, (.seq #[] 0), #[]⟩
def z308 (P : Params) : Obj := ⟨.none, none, (.fields #[]), #[]⟩
def z309 (P : Params) : Obj := ⟨(.type "tuple"), none, (.seq #[(.str "self" 531), (.str "literal" 532)] 0), #[]⟩
def z310 (P : Params) : Obj := ⟨(.type "tuple"), none, (.seq #[] 0), #[]⟩
def z311 (P : Params) : Obj := ⟨.none, none, (.func ⟨"__contains__", "Clause.__contains__", L2.defArgs (L2.inClass (Hd.top 24) 6), .stmts (L2.defBody (L2.inClass (Hd.top 24) 6)), L2.defScope (L2.inClass (Hd.top 24) 6), 0, [], .none, .none, .none, .none, none, .none, .none, 0⟩), #[]⟩
def z312 (P : Params) : Obj := ⟨(.type "code"), none, (.fields #[(.str "__contains__" 528), (.str "Clause.__contains__" 529), (.str "/claim/cut.py" 530), (.int 125 0), (.int 2 0), (.int 0 0), (.int 0 0), (.int 3 0), (.ref 281), (.bool true), (.int 181 0), (.ref 282), .none, (.ref 283), (.ref 284), (.ref 285), (.int 533 0), (.int 125 0), (.str "/claim/cut.py" 534)]), #[]⟩
def z313 (P : Params) : Obj := ⟨(.type "function"), none, (.func ⟨"__contains__", "Clause.__contains__", L2.defArgs (L2.inClass (Hd.top 24) 6), .stmts (L2.defBody (L2.inClass (Hd.top 24) 6)), L2.defScope (L2.inClass (Hd.top 24) 6), 3, [], .none, .none, .none, (.str "renamedhorn.clauses" 474), none, (.ref 286), .none, 0⟩), #[]⟩
def z314 (P : Params) : Obj := ⟨(.type "tuple"), none, (.seq #[] 0), #[]⟩
def z315 (P : Params) : Obj := ⟨.none, none, (.fields #[]), #[]⟩
def z316 (P : Params) : Obj := ⟨(.type "tuple"), none, (.seq #[(.str "self" 539), (.str "other" 540)] 0), #[]⟩
def z317 (P : Params) : Obj := ⟨(.type "tuple"), none, (.seq #[] 0), #[]⟩
def z318 (P : Params) : Obj := ⟨.none, none, (.func ⟨"__eq__", "Clause.__eq__", L2.defArgs (L2.inClass (Hd.top 24) 7), .stmts (L2.defBody (L2.inClass (Hd.top 24) 7)), L2.defScope (L2.inClass (Hd.top 24) 7), 0, [], .none, .none, .none, .none, none, .none, .none, 0⟩), #[]⟩
def z319 (P : Params) : Obj := ⟨(.type "code"), none, (.fields #[(.str "__eq__" 536), (.str "Clause.__eq__" 537), (.str "/claim/cut.py" 538), (.int 128 0), (.int 2 0), (.int 0 0), (.int 0 0), (.int 3 0), (.ref 288), (.bool true), (.int 181 0), (.ref 289), .none, (.ref 290), (.ref 291), (.ref 292), (.int 541 0), (.int 128 0), (.str "/claim/cut.py" 542)]), #[]⟩
def z320 (P : Params) : Obj := ⟨(.type "function"), none, (.func ⟨"__eq__", "Clause.__eq__", L2.defArgs (L2.inClass (Hd.top 24) 7), .stmts (L2.defBody (L2.inClass (Hd.top 24) 7)), L2.defScope (L2.inClass (Hd.top 24) 7), 3, [], .none, .none, .none, (.str "renamedhorn.clauses" 474), none, (.ref 293), .none, 0⟩), #[]⟩
def z321 (P : Params) : Obj := ⟨(.type "tuple"), none, (.seq #[] 0), #[]⟩
def z322 (P : Params) : Obj := ⟨.none, none, (.fields #[]), #[]⟩
def z323 (P : Params) : Obj := ⟨.none, none, (.func ⟨"__le__", "Clause.__le__", L2.defArgs (L2.inClass (Hd.top 24) 8), .stmts (L2.defBody (L2.inClass (Hd.top 24) 8)), L2.defScope (L2.inClass (Hd.top 24) 8), 0, [], .none, .none, .none, .none, none, .none, .none, 0⟩), #[]⟩
def z324 (P : Params) : Obj := ⟨(.type "code"), none, (.fields #[(.str "__le__" 544), (.str "Clause.__le__" 545), (.str "/claim/cut.py" 546), (.int 131 0), (.int 2 0), (.int 0 0), (.int 0 0), (.int 3 0), (.ref 295), (.bool true), (.int 181 0), (.ref 296), .none, .none, .none, (.ref 297), (.int 547 0), (.int 131 0), (.str "/claim/cut.py" 548)]), #[]⟩
def z325 (P : Params) : Obj := ⟨(.type "function"), none, (.func ⟨"__le__", "Clause.__le__", L2.defArgs (L2.inClass (Hd.top 24) 8), .stmts (L2.defBody (L2.inClass (Hd.top 24) 8)), L2.defScope (L2.inClass (Hd.top 24) 8), 3, [], .none, .none, .none, (.str "renamedhorn.clauses" 474), none, (.ref 298), .none, 0⟩), #[]⟩
def z326 (P : Params) : Obj := ⟨(.type "tuple"), none, (.seq #[] 0), #[]⟩
def z327 (P : Params) : Obj := ⟨.none, none, (.fields #[]), #[]⟩
def z328 (P : Params) : Obj := ⟨.none, none, (.func ⟨"__lt__", "Clause.__lt__", L2.defArgs (L2.inClass (Hd.top 24) 9), .stmts (L2.defBody (L2.inClass (Hd.top 24) 9)), L2.defScope (L2.inClass (Hd.top 24) 9), 0, [], .none, .none, .none, .none, none, .none, .none, 0⟩), #[]⟩
def z329 (P : Params) : Obj := ⟨(.type "code"), none, (.fields #[(.str "__lt__" 550), (.str "Clause.__lt__" 551), (.str "/claim/cut.py" 552), (.int 136 0), (.int 2 0), (.int 0 0), (.int 0 0), (.int 3 0), (.ref 300), (.bool true), (.int 181 0), (.ref 301), .none, .none, .none, (.ref 302), (.int 553 0), (.int 136 0), (.str "/claim/cut.py" 554)]), #[]⟩
def z330 (P : Params) : Obj := ⟨(.type "function"), none, (.func ⟨"__lt__", "Clause.__lt__", L2.defArgs (L2.inClass (Hd.top 24) 9), .stmts (L2.defBody (L2.inClass (Hd.top 24) 9)), L2.defScope (L2.inClass (Hd.top 24) 9), 3, [], .none, .none, .none, (.str "renamedhorn.clauses" 474), none, (.ref 303), .none, 0⟩), #[]⟩
def z331 (P : Params) : Obj := ⟨(.type "tuple"), none, (.seq #[] 0), #[]⟩
def z332 (P : Params) : Obj := ⟨.none, none, (.fields #[]), #[]⟩
def z333 (P : Params) : Obj := ⟨(.type "tuple"), none, (.seq #[(.str "self" 559), (.str "other" 560), (.str "literals" 561)] 0), #[]⟩
def z334 (P : Params) : Obj := ⟨(.type "tuple"), none, (.seq #[] 0), #[]⟩
def z335 (P : Params) : Obj := ⟨.none, none, (.func ⟨"__or__", "Clause.__or__", L2.defArgs (L2.inClass (Hd.top 24) 10), .stmts (L2.defBody (L2.inClass (Hd.top 24) 10)), L2.defScope (L2.inClass (Hd.top 24) 10), 0, [], .none, .none, .none, .none, none, .none, .none, 0⟩), #[]⟩
def z336 (P : Params) : Obj := ⟨(.type "code"), none, (.fields #[(.str "__or__" 556), (.str "Clause.__or__" 557), (.str "/claim/cut.py" 558), (.int 142 0), (.int 2 0), (.int 0 0), (.int 0 0), (.int 3 0), (.ref 305), (.bool true), (.int 181 0), (.ref 306), .none, (.ref 307), (.ref 308), (.ref 309), (.int 562 0), (.int 142 0), (.str "/claim/cut.py" 563)]), #[]⟩
def z337 (P : Params) : Obj := ⟨(.type "function"), none, (.func ⟨"__or__", "Clause.__or__", L2.defArgs (L2.inClass (Hd.top 24) 10), .stmts (L2.defBody (L2.inClass (Hd.top 24) 10)), L2.defScope (L2.inClass (Hd.top 24) 10), 3, [], .none, .none, .none, (.str "renamedhorn.clauses" 474), none, (.ref 310), .none, 0⟩), #[]⟩
def z338 (P : Params) : Obj := ⟨(.type "tuple"), none, (.seq #[] 0), #[]⟩
def z339 (P : Params) : Obj := ⟨.none, none, (.fields #[]), #[]⟩
def z340 (P : Params) : Obj := ⟨.none, none, (.func ⟨"__and__", "Clause.__and__", L2.defArgs (L2.inClass (Hd.top 24) 11), .stmts (L2.defBody (L2.inClass (Hd.top 24) 11)), L2.defScope (L2.inClass (Hd.top 24) 11), 0, [], .none, .none, .none, .none, none, .none, .none, 0⟩), #[]⟩
def z341 (P : Params) : Obj := ⟨(.type "code"), none, (.fields #[(.str "__and__" 565), (.str "Clause.__and__" 566), (.str "/claim/cut.py" 567), (.int 148 0), (.int 2 0), (.int 0 0), (.int 0 0), (.int 3 0), (.ref 312), (.bool true), (.int 181 0), (.ref 313), .none, .none, .none, (.ref 314), (.int 568 0), (.int 148 0), (.str "/claim/cut.py" 569)]), #[]⟩
def z342 (P : Params) : Obj := ⟨(.type "function"), none, (.func ⟨"__and__", "Clause.__and__", L2.defArgs (L2.inClass (Hd.top 24) 11), .stmts (L2.defBody (L2.inClass (Hd.top 24) 11)), L2.defScope (L2.inClass (Hd.top 24) 11), 3, [], .none, .none, .none, (.str "renamedhorn.clauses" 474), none, (.ref 315), .none, 0⟩), #[]⟩
def z343 (P : Params) : Obj := ⟨(.type "tuple"), none, (.seq #[] 0), #[]⟩
def z344 (P : Params) : Obj := ⟨.none, none, (.fields #[]), #[]⟩
def z345 (P : Params) : Obj := ⟨.none, none, (.func ⟨"__sub__", "Clause.__sub__", L2.defArgs (L2.inClass (Hd.top 24) 12), .stmts (L2.defBody (L2.inClass (Hd.top 24) 12)), L2.defScope (L2.inClass (Hd.top 24) 12), 0, [], .none, .none, .none, .none, none, .none, .none, 0⟩), #[]⟩
def z346 (P : Params) : Obj := ⟨(.type "code"), none, (.fields #[(.str "__sub__" 571), (.str "Clause.__sub__" 572), (.str "/claim/cut.py" 573), (.int 154 0), (.int 2 0), (.int 0 0), (.int 0 0), (.int 3 0), (.ref 317), (.bool true), (.int 181 0), (.ref 318), .none, .none, .none, (.ref 319), (.int 574 0), (.int 154 0), (.str "/claim/cut.py" 575)]), #[]⟩
def z347 (P : Params) : Obj := ⟨(.type "function"), none, (.func ⟨"__sub__", "Clause.__sub__", L2.defArgs (L2.inClass (Hd.top 24) 12), .stmts (L2.defBody (L2.inClass (Hd.top 24) 12)), L2.defScope (L2.inClass (Hd.top 24) 12), 3, [], .none, .none, .none, (.str "renamedhorn.clauses" 474), none, (.ref 320), .none, 0⟩), #[]⟩
def z348 (P : Params) : Obj := ⟨(.type "tuple"), none, (.seq #[] 0), #[]⟩
def z349 (P : Params) : Obj := ⟨.none, none, (.fields #[]), #[]⟩
def z350 (P : Params) : Obj := ⟨(.type "tuple"), none, (.seq #[(.str "self" 580)] 0), #[]⟩
def z351 (P : Params) : Obj := ⟨(.type "tuple"), none, (.seq #[] 0), #[]⟩
def z352 (P : Params) : Obj := ⟨.none, none, (.func ⟨"__str__", "Clause.__str__", L2.defArgs (L2.inClass (Hd.top 24) 13), .stmts (L2.defBody (L2.inClass (Hd.top 24) 13)), L2.defScope (L2.inClass (Hd.top 24) 13), 0, [], .none, .none, .none, .none, none, .none, .none, 0⟩), #[]⟩
def z353 (P : Params) : Obj := ⟨(.type "code"), none, (.fields #[(.str "__str__" 577), (.str "Clause.__str__" 578), (.str "/claim/cut.py" 579), (.int 160 0), (.int 1 0), (.int 0 0), (.int 0 0), (.int 3 0), (.ref 322), (.bool true), (.int 181 0), (.ref 323), .none, (.ref 324), (.ref 325), (.ref 326), (.int 581 0), (.int 160 0), (.str "/claim/cut.py" 582)]), #[]⟩
def z354 (P : Params) : Obj := ⟨(.type "function"), none, (.func ⟨"__str__", "Clause.__str__", L2.defArgs (L2.inClass (Hd.top 24) 13), .stmts (L2.defBody (L2.inClass (Hd.top 24) 13)), L2.defScope (L2.inClass (Hd.top 24) 13), 3, [], .none, .none, .none, (.str "renamedhorn.clauses" 474), none, (.ref 327), .none, 0⟩), #[]⟩
def z355 (P : Params) : Obj := ⟨(.type "tuple"), none, (.seq #[(.str "literals" 584)] 0), #[]⟩
def z356 (P : Params) : Obj := ⟨(.type "dict"), none, (.dict #[(kh P "__module__" 483 (.str "renamedhorn.clauses" 474)), (kh P "__firstlineno__" 487 (.int 105 486)), (kh P "LIMIT" 489 (.int 6 488)), (kh P "__init__" 497 (.ref 250)), (kh P "names" 505 (.ref 258)), (kh P "positives" 513 (.ref 266)), (kh P "__iter__" 520 (.ref 273)), (kh P "__len__" 527 (.ref 280)), (kh P "__contains__" 535 (.ref 287)), (kh P "__eq__" 543 (.ref 294)), (kh P "__le__" 549 (.ref 299)), (kh P "__lt__" 555 (.ref 304)), (kh P "__or__" 564 (.ref 311)), (kh P "__and__" 570 (.ref 316)), (kh P "__sub__" 576 (.ref 321)), (kh P "__str__" 583 (.ref 328)), (kh P "__static_attributes__" 585 (.ref 329)), (kh P "__dict__" 587 (.ref 332)), (kh P "__weakref__" 589 (.ref 333)), (kh P "__doc__" 590 .none), (kh P "__hash__" 591 .none)] 5), #[]⟩
def z357 (P : Params) : Obj := ⟨(.type "type"), none, (.cls ⟨"Clause", [(.type "object")], [(.ref 331), (.type "object")], 330, "Clause", true, [], [], false, none, false⟩), #[none, none, (some (.str "Clause" 476)), (some (.str "Clause" 484)), (some (.builtin "object.__new__")), (some (.bool true))]⟩
def z358 (P : Params) : Obj := ⟨(.type "getset_descriptor"), none, (.fields #[(.str "__dict__" 586), (.ref 331), (.builtin "function.__dict__"), (.builtin "function.__dict__#set")]), #[]⟩
def z359 (P : Params) : Obj := ⟨(.type "getset_descriptor"), none, (.fields #[(.str "__weakref__" 588), (.ref 331), (.builtin "ExceptionGroup.__weakref__"), .none]), #[]⟩
def z360 (P : Params) : Obj := ⟨(.type "super"), none, (.fields #[(.ref 331), (.ref 331), (.ref 331)]), #[]⟩
def z361 (P : Params) : Obj := ⟨(.type "builtin_function_or_method"), none, (.fields #[(.builtin "object.__init_subclass__"), (.ref 331)]), #[]⟩
def tr1 (P : Params) : PySem.W.BT := (.node (PySem.W.boot_o_0 P) (.node (PySem.W.boot_o_1 P) (.node (z261 P) (.node (PySem.W.boot_o_7 P) (.node (z7 P) (.node (z180 P) (.node (z63 P) (.node (z139 P) (.node (z281 P) .nil .nil) .nil) (.node (z211 P) (.node (z345 P) .nil .nil) .nil)) (.node (z99 P) (.node (z175 P) (.node (z313 P) .nil .nil) .nil) (.node (z246 P) .nil .nil))) (.node (z43 P) (.node (z83 P) (.node (z159 P) (.node (z297 P) .nil .nil) .nil) (.node (z230 P) (.node (z361 P) .nil .nil) .nil)) (.node (z119 P) (.node (z195 P) (.node (z329 P) .nil .nil) .nil) (.node (z265 P) .nil .nil)))) (.node (z15 P) (.node (z35 P) (.node (z71 P) (.node (z147 P) (.node (z289 P) .nil .nil) .nil) (.node (z219 P) (.node (z353 P) .nil .nil) .nil)) (.node (z111 P) (.node (z187 P) (.node (z321 P) .nil .nil) .nil) (.node (z254 P) .nil .nil))) (.node (z51 P) (.node (z91 P) (.node (z167 P) (.node (z305 P) .nil .nil) .nil) (.node (z238 P) .nil .nil)) (.node (z131 P) (.node (z203 P) (.node (z337 P) .nil .nil) .nil) (.node (z273 P) .nil .nil))))) (.node (z1 P) (.node (z11 P) (.node (z31 P) (.node (z67 P) (.node (z143 P) (.node (z285 P) .nil .nil) .nil) (.node (z215 P) (.node (z349 P) .nil .nil) .nil)) (.node (z107 P) (.node (z183 P) (.node (z317 P) .nil .nil) .nil) (.node (z250 P) .nil .nil))) (.node (z47 P) (.node (z87 P) (.node (z163 P) (.node (z301 P) .nil .nil) .nil) (.node (z234 P) .nil .nil)) (.node (z123 P) (.node (z199 P) (.node (z333 P) .nil .nil) .nil) (.node (z269 P) .nil .nil)))) (.node (z19 P) (.node (z39 P) (.node (z75 P) (.node (z151 P) (.node (z293 P) .nil .nil) .nil) (.node (z226 P) (.node (z357 P) .nil .nil) .nil)) (.node (z115 P) (.node (z191 P) (.node (z325 P) .nil .nil) .nil) (.node (z258 P) .nil .nil))) (.node (z59 P) (.node (z95 P) (.node (z171 P) (.node (z309 P) .nil .nil) .nil) (.node (z242 P) .nil .nil)) (.node (z135 P) (.node (z207 P) (.node (z341 P) .nil .nil) .nil) (.node (z277 P) .nil .nil)))))) (.node (PySem.W.boot_o_5 P) (.node (PySem.W.boot_o_9 P) (.node (z9 P) (.node (z25 P) (.node (z65 P) (.node (z141 P) (.node (z283 P) .nil .nil) .nil) (.node (z213 P) (.node (z347 P) .nil .nil) .nil)) (.node (z101 P) (.node (z181 P) (.node (z315 P) .nil .nil) .nil) (.node (z248 P) .nil .nil))) (.node (z45 P) (.node (z85 P) (.node (z161 P) (.node (z299 P) .nil .nil) .nil) (.node (z232 P) .nil .nil)) (.node (z121 P) (.node (z197 P) (.node (z331 P) .nil .nil) .nil) (.node (z267 P) .nil .nil)))) (.node (z17 P) (.node (z37 P) (.node (z73 P) (.node (z149 P) (.node (z291 P) .nil .nil) .nil) (.node (z224 P) (.node (z355 P) .nil .nil) .nil)) (.node (z113 P) (.node (z189 P) (.node (z323 P) .nil .nil) .nil) (.node (z256 P) .nil .nil))) (.node (z57 P) (.node (z93 P) (.node (z169 P) (.node (z307 P) .nil .nil) .nil) (.node (z240 P) .nil .nil)) (.node (z133 P) (.node (z205 P) (.node (z339 P) .nil .nil) .nil) (.node (z275 P) .nil .nil))))) (.node (z3 P) (.node (z13 P) (.node (z33 P) (.node (z69 P) (.node (z145 P) (.node (z287 P) .nil .nil) .nil) (.node (z217 P) (.node (z351 P) .nil .nil) .nil)) (.node (z109 P) (.node (z185 P) (.node (z319 P) .nil .nil) .nil) (.node (z252 P) .nil .nil))) (.node (z49 P) (.node (z89 P) (.node (z165 P) (.node (z303 P) .nil .nil) .nil) (.node (z236 P) .nil .nil)) (.node (z125 P) (.node (z201 P) (.node (z335 P) .nil .nil) .nil) (.node (z271 P) .nil .nil)))) (.node (z21 P) (.node (z41 P) (.node (z81 P) (.node (z157 P) (.node (z295 P) .nil .nil) .nil) (.node (z228 P) (.node (z359 P) .nil .nil) .nil)) (.node (z117 P) (.node (z193 P) (.node (z327 P) .nil .nil) .nil) (.node (z263 P) .nil .nil))) (.node (z61 P) (.node (z97 P) (.node (z173 P) (.node (z311 P) .nil .nil) .nil) (.node (z244 P) .nil .nil)) (.node (z137 P) (.node (z209 P) (.node (z343 P) .nil .nil) .nil) (.node (z279 P) .nil .nil))))))) (.node (PySem.W.boot_o_2 P) (.node (PySem.W.boot_o_4 P) (.node (PySem.W.boot_o_8 P) (.node (z8 P) (.node (z24 P) (.node (z64 P) (.node (z140 P) (.node (z282 P) .nil .nil) .nil) (.node (z212 P) (.node (z346 P) .nil .nil) .nil)) (.node (z100 P) (.node (z176 P) (.node (z314 P) .nil .nil) .nil) (.node (z247 P) .nil .nil))) (.node (z44 P) (.node (z84 P) (.node (z160 P) (.node (z298 P) .nil .nil) .nil) (.node (z231 P) .nil .nil)) (.node (z120 P) (.node (z196 P) (.node (z330 P) .nil .nil) .nil) (.node (z266 P) .nil .nil)))) (.node (z16 P) (.node (z36 P) (.node (z72 P) (.node (z148 P) (.node (z290 P) .nil .nil) .nil) (.node (z220 P) (.node (z354 P) .nil .nil) .nil)) (.node (z112 P) (.node (z188 P) (.node (z322 P) .nil .nil) .nil) (.node (z255 P) .nil .nil))) (.node (z56 P) (.node (z92 P) (.node (z168 P) (.node (z306 P) .nil .nil) .nil) (.node (z239 P) .nil .nil)) (.node (z132 P) (.node (z204 P) (.node (z338 P) .nil .nil) .nil) (.node (z274 P) .nil .nil))))) (.node (z262 P) (.node (z12 P) (.node (z32 P) (.node (z68 P) (.node (z144 P) (.node (z286 P) .nil .nil) .nil) (.node (z216 P) (.node (z350 P) .nil .nil) .nil)) (.node (z108 P) (.node (z184 P) (.node (z318 P) .nil .nil) .nil) (.node (z251 P) .nil .nil))) (.node (z48 P) (.node (z88 P) (.node (z164 P) (.node (z302 P) .nil .nil) .nil) (.node (z235 P) .nil .nil)) (.node (z124 P) (.node (z200 P) (.node (z334 P) .nil .nil) .nil) (.node (z270 P) .nil .nil)))) (.node (z20 P) (.node (z40 P) (.node (z76 P) (.node (z156 P) (.node (z294 P) .nil .nil) .nil) (.node (z227 P) (.node (z358 P) .nil .nil) .nil)) (.node (z116 P) (.node (z192 P) (.node (z326 P) .nil .nil) .nil) (.node (z259 P) .nil .nil))) (.node (z60 P) (.node (z96 P) (.node (z172 P) (.node (z310 P) .nil .nil) .nil) (.node (z243 P) .nil .nil)) (.node (z136 P) (.node (z208 P) (.node (z342 P) .nil .nil) .nil) (.node (z278 P) .nil .nil)))))) (.node (PySem.W.boot_o_6 P) (.node (PySem.W.boot_o_10 P) (.node (z10 P) (.node (z26 P) (.node (z66 P) (.node (z142 P) (.node (z284 P) .nil .nil) .nil) (.node (z214 P) (.node (z348 P) .nil .nil) .nil)) (.node (z106 P) (.node (z182 P) (.node (z316 P) .nil .nil) .nil) (.node (z249 P) .nil .nil))) (.node (z46 P) (.node (z86 P) (.node (z162 P) (.node (z300 P) .nil .nil) .nil) (.node (z233 P) .nil .nil)) (.node (z122 P) (.node (z198 P) (.node (z332 P) .nil .nil) .nil) (.node (z268 P) .nil .nil)))) (.node (z18 P) (.node (z38 P) (.node (z74 P) (.node (z150 P) (.node (z292 P) .nil .nil) .nil) (.node (z225 P) (.node (z356 P) .nil .nil) .nil)) (.node (z114 P) (.node (z190 P) (.node (z324 P) .nil .nil) .nil) (.node (z257 P) .nil .nil))) (.node (z58 P) (.node (z94 P) (.node (z170 P) (.node (z308 P) .nil .nil) .nil) (.node (z241 P) .nil .nil)) (.node (z134 P) (.node (z206 P) (.node (z340 P) .nil .nil) .nil) (.node (z276 P) .nil .nil))))) (.node (z4 P) (.node (z14 P) (.node (z34 P) (.node (z70 P) (.node (z146 P) (.node (z288 P) .nil .nil) .nil) (.node (z218 P) (.node (z352 P) .nil .nil) .nil)) (.node (z110 P) (.node (z186 P) (.node (z320 P) .nil .nil) .nil) (.node (z253 P) .nil .nil))) (.node (z50 P) (.node (z90 P) (.node (z166 P) (.node (z304 P) .nil .nil) .nil) (.node (z237 P) .nil .nil)) (.node (z126 P) (.node (z202 P) (.node (z336 P) .nil .nil) .nil) (.node (z272 P) .nil .nil)))) (.node (z22 P) (.node (z42 P) (.node (z82 P) (.node (z158 P) (.node (z296 P) .nil .nil) .nil) (.node (z229 P) (.node (z360 P) .nil .nil) .nil)) (.node (z118 P) (.node (z194 P) (.node (z328 P) .nil .nil) .nil) (.node (z264 P) .nil .nil))) (.node (z62 P) (.node (z98 P) (.node (z174 P) (.node (z312 P) .nil .nil) .nil) (.node (z245 P) .nil .nil)) (.node (z138 P) (.node (z210 P) (.node (z344 P) .nil .nil) .nil) (.node (z280 P) .nil .nil))))))))
def S0 (w : World) (os : OsState) : SharedT := ⟨tr0 w.params, 15, ⟨[], [], [], 0, [], [], false, #[], [], 0, false, false, false, 0, [2000, 10, 10], false, 0, true, [], [], 0, false⟩, #[], ⟨0, 0, 0, 0⟩, 187, os⟩
def S1 (w : World) (os : OsState) : SharedT := ⟨tr1 w.params, 336, ⟨[], [], [], 0, [], [], false, #[], [], 0, false, false, false, 0, [2000, 10, 10], false, 0, true, [], [], 0, false⟩, #[], ⟨0, 0, 0, 0⟩, 594, os⟩
abbrev pr : Program := Hd.R.prog
def ev : Env := { scope := pr.main.scope, locals := mainNs, globals := mainNs, cells := [], code := (.ref 13), frame := (some 14) }
abbrev bd : List Stmt := behindTheImports pr
set_option maxHeartbeats 0 in
theorem pre (w : World) (os : OsState) : Hy.goP (Hy.stQ pr w) 11 (some (.ref 6)) 12 (bootT w os (Hy.bt w.params)) (topStub pr) = some (S0 w os, ⟨denQ tabQ (.body bd ev), .body bd ev, ⟨0, 0, 0, 0⟩, [topFrame ⟨0, 0, 0, 0⟩]⟩) := by kernel_rfl
set_option maxHeartbeats 0 in
theorem blk (w : World) (os : OsState) : Hy.segF (Hy.stQ pr w) 11 (some (.ref 6)) 1 (S0 w os) (blockOf bd ev (.body bd ev) ⟨0, 0, 0, 0⟩ [topFrame ⟨0, 0, 0, 0⟩]) = some (.next, S0 w os, .body bd ev, ⟨0, 0, 0, 0⟩) := by kernel_rfl
set_option maxHeartbeats 0 in
theorem seg0 (w : World) (os : OsState) : Hy.segF (Hy.stQ pr w) 11 (some (.ref 6)) 3082 (S0 w os) (piecesOf (bd.take 25) ev (.body bd ev) ⟨0, 0, 0, 0⟩ [topFrame ⟨0, 0, 0, 0⟩]) = some (.next, S1 w os, .body bd ev, ⟨105, 0, 163, 40⟩) := by kernel_rfl
set_option maxHeartbeats 0 in
theorem fin (w : World) (os : OsState) : (goF (Hy.stQ pr w) 11 (some (.ref 6)) 20000 (S1 w os) (restOf (bd.drop 25) ev (.body bd ev) ⟨105, 0, 163, 40⟩ [topFrame ⟨0, 0, 0, 0⟩])).map (Hy.ViewS Hd.R (PySem.W.view Hd.R.prog [58]) Hd.hk Hd.ob Hd.loose w) = some (true, openGood (PySem.W.view Hd.R.prog [58]) Hd.loose, Hd.hk.val w) := by kernel_rfl
theorem run (w : World) (os : OsState) : ∃ s : SharedT, topRun treeTable pr w 11 (some (.ref 6)) (12 + (1 + (3082 + 20000))) (bootT w os (Hy.bt w.params)).abs (topStub pr) = some s.abs ∧ Hy.ViewS Hd.R (PySem.W.view Hd.R.prog [58]) Hd.hk Hd.ob Hd.loose w s = (true, openGood (PySem.W.view Hd.R.prog [58]) Hd.loose, Hd.hk.val w) := Hy.Ends.top 12 1 (blk w) (pre w) (Hy.Ends.seg 25 3082 (seg0 w) (Hy.Ends.last (fin w))) os
theorem hn (w : World) : ((boot_heap w.params).objs.size, bootAnn w) = (11, some (.ref 6)) := by kernel_rfl
end Hs
end
section
open PySem PySem.W PySem.Calls PyProof.Rows
set_option maxRecDepth 100000 in
set_option maxHeartbeats 8000000 in
theorem headDone (walk : WalkO (view (OpenLaw.row PySem.Challenge.rw_renamedhorn_k42_mixtures_counted).prog [58]) Hd.loose (XL (view (OpenLaw.row PySem.Challenge.rw_renamedhorn_k42_mixtures_counted).prog [58]) []) Hd.hk.says (OpenLaw.row PySem.Challenge.rw_renamedhorn_k42_mixtures_counted).toRowW (HandSHeadRun.topDef (OpenLaw.row PySem.Challenge.rw_renamedhorn_k42_mixtures_counted).prog 58) [] fun f vs => PySem.call f vs) : PySem.Challenge.rw_renamedhorn_k42_mixtures_counted.Holds := by
  w_on; refine lawSaid fun said => ?_
  refine Hy.head_seg (r := OpenLaw.row PySem.Challenge.rw_renamedhorn_k42_mixtures_counted) (q := view (OpenLaw.row PySem.Challenge.rw_renamedhorn_k42_mixtures_counted).prog [58]) (H := Hd.hk) (ob := Hd.ob) (n0 := 11) (ann := some (.ref 6)) (loose := Hd.loose) (d := HandSHeadRun.topDef (OpenLaw.row PySem.Challenge.rw_renamedhorn_k42_mixtures_counted).prog 58) (kwd := []) Hd.ob_eq
    (by kernel_rfl) (fun s => by kernel_rfl) Hs.hn Hs.run (by kernel_rfl) (by kernel_rfl) (by kernel_rfl) (by rfl) (by first | assumption | decide +kernel) (by decide +kernel) ⟨rfl, rfl, rfl, rfl, rfl, by decide +kernel⟩ ?hw ?hc
  case hw => w_witness2
  case hc => exact walk
end
section
open PySem PySem.Spec PyProof.Rows L2 Px
local macro_rules | `(tactic| walk_at "s") => `(tactic| first
  | with_reducible refine s_var rfl ?_
  | with_reducible (first
  | refine s_c ?_ | refine s_seq ?_ | refine s_asg ?_ | refine s_op ?_ | refine s_gname ?_ | refine s_cons ?_ | refine s_nil ?_ | refine s_cb ?_ | refine s_ifS ?_ | refine s_test ?_ | refine s_exb ?_ | refine s_ret ?_
  | refine s_eqI ?_ | refine s_addI ?_ | refine s_in0 ?_ | refine s_ltI ?_ | refine s_eqS ?_ | refine s_gsub ?_ | refine s_and ?_ | refine s_or ?_ | refine s_not ?_ | refine s_andV ?_ | refine s_orV ?_ | refine s_notV ?_ | refine s_sl ?_ | refine s_nopart ?_ | refine s_part ?_ | refine s_exi ?_
  | refine s_callS ?_ | refine s_call ?_ | refine s_drop ?_ | refine s_next ?_ | refine s_tB ?_ | refine s_lst ?_ | refine s_tup ?_ | refine s_inS ?_ | refine s_isN ?_ | refine s_yes ?_ | refine s_un ?_ | refine s_neg ?_ | refine s_ifE ?_ | refine s_retN ?_ | refine s_neS ?_ | refine s_neI ?_ | refine s_eqB ?_ | refine s_ltS ?_ | refine s_intI ?_ | refine s_rng1 ?_ | refine s_cont ?_ | refine s_break ?_ | refine s_forR ?_ | refine s_forA ?_ | refine s_lcA ?_ | refine s_lcR ?_ | refine s_bm ?_ | refine s_make ?_ | refine s_att ?_ | refine s_cls ?_ | refine s_setA ?_ | refine s_strS ?_ | refine s_opS ?_ | refine s_forO ?_ | refine s_lcO ?_ | refine s_methO ?_ | refine s_callO ?_ | refine s_exr ?_ | refine s_m1 ?_ | refine s_smeth ?_ | refine s_cmeth ?_ | refine s_makeV ?_ | refine s_clsV ?_ | refine s_listV ?_ | refine s_dget ?_ | refine s_lc2 ?_ | refine s_anyB ?_ | refine s_gsubO ?_ | refine s_attA ?_ | refine s_ddel ?_ | refine s_lstRg2 ?_ | refine s_lstRg1 ?_ | refine s_makeK ?_ | refine s_augO rfl ?_))
local macro_rules | `(tactic| walk_at "mem") => `(tactic| repeat (first | exact List.mem_cons_self | apply List.mem_cons_of_mem))
local macro_rules | `(tactic| walk_at "ss") => `(tactic| repeat walk_at "s")
local macro_rules | `(tactic| walk_at "sl") => `(tactic| repeat (first | walk_at "s" | ((with_reducible refine' s_ixL ?kA ?kB ?_); (case kA => first | assumption | exact upd_same); (case kB => rfl)) | ((with_reducible refine' s_setU ?kA ?_); (case kA => rfl)) | ((with_reducible refine' s_setL ?kA ?kB ?_); (case kA => assumption); (case kB => rfl))))
open Dx
local macro_rules | `(tactic| walk_at "d") => `(tactic| first
  | with_reducible refine w_var rfl ?_
  | with_reducible (first
  | refine w_seq ?_ | refine w_asg ?_ | refine w_gname ?_ | refine w_c ?_ | refine w_op ?_ | refine w_cons ?_ | refine w_nil ?_ | refine w_cb ?_ | refine w_ifS ?_ | refine w_test ?_ | refine w_isb ?_ | refine w_ret ?_ | refine w_next ?_ | refine w_drop ?_
  | refine w_eqI ?_ | refine w_eqS ?_ | refine w_addI ?_ | refine w_sub ?_ | refine w_ltI ?_ | refine w_gt ?_ | refine w_le ?_ | refine w_ge ?_ | refine w_neI ?_ | refine w_neS ?_ | refine w_is ?_ | refine w_inS ?_
  | refine w_and ?_ | refine w_or ?_ | refine w_not ?_ | refine w_andV ?_ | refine w_orV ?_ | refine w_notV ?_ | refine w_if ?_ | refine w_yes ?_ | refine w_neg ?_ | refine w_un ?_ | refine w_lstF ?_ | refine w_lstT ?_ | refine w_tup ?_ | refine w_sl ?_ | refine w_nopart ?_ | refine w_part ?_ | refine w_exi ?_ | refine w_intI ?_ | refine w_strS ?_
  | refine w_call ?_ | refine w_call0 ?_ | refine w_raise ?_ | refine w_att ?_ | refine w_app ?_ | refine w_rng1 ?_ | refine w_rng2 ?_ | refine w_rng3 ?_ | refine w_max2 ?_ | refine w_min2 ?_ | refine w_revIt ?_ | refine w_countI ?_ | refine w_flat ?_ | refine w_any ?_ | refine w_for ?_ | refine w_lc ?_ | refine w_retN ?_ | refine w_cont ?_ | refine w_break ?_ | refine w_gsub ?_ | refine w_gcons ?_ | refine w_gnil ?_ | refine w_gtup rfl ?_
  | refine w_opS ?_ | refine w_methE ?_ | refine w_aug rfl ?_ | refine w_newF ?_ | refine w_newT ?_ | refine w_gsubO ?_ | refine w_keys ?_ | refine w_vals ?_ | refine w_ownK ?_ | refine w_ownL ?_ | refine w_while ?_ | refine w_stp ?_ | refine w_raise0 ?_ | refine w_rev ?_ | refine w_makeK ?_ | refine w_newK ?_ | refine w_disp1 ?_ | refine w_revm ?_ | refine w_join ?_ | refine w_fmt ?_ | refine w_joined ?_ | refine w_js ?_ | refine w_jn ?_ | refine w_split ?_ | refine w_partn ?_ | refine w_indexS ?_ | refine w_slT ?_ | refine w_star ?_ | refine w_listVals ?_ | refine w_dget ?_ | refine w_pop ?_ | refine w_index ?_ | refine w_remove ?_ | refine w_dc ?_ | refine w_satt ?_ | refine w_dget2 ?_ | refine w_dpop1 ?_ | refine w_makeK0 ?_))
local macro_rules | `(tactic| walk_at "dd") => `(tactic| repeat walk_at "d")
namespace Rd
open PySem PySem.Spec PyProof.Rows L2 He Px
def Src (H : Hp) (a : Addr) : Prop := ∃ (c : Addr) (cells : List Int) (i cur cnt mode : Int), H a = some (.lst [.ref c, .int i, .int cur, .int cnt, .int mode]) ∧ H c = some (.lst (cells.map V.int)) ∧ 0 ≤ i ∧ cells.length ≤ 100
theorem Src.keep {H H' : Hp} {a : Addr} (h : Src H a) (s : Same H H') : Src H' a := by
  obtain ⟨c, cells, i, cur, cnt, mode, h1, h2, h3, h4⟩ := h
  exact ⟨c, cells, i, cur, cnt, mode, s _ _ h1, s _ _ h2, h3, h4⟩
theorem Src.but {H H' : Hp} {a b : Addr} {o : HO} (h : Src H a) (s : But b H H') (hb : H b = some o) (hn : ∀ xs, o ≠ .lst xs) : Src H' a := by
  obtain ⟨c, cells, i, cur, cnt, mode, h1, h2, h3, h4⟩ := h
  exact ⟨c, cells, i, cur, cnt, mode, s _ _ h1 (ne_of h1 hb fun e => hn _ e.symm), s _ _ h2 (ne_of h2 hb fun e => hn _ e.symm), h3, h4⟩
theorem atI_cells {cells : List Int} {i : Int} (h0 : 0 ≤ i) (h1 : ¬ ((cells.map V.int).length : Int) ≤ i) : ∃ z : Int, atI (cells.map V.int) i = some (.int z) := by
  rw [List.length_map] at h1
  have hl : i.toNat < cells.length := by omega
  refine ⟨cells[i.toNat], ?_⟩
  unfold atI ixN
  rw [if_pos h0, if_pos (by rw [List.length_map]; omega)]
  simp [hl]
theorem lg {m : Int} (h0 : 0 < m) (h1 : m ≤ 1000000000000000) : m.natAbs.log2 < 9000 := by
  have : m.natAbs ≠ 0 := by omega
  refine (Nat.log2_lt this).mpr (Nat.lt_of_lt_of_le (m := 2 ^ 60) (by omega) (Nat.pow_le_pow_right (by decide) (by decide)))
structure Mov (a : Addr) (H H' : Hp) : Prop where
  but : But a H H'
  cell : ∀ c xs, H a = some (.lst (.ref c :: xs)) → ∃ ys, H' a = some (.lst (.ref c :: ys))
instance {a : Addr} {H H' : Hp} : CoeFun (Mov a H H') (fun _ => ∀ b o, H b = some o → b ≠ a → H' b = some o) := ⟨Mov.but⟩
theorem Mov.refl (a : Addr) (H : Hp) : Mov a H H := ⟨But.refl a H, fun _ xs h => ⟨xs, h⟩⟩
theorem Mov.trans {a : Addr} {H H1 H2 : Hp} (h1 : Mov a H H1) (h2 : Mov a H1 H2) : Mov a H H2 := ⟨h1.but.trans h2.but, fun c xs h => by
  obtain ⟨ys, h⟩ := h1.cell c xs h
  exact h2.cell c ys h⟩
theorem Mov.of {a c : Addr} {H H1 : Hp} {xs ys : List V} (h : But a H H1) (h0 : H a = some (.lst (.ref c :: xs))) (h1 : H1 a = some (.lst (.ref c :: ys))) : Mov a H H1 := ⟨h, fun d zs e => by
  rw [h0] at e
  have e := Option.some.inj e
  injection e with e
  injection e with e _
  injection e with e
  subst e
  exact ⟨ys, h1⟩⟩
theorem Mov.un {a : Addr} {H H' : Hp} {p : Addr} (b : Mov a H H') (hn : p ≠ a) (h : H' p = none) : H p = none := by
  cases e : H p with
  | none => rfl
  | some o => rw [b _ _ e hn] at h; cases h
theorem Src.ne {H : Hp} {a p : Addr} (h : Src H a) (hp : H p = none) : p ≠ a := by
  obtain ⟨c, cells, i, cur, cnt, mode, h1, _⟩ := h
  exact fun e => by rw [e, h1] at hp; cases hp
theorem Src.off {H H' : Hp} {a q : Addr} {o : HO} (h : Src H a) (hq : H q = none) (m : Mov a H H') (h' : Src H' a) : Src (L2.upd H' q o) a := by
  have hqa := h.ne hq
  obtain ⟨c, cells, i, cur, cnt, mode, h1, h2, _⟩ := h
  obtain ⟨c', cells', i', cur', cnt', mode', k1, k2, k3, k4⟩ := h'
  obtain ⟨ys, e⟩ := m.cell c _ h1
  rw [k1] at e
  have e := Option.some.inj e
  injection e with e
  injection e with e _
  injection e with e
  subst e
  have hc : c' ≠ q := fun z => by rw [z, hq] at h2; cases h2
  exact ⟨c', cells', i', cur', cnt', mode', by rw [upd_ne hqa.symm]; exact k1, by rw [upd_ne hc]; exact k2, k3, k4⟩
theorem Mov.put {H H' : Hp} {a q : Addr} {o : HO} (hS : Src H a) (hq : H q = none) (m : Mov a H H') : Mov a H (L2.upd H' q o) := by
  have hqa := hS.ne hq
  refine ⟨fun b u e n => ?_, fun c xs e => ?_⟩
  · rw [upd_ne (ne_of_none e hq)]
    exact m _ _ e n
  · rw [upd_ne hqa.symm]
    exact m.cell c xs e
def dash (z : Str) : Bool := decide (cutS z none (some 1) = ("-" : Str))
def bare (z : Str) : Str := if dash z = true then cutS z (some 1) none else z
def flip (z : Str) : Str := if dash z = true then cutS z (some 1) none else ("-" : Str) ++ z
def lettersL : List Nat := ("abcdefghijklmnopqrstuvwxyz" : Str).cps.toList
def signsL : List Nat := ("abcdefghijklmnopqrstuvwxyz0123456789" : Str).cps.toList
def digitsL : List Nat := ("0123456789" : Str).cps.toList
def isNm (z : Str) : Bool := !decide (((z.length : Int) < 1)) && (!decide ((8 : Int) < (z.length : Int)) && ((match z.cps.toList with | c :: _ => decide (c ∈ lettersL) | [] => false) && z.cps.toList.all fun c => decide (c ∈ signsL)))
def isLit (z : Str) : Bool := isNm (bare z)
theorem len_toList (z : Str) : z.cps.toList.length = z.length := by simp [Str.length]
theorem at0 {z : Str} (h : ¬ ((z.length : Int) < 1)) : ∃ c r, z.cps.toList = c :: r ∧ atI z.cps.toList 0 = some c := by
  have hl := len_toList z
  cases e : z.cps.toList with
  | nil => rw [e] at hl; simp at hl; omega
  | cons c r =>
    refine ⟨c, r, rfl, ?_⟩
    unfold atI ixN
    rw [if_pos (by decide), if_pos (by simp)]
    rfl
theorem app_toList (a b : Str) : (a ++ b).cps.toList = a.cps.toList ++ b.cps.toList := by
  show (a.cps ++ b.cps).toList = _
  simp
def Wrd (z : Str) : Prop := ∃ c r, z.cps.toList = c :: r ∧ c ∈ lettersL ∧ ∀ x ∈ r, x ∈ signsL
theorem letters_signs {c : Nat} (h : c ∈ lettersL) : c ∈ signsL := by
  have e : signsL = lettersL ++ digitsL := by decide +kernel
  rw [e]
  exact List.mem_append_left _ h
theorem Wrd.nm {z : Str} (h : Wrd z) (hl : z.length ≤ 8) : isNm z = true := by
  obtain ⟨c, r, e, h1, h2⟩ := h
  have hn := len_toList z
  rw [e] at hn
  unfold isNm
  rw [decide_eq_false (by simp at hn; omega), decide_eq_false (by omega), e]
  show (true && (true && (decide (c ∈ lettersL) && (c :: r).all fun c => decide (c ∈ signsL)))) = true
  rw [decide_eq_true h1]
  simp only [Bool.true_and, List.all_eq_true, decide_eq_true_eq]
  intro x hx
  rcases List.mem_cons.mp hx with rfl | hx
  · exact letters_signs h1
  · exact h2 x hx
theorem Wrd.add {z : Str} {c : Nat} (h : Wrd z) (hc : c ∈ signsL) : Wrd (z ++ ⟨#[c]⟩) := by
  obtain ⟨d, r, e, h1, h2⟩ := h
  refine ⟨d, r ++ [c], ?_, h1, fun x hx => ?_⟩
  · rw [app_toList, e]
    rfl
  · rcases List.mem_append.mp hx with hx | hx
    · exact h2 x hx
    · have : x = c := by simpa using hx
      rw [this]; exact hc
theorem Wrd.one {c : Nat} (h : c ∈ lettersL) : Wrd ⟨#[c]⟩ := ⟨c, [], rfl, h, fun _ hx => nomatch hx⟩
theorem cut_tail (z : Str) : (cutS z (some 1) none).cps.toList = z.cps.toList.drop 1 := by
  unfold cutS
  have e : HT.sIx z.length 0 (some 1) = min 1 z.length := HT.sIx_nat z.length 0 1
  rw [e, HT.sIx_none]
  have hl := len_toList z
  show List.take (z.length - min 1 z.length) (List.drop (min 1 z.length) z.cps.toList) = _
  cases hz : z.cps.toList with
  | nil => simp
  | cons c r =>
    rw [hz] at hl
    have : min 1 z.length = 1 := by rw [← hl]; simp
    rw [this, List.take_of_length_le (by simp at hl ⊢; omega)]
theorem cut_head (z : Str) : (cutS z none (some 1)).cps.toList = z.cps.toList.take 1 := by
  unfold cutS
  have e : HT.sIx z.length z.length (some 1) = min 1 z.length := HT.sIx_nat z.length z.length 1
  rw [e, HT.sIx_none]
  show List.take (min 1 z.length - 0) (List.drop 0 z.cps.toList) = _
  have hl := len_toList z
  cases hz : z.cps.toList with
  | nil => simp
  | cons c r =>
    rw [hz] at hl
    have : min 1 z.length = 1 := by rw [← hl]; simp
    rw [this]
    rfl
theorem str_ext {a b : Str} (h : a.cps.toList = b.cps.toList) : a = b := by
  obtain ⟨x⟩ := a
  obtain ⟨y⟩ := b
  have : x = y := by
    obtain ⟨l⟩ := x
    obtain ⟨m⟩ := y
    simp at h
    rw [h]
  rw [this]
theorem dash_iff (z : Str) : dash z = true ↔ ∃ r, z.cps.toList = 45 :: r := by
  have h45 : ("-" : Str).cps.toList = [45] := by decide +kernel
  unfold dash
  rw [decide_eq_true_iff]
  constructor
  · intro h
    have e := cut_head z
    rw [h, h45] at e
    cases hz : z.cps.toList with
    | nil => rw [hz] at e; cases e
    | cons c r =>
      rw [hz] at e
      have : c = 45 := by simpa using e.symm
      exact ⟨r, by rw [this]⟩
  · rintro ⟨r, h⟩
    apply str_ext
    rw [cut_head, h, h45]
    rfl
mutual
inductive Is (H : Hp) : V → PyData → Prop
  | non : Is H .non .none
  | bl (b : Bool) : Is H (.bl b) (.bool b)
  | int (i : Int) : Is H (.int i) (.int i)
  | str (x : Str) : Is H (.str x) (.str x)
  | lst {a : Addr} {xs : List V} {ds : List PyData} : H a = some (.lst xs) → IsAll H xs ds → Is H (.ref a) (.list ds)
  | tup {a : Addr} {xs : List V} {ds : List PyData} : H a = some (.tup xs) → IsAll H xs ds → Is H (.ref a) (.tuple ds)
inductive IsAll (H : Hp) : List V → List PyData → Prop
  | nil : IsAll H [] []
  | cons {v : V} {vs : List V} {d : PyData} {ds : List PyData} : Is H v d → IsAll H vs ds → IsAll H (v :: vs) (d :: ds)
end
mutual
theorem Is.keep {H H' : Hp} (s : Same H H') : ∀ {v : V} {d : PyData}, Is H v d → Is H' v d
  | _, _, .non => .non
  | _, _, .bl b => .bl b
  | _, _, .int i => .int i
  | _, _, .str x => .str x
  | _, _, .lst h r => .lst (s _ _ h) (IsAll.keep s r)
  | _, _, .tup h r => .tup (s _ _ h) (IsAll.keep s r)
theorem IsAll.keep {H H' : Hp} (s : Same H H') : ∀ {vs : List V} {ds : List PyData}, IsAll H vs ds → IsAll H' vs ds
  | _, _, .nil => .nil
  | _, _, .cons h r => .cons (Is.keep s h) (IsAll.keep s r)
end
theorem IsAll.len {H : Hp} : ∀ {vs : List V} {ds : List PyData}, IsAll H vs ds → vs.length = ds.length
  | _, _, .nil => rfl
  | _, _, .cons _ r => congrArg (· + 1) r.len
theorem IsAll.at {H : Hp} : ∀ {vs : List V} {ds : List PyData} {i : Nat}, IsAll H vs ds → i < ds.length → ∃ v d, vs[i]? = some v ∧ ds[i]? = some d ∧ Is H v d
  | _, _, i, .nil, h => absurd h (by simp)
  | v :: vs, d :: ds, 0, .cons h _, _ => ⟨v, d, rfl, rfl, h⟩
  | v :: vs, d :: ds, i + 1, .cons _ r, h => by
    obtain ⟨v', d', h1, h2, h3⟩ := r.at (i := i) (by simpa using h)
    exact ⟨v', d', by simpa using h1, by simpa using h2, h3⟩
theorem IsAll.strs {H : Hp} : ∀ l : List Str, IsAll H (l.map V.str) (l.map PyData.str)
  | [] => .nil
  | x :: r => .cons (.str x) (IsAll.strs r)
theorem IsAll.ints {H : Hp} : ∀ l : List Int, IsAll H (l.map V.int) (l.map PyData.int)
  | [] => .nil
  | x :: r => .cons (.int x) (IsAll.ints r)
def Fits : Nat → PyData → Prop
  | _, .none => True
  | _, .bool _ => True
  | _, .int _ => True
  | _, .str _ => True
  | 0, .list _ => False
  | 0, .tuple _ => False
  | n + 1, .list ds => ds.length ≤ 1000000 ∧ ∀ d ∈ ds, Fits n d
  | n + 1, .tuple ds => ds.length ≤ 1000000 ∧ ∀ d ∈ ds, Fits n d
  | _, .dict _ => False
noncomputable def sameB (d e : PyData) : Bool := @decide (d = e) (Classical.propDecidable _)
theorem sameB_eq {d e : PyData} (h : d = e) : sameB d e = true := by unfold sameB; simp [h]
theorem sameB_ne {d e : PyData} (h : d ≠ e) : sameB d e = false := by unfold sameB; simp [h]
theorem sameB_bool (a b : Bool) : sameB (.bool a) (.bool b) = decide (a = b) := by
  by_cases h : a = b
  · rw [sameB_eq (by rw [h]), decide_eq_true h]
  · rw [sameB_ne (by simpa using h), decide_eq_false h]
theorem sameB_int (a b : Int) : sameB (.int a) (.int b) = decide (a = b) := by
  by_cases h : a = b
  · rw [sameB_eq (by rw [h]), decide_eq_true h]
  · rw [sameB_ne (by simpa using h), decide_eq_false h]
theorem sameB_str (a b : Str) : sameB (.str a) (.str b) = decide (a = b) := by
  by_cases h : a = b
  · rw [sameB_eq (by rw [h]), decide_eq_true h]
  · rw [sameB_ne (by simpa using h), decide_eq_false h]
theorem same_all : ∀ {xs ys : List PyData}, xs.length = ys.length → ((List.range xs.length).all fun i => sameB (xs.getD i .none) (ys.getD i .none)) = @decide (xs = ys) (Classical.propDecidable _) := by
  intro xs ys hl
  by_cases h : xs = ys
  · subst h
    simp only [decide_true, List.all_eq_true, List.mem_range]
    exact fun i _ => sameB_eq rfl
  · rw [show @decide (xs = ys) (Classical.propDecidable _) = false by simp [h]]
    rw [Bool.eq_false_iff]
    intro ha
    apply h
    simp only [List.all_eq_true, List.mem_range] at ha
    refine List.ext_getElem hl fun i h1 h2 => ?_
    have := ha i h1
    by_cases hi : xs.getD i .none = ys.getD i .none
    · simpa [List.getD, h1, h2] using hi
    · rw [sameB_ne hi] at this
      cases this
def isBoolD : PyData → Bool
  | .none => false
  | .bool _ => true
  | .int _ => false
  | .str _ => false
  | .list _ => false
  | .tuple _ => false
  | .dict _ => false
theorem isi_bool {K : PySem.W.Frag} {H : Hp} {Q : VK} {x : V} {d : PyData} (h : Is H x d) (q : Q (.bl (isBoolD d)) H) : rIsi K [x, .ty "bool"] H Q := by
  cases h with
  | non => exact ⟨_, .ty "bool", _, _, false, rfl, .ty _, .base (.non), kit_ty (show kitB "NoneType" "bool" = some false by decide +kernel), q⟩
  | bl b => exact ⟨_, .ty "bool", _, _, true, rfl, .ty _, .base (.bl b), kit_ty (show kitB "bool" "bool" = some true by decide +kernel), q⟩
  | int i => exact ⟨_, .ty "bool", _, _, false, rfl, .ty _, .base (.int i), kit_ty (show kitB "int" "bool" = some false by decide +kernel), q⟩
  | str z => exact ⟨_, .ty "bool", _, _, false, rfl, .ty _, .base (.str z), kit_ty (show kitB "str" "bool" = some false by decide +kernel), q⟩
  | lst e r => exact ⟨_, .ty "bool", _, _, false, rfl, .ty _, .base (.lst e), kit_ty (show kitB "list" "bool" = some false by decide +kernel), q⟩
  | tup e r => exact ⟨_, .ty "bool", _, _, false, rfl, .ty _, .base (.tup e), kit_ty (show kitB "tuple" "bool" = some false by decide +kernel), q⟩
def isIntD : PyData → Bool
  | .none => false
  | .bool _ => true
  | .int _ => true
  | .str _ => false
  | .list _ => false
  | .tuple _ => false
  | .dict _ => false
theorem isi_int {K : PySem.W.Frag} {H : Hp} {Q : VK} {x : V} {d : PyData} (h : Is H x d) (q : Q (.bl (isIntD d)) H) : rIsi K [x, .ty "int"] H Q := by
  cases h with
  | non => exact ⟨_, .ty "int", _, _, false, rfl, .ty _, .base (.non), kit_ty (show kitB "NoneType" "int" = some false by decide +kernel), q⟩
  | bl b => exact ⟨_, .ty "int", _, _, true, rfl, .ty _, .base (.bl b), kit_ty (show kitB "bool" "int" = some true by decide +kernel), q⟩
  | int i => exact ⟨_, .ty "int", _, _, true, rfl, .ty _, .base (.int i), kit_ty (show kitB "int" "int" = some true by decide +kernel), q⟩
  | str z => exact ⟨_, .ty "int", _, _, false, rfl, .ty _, .base (.str z), kit_ty (show kitB "str" "int" = some false by decide +kernel), q⟩
  | lst e r => exact ⟨_, .ty "int", _, _, false, rfl, .ty _, .base (.lst e), kit_ty (show kitB "list" "int" = some false by decide +kernel), q⟩
  | tup e r => exact ⟨_, .ty "int", _, _, false, rfl, .ty _, .base (.tup e), kit_ty (show kitB "tuple" "int" = some false by decide +kernel), q⟩
def isStrD : PyData → Bool
  | .none => false
  | .bool _ => false
  | .int _ => false
  | .str _ => true
  | .list _ => false
  | .tuple _ => false
  | .dict _ => false
theorem isi_str {K : PySem.W.Frag} {H : Hp} {Q : VK} {x : V} {d : PyData} (h : Is H x d) (q : Q (.bl (isStrD d)) H) : rIsi K [x, .ty "str"] H Q := by
  cases h with
  | non => exact ⟨_, .ty "str", _, _, false, rfl, .ty _, .base (.non), kit_ty (show kitB "NoneType" "str" = some false by decide +kernel), q⟩
  | bl b => exact ⟨_, .ty "str", _, _, false, rfl, .ty _, .base (.bl b), kit_ty (show kitB "bool" "str" = some false by decide +kernel), q⟩
  | int i => exact ⟨_, .ty "str", _, _, false, rfl, .ty _, .base (.int i), kit_ty (show kitB "int" "str" = some false by decide +kernel), q⟩
  | str z => exact ⟨_, .ty "str", _, _, true, rfl, .ty _, .base (.str z), kit_ty (show kitB "str" "str" = some true by decide +kernel), q⟩
  | lst e r => exact ⟨_, .ty "str", _, _, false, rfl, .ty _, .base (.lst e), kit_ty (show kitB "list" "str" = some false by decide +kernel), q⟩
  | tup e r => exact ⟨_, .ty "str", _, _, false, rfl, .ty _, .base (.tup e), kit_ty (show kitB "tuple" "str" = some false by decide +kernel), q⟩
def isListD : PyData → Bool
  | .none => false
  | .bool _ => false
  | .int _ => false
  | .str _ => false
  | .list _ => true
  | .tuple _ => false
  | .dict _ => false
theorem isi_list {K : PySem.W.Frag} {H : Hp} {Q : VK} {x : V} {d : PyData} (h : Is H x d) (q : Q (.bl (isListD d)) H) : rIsi K [x, .ty "list"] H Q := by
  cases h with
  | non => exact ⟨_, .ty "list", _, _, false, rfl, .ty _, .base (.non), kit_ty (show kitB "NoneType" "list" = some false by decide +kernel), q⟩
  | bl b => exact ⟨_, .ty "list", _, _, false, rfl, .ty _, .base (.bl b), kit_ty (show kitB "bool" "list" = some false by decide +kernel), q⟩
  | int i => exact ⟨_, .ty "list", _, _, false, rfl, .ty _, .base (.int i), kit_ty (show kitB "int" "list" = some false by decide +kernel), q⟩
  | str z => exact ⟨_, .ty "list", _, _, false, rfl, .ty _, .base (.str z), kit_ty (show kitB "str" "list" = some false by decide +kernel), q⟩
  | lst e r => exact ⟨_, .ty "list", _, _, true, rfl, .ty _, .base (.lst e), kit_ty (show kitB "list" "list" = some true by decide +kernel), q⟩
  | tup e r => exact ⟨_, .ty "list", _, _, false, rfl, .ty _, .base (.tup e), kit_ty (show kitB "tuple" "list" = some false by decide +kernel), q⟩
def isTupleD : PyData → Bool
  | .none => false
  | .bool _ => false
  | .int _ => false
  | .str _ => false
  | .list _ => false
  | .tuple _ => true
  | .dict _ => false
theorem isi_tuple {K : PySem.W.Frag} {H : Hp} {Q : VK} {x : V} {d : PyData} (h : Is H x d) (q : Q (.bl (isTupleD d)) H) : rIsi K [x, .ty "tuple"] H Q := by
  cases h with
  | non => exact ⟨_, .ty "tuple", _, _, false, rfl, .ty _, .base (.non), kit_ty (show kitB "NoneType" "tuple" = some false by decide +kernel), q⟩
  | bl b => exact ⟨_, .ty "tuple", _, _, false, rfl, .ty _, .base (.bl b), kit_ty (show kitB "bool" "tuple" = some false by decide +kernel), q⟩
  | int i => exact ⟨_, .ty "tuple", _, _, false, rfl, .ty _, .base (.int i), kit_ty (show kitB "int" "tuple" = some false by decide +kernel), q⟩
  | str z => exact ⟨_, .ty "tuple", _, _, false, rfl, .ty _, .base (.str z), kit_ty (show kitB "str" "tuple" = some false by decide +kernel), q⟩
  | lst e r => exact ⟨_, .ty "tuple", _, _, false, rfl, .ty _, .base (.lst e), kit_ty (show kitB "list" "tuple" = some false by decide +kernel), q⟩
  | tup e r => exact ⟨_, .ty "tuple", _, _, true, rfl, .ty _, .base (.tup e), kit_ty (show kitB "tuple" "tuple" = some true by decide +kernel), q⟩
end Rd
namespace Rd
open PySem PySem.Spec PyProof.Rows L2 He Px Dx
def spn_law_same (K : PySem.W.Frag) (n : Nat) : Sp := Sp2 fun x y H Q _ => ∃ d e : PyData, Is H x d ∧ Is H y e ∧ Fits n d ∧ ∀ H', Same H H' → Q (.bl (sameB d e)) H'
def sp_law_same (K : PySem.W.Frag) : Sp := spn_law_same K 4
def spR_law_same (K : PySem.W.Frag) : Nat → Sp
  | 0 => fun _ _ _ _ => False
  | n + 1 => spn_law_same K n
def N_law_same : List PySem.Str := ["_law_one", "_law_other", "_law_lists", "_law_k"]
def t_law_same (K : PySem.W.Frag) (R : Sp) (W : WX) : TS := (tCut (tIfS (tOr (tB (tCB (rIsi K) (tCons (tVar 0) (tCons (tC (.ty "bool")) tNil)))) (tB (tCB (rIsi K) (tCons (tVar 1) (tCons (tC (.ty "bool")) tNil))))) (tRet (tAndV (tCB (rIsi K) (tCons (tVar 0) (tCons (tC (.ty "bool")) tNil))) (tAndV (tCB (rIsi K) (tCons (tVar 1) (tCons (tC (.ty "bool")) tNil))) (tOp (rEqP K) (tVar 0) (tVar 1))))) tNext)
    (tCut (tIfS (tOr (tB (tCB (rIsi K) (tCons (tVar 0) (tCons (tC (.ty "int")) tNil)))) (tB (tCB (rIsi K) (tCons (tVar 1) (tCons (tC (.ty "int")) tNil))))) (tRet (tAndV (tCB (rIsi K) (tCons (tVar 0) (tCons (tC (.ty "int")) tNil))) (tAndV (tCB (rIsi K) (tCons (tVar 1) (tCons (tC (.ty "int")) tNil))) (tOp (rEqP K) (tVar 0) (tVar 1))))) tNext)
    (tCut (tIfS (tOr (tB (tCB (rIsi K) (tCons (tVar 0) (tCons (tC (.ty "str")) tNil)))) (tB (tCB (rIsi K) (tCons (tVar 1) (tCons (tC (.ty "str")) tNil))))) (tRet (tAndV (tCB (rIsi K) (tCons (tVar 0) (tCons (tC (.ty "str")) tNil))) (tAndV (tCB (rIsi K) (tCons (tVar 1) (tCons (tC (.ty "str")) tNil))) (tOp (rEqP K) (tVar 0) (tVar 1))))) tNext)
    (tSeq (tAsg (tAndV (tCB (rIsi K) (tCons (tVar 0) (tCons (tC (.ty "list")) tNil))) (tCB (rIsi K) (tCons (tVar 1) (tCons (tC (.ty "list")) tNil)))) (gName 2))
    (tCut (tIfS (tAnd (tNot (tB (tVar 2))) (tNot (tAnd (tB (tCB (rIsi K) (tCons (tVar 0) (tCons (tC (.ty "tuple")) tNil)))) (tB (tCB (rIsi K) (tCons (tVar 1) (tCons (tC (.ty "tuple")) tNil))))))) (tRet (tAndV (tOp (rIsP false) (tVar 0) (tC .non)) (tOp (rIsP false) (tVar 1) (tC .non)))) tNext)
    (tRet (tAndV (tOp (rEqP K) (tCB (rLenP K) (tCons (tVar 0) tNil)) (tCB (rLenP K) (tCons (tVar 1) tNil))) (tCB (rAll K) (tCons (tLc (iRng1 (tCons (tCB (rLenP K) (tCons (tVar 0) tNil)) tNil)) (gName 3) tYes (tCall R [] E0 (tCons (tOp (rIxP K) (tVar 0) (tVar 3)) (tCons (tOp (rIxP K) (tVar 1) (tVar 3)) tNil))) [3]) tNil)))))))))
local macro_rules | `(tactic| walk_at "same") => `(tactic| repeat (first | walk_at "s" | (with_reducible refine isi_bool (by assumption) ?_) | (with_reducible refine isi_int (by assumption) ?_) | (with_reducible refine isi_str (by assumption) ?_) | (with_reducible refine isi_list (by assumption) ?_) | (with_reducible refine isi_tuple (by assumption) ?_) | (refine s_itF rfl ?_) | (refine s_itT rfl ?_) | (with_reducible refine s_nocut ?_)))
theorem pure_law_same {K : PySem.W.Frag} {n : Nat} {vs : List V} {H : Hp} {Q : VK} {E : XK} {W : WX} (h : spn_law_same K n vs H Q E) : t_law_same K (spR_law_same K n) W { nx := fun _ H' => Q .non H', rt := Q } (start N_law_same vs) H := by
  obtain ⟨x, y, rfl, d, e, hd, he, hf, hq⟩ := h
  show t_law_same K _ W _ [some x, some y, none, none] H
  unfold t_law_same
  have q0 := hq H (Same.refl H)
  have no : d ≠ e → Q (.bl false) H := fun e1 => by rw [sameB_ne e1] at q0; exact q0
  have hy : ∀ {z : V} {f : PyData}, Is H z f → match f with
    | .none => z = .non
    | .bool b => z = .bl b
    | .int i => z = .int i
    | .str s => z = .str s
    | .list ds => ∃ a xs, z = .ref a ∧ H a = some (.lst xs) ∧ IsAll H xs ds
    | .tuple ds => ∃ a xs, z = .ref a ∧ H a = some (.tup xs) ∧ IsAll H xs ds
    | .dict _ => False := by
    intro z f h
    cases h with
    | lst h1 h2 => exact ⟨_, _, rfl, h1, h2⟩
    | tup h1 h2 => exact ⟨_, _, rfl, h1, h2⟩
    | _ => rfl
  have hX := hy hd
  have hY := hy he
  cases d with
  | none =>
    cases e with
    | none =>
      have hX : x = .non := hX
      have hY : y = .non := hY
      subst hX hY
      walk_at "same"
      rw [sameB_eq rfl] at q0
      exact q0
    | list es =>
      obtain ⟨b, ys, rfl, hb, hys⟩ := hY
      have hX : x = .non := hX
      subst hX
      walk_at "same"
      exact no (fun h => by cases h)
    | tuple es =>
      obtain ⟨b, ys, rfl, hb, hys⟩ := hY
      have hX : x = .non := hX
      subst hX
      walk_at "same"
      exact no (fun h => by cases h)
    | dict _ => exact False.elim hY
    | _ =>
      walk_at "same"
      exact no (fun h => by cases h)
  | bool a =>
    cases e with
    | bool b =>
      have hX : x = .bl a := hX
      have hY : y = .bl b := hY
      subst hX hY
      walk_at "same"
      rw [sameB_bool] at q0
      exact q0
    | dict _ => exact False.elim hY
    | _ =>
      walk_at "same"
      exact no (fun h => by cases h)
  | int a =>
    cases e with
    | int b =>
      have hX : x = .int a := hX
      have hY : y = .int b := hY
      subst hX hY
      walk_at "same"
      rw [sameB_int] at q0
      exact q0
    | dict _ => exact False.elim hY
    | _ =>
      walk_at "same"
      exact no (fun h => by cases h)
  | str a =>
    cases e with
    | str b =>
      have hX : x = .str a := hX
      have hY : y = .str b := hY
      subst hX hY
      walk_at "same"
      rw [sameB_str] at q0
      exact q0
    | dict _ => exact False.elim hY
    | _ =>
      walk_at "same"
      exact no (fun h => by cases h)
  | list ds =>
    obtain ⟨a, xs, rfl, ha, hxs⟩ := hX
    cases n with
    | zero => exact False.elim hf
    | succ n =>
    cases e with
    | list es =>
      obtain ⟨b, ys, rfl, hb, hys⟩ := hY
      walk_at "same"
      have e1 := hxs.len
      have e2 := hys.len
      have fin : ∀ H', Same H H' → Q (.bl (@decide (ds = es) (Classical.propDecidable _))) H' := fun H' s => by
        have w := hq H' s
        have e1 : sameB (.list ds) (.list es) = @decide (ds = es) (Classical.propDecidable _) := by
          by_cases h : ds = es
          · rw [sameB_eq (by rw [h])]; simp [h]
          · rw [sameB_ne (by simpa using h)]; simp [h]
        rw [e1] at w
        exact w
      have hL := hf.1
      refine s_lenL ha ?_
      walk_at "ss"
      refine s_lenL hb ?_
      walk_at "ss"
      refine s_itd (fun e => ?_) (fun e => ?_)
      · have hl : ds.length = es.length := by omega
        walk_at "ss"
        refine s_lenL ha ?_
        walk_at "ss"
        refine lcr_map (fun x => match x with | .int i => .bl (sameB (ds.getD i.toNat .none) (es.getD i.toNat .none)) | _ => .non) (by omega) (by omega) ?_ ?_
        · intro i hi H' s1 Q' hQ
          obtain ⟨v, d, h1, h2, h3⟩ := hxs.at (i := i) (by omega)
          obtain ⟨w, e', g1, g2, g3⟩ := hys.at (i := i) (by omega)
          walk_at "ss"
          refine s_ixL (s1 _ _ ha) (v := v) (atI_nat h1) ?_
          walk_at "ss"
          refine s_ixL (s1 _ _ hb) (v := w) (atI_nat g1) ?_
          walk_at "ss"
          refine ⟨_, _, rfl, d, e', h3.keep s1, g3.keep s1, hf.2 d (List.mem_of_getElem? h2), fun H2 s2 => ?_⟩
          have k1 : ds.getD i .none = d := by simp [List.getD, h2]
          have k2 : es.getD i .none = e' := by simp [List.getD, g2]
          have k3 : Q' (.bl (sameB (ds.getD i .none) (es.getD i .none))) H2 := hQ H2 s2
          rw [k1, k2] at k3
          exact k3
        · intro D H' hD s1 hl'
          walk_at "ss"
          refine s_all (bs := (List.range ds.length).map fun i => sameB (ds.getD i .none) (es.getD i .none)) ?_ ?_
          · rw [hl', List.map_map, ← e1]
            rfl
          · have := fin H' s1
            rw [← same_all hl] at this
            rw [List.all_map]
            exact this
      · have := fin H (Same.refl H)
        rw [show @decide (ds = es) (Classical.propDecidable _) = false by simp; intro h; apply e; rw [e1, e2, h]] at this
        exact this
    | dict _ => exact False.elim hY
    | _ =>
      walk_at "same"
      exact no (fun h => by cases h)
  | tuple ds =>
    obtain ⟨a, xs, rfl, ha, hxs⟩ := hX
    cases n with
    | zero => exact False.elim hf
    | succ n =>
    cases e with
    | tuple es =>
      obtain ⟨b, ys, rfl, hb, hys⟩ := hY
      walk_at "same"
      have e1 := hxs.len
      have e2 := hys.len
      have fin : ∀ H', Same H H' → Q (.bl (@decide (ds = es) (Classical.propDecidable _))) H' := fun H' s => by
        have w := hq H' s
        have e1 : sameB (.tuple ds) (.tuple es) = @decide (ds = es) (Classical.propDecidable _) := by
          by_cases h : ds = es
          · rw [sameB_eq (by rw [h])]; simp [h]
          · rw [sameB_ne (by simpa using h)]; simp [h]
        rw [e1] at w
        exact w
      have hL := hf.1
      refine s_lenT ha ?_
      walk_at "ss"
      refine s_lenT hb ?_
      walk_at "ss"
      refine s_itd (fun e => ?_) (fun e => ?_)
      · have hl : ds.length = es.length := by omega
        walk_at "ss"
        refine s_lenT ha ?_
        walk_at "ss"
        refine lcr_map (fun x => match x with | .int i => .bl (sameB (ds.getD i.toNat .none) (es.getD i.toNat .none)) | _ => .non) (by omega) (by omega) ?_ ?_
        · intro i hi H' s1 Q' hQ
          obtain ⟨v, d, h1, h2, h3⟩ := hxs.at (i := i) (by omega)
          obtain ⟨w, e', g1, g2, g3⟩ := hys.at (i := i) (by omega)
          walk_at "ss"
          refine s_ixT (s1 _ _ ha) (v := v) (atI_nat h1) ?_
          walk_at "ss"
          refine s_ixT (s1 _ _ hb) (v := w) (atI_nat g1) ?_
          walk_at "ss"
          refine ⟨_, _, rfl, d, e', h3.keep s1, g3.keep s1, hf.2 d (List.mem_of_getElem? h2), fun H2 s2 => ?_⟩
          have k1 : ds.getD i .none = d := by simp [List.getD, h2]
          have k2 : es.getD i .none = e' := by simp [List.getD, g2]
          have k3 : Q' (.bl (sameB (ds.getD i .none) (es.getD i .none))) H2 := hQ H2 s2
          rw [k1, k2] at k3
          exact k3
        · intro D H' hD s1 hl'
          walk_at "ss"
          refine s_all (bs := (List.range ds.length).map fun i => sameB (ds.getD i .none) (es.getD i .none)) ?_ ?_
          · rw [hl', List.map_map, ← e1]
            rfl
          · have := fin H' s1
            rw [← same_all hl] at this
            rw [List.all_map]
            exact this
      · have := fin H (Same.refl H)
        rw [show @decide (ds = es) (Classical.propDecidable _) = false by simp; intro h; apply e; rw [e1, e2, h]] at this
        exact this
    | dict _ => exact False.elim hY
    | _ =>
      walk_at "same"
      exact no (fun h => by cases h)
  | dict _ => exact False.elim hX
end Rd
namespace Rd
open PySem PySem.Spec PyProof.Rows L2 He Px
def SLt (a b : Str) : Prop := a.cps.toList < b.cps.toList
instance : DecidableRel SLt := fun a b => inferInstanceAs (Decidable (a.cps.toList < b.cps.toList))
theorem SLt.irr {a : Str} : ¬ SLt a a := List.lt_irrefl _
theorem SLt.tr {a b c : Str} (h : SLt a b) (g : SLt b c) : SLt a c := List.lt_trans h g
theorem SLt.tri {a b : Str} (h : ¬ SLt a b) (g : ¬ SLt b a) : a = b := str_ext (List.le_antisymm (List.not_lt.mp g) (List.not_lt.mp h))
def Ord (l : List Str) : Prop := l.Pairwise SLt
theorem Ord.uniq : ∀ {a b : List Str}, Ord a → Ord b → (∀ x, x ∈ a ↔ x ∈ b) → a = b
  | [], [], _, _, _ => rfl
  | [], y :: b, _, _, h => absurd ((h y).mpr List.mem_cons_self) List.not_mem_nil
  | x :: a, [], _, _, h => absurd ((h x).mp List.mem_cons_self) List.not_mem_nil
  | x :: a, y :: b, ha, hb, h => by
    have ha' := List.pairwise_cons.mp ha
    have hb' := List.pairwise_cons.mp hb
    have e : x = y := by
      rcases List.mem_cons.mp ((h x).mp List.mem_cons_self) with e | e
      · exact e
      · rcases List.mem_cons.mp ((h y).mpr List.mem_cons_self) with e2 | e2
        · exact e2.symm
        · exact absurd (SLt.tr (hb'.1 x e) (ha'.1 y e2)) SLt.irr
    subst e
    rw [Ord.uniq ha'.2 hb'.2 fun z => ⟨fun hz => ?_, fun hz => ?_⟩]
    · rcases List.mem_cons.mp ((h z).mp (List.mem_cons_of_mem _ hz)) with e | e
      · subst e; exact absurd (ha'.1 z hz) SLt.irr
      · exact e
    · rcases List.mem_cons.mp ((h z).mpr (List.mem_cons_of_mem _ hz)) with e | e
      · subst e; exact absurd (hb'.1 z hz) SLt.irr
      · exact e
def ins (x : Str) : List Str → List Str
  | [] => [x]
  | y :: r => if x = y then y :: r else if SLt x y then x :: y :: r else y :: ins x r
theorem mem_ins {x z : Str} : ∀ {l : List Str}, z ∈ ins x l ↔ z = x ∨ z ∈ l
  | [] => by simp [ins]
  | y :: r => by
    unfold ins
    by_cases e : x = y
    · rw [if_pos e]; subst e; simp
    · rw [if_neg e]
      by_cases g : SLt x y
      · rw [if_pos g]; simp
      · rw [if_neg g, List.mem_cons, mem_ins, List.mem_cons]
        constructor
        · rintro (h | h | h)
          · exact .inr (.inl h)
          · exact .inl h
          · exact .inr (.inr h)
        · rintro (h | h | h)
          · exact .inr (.inl h)
          · exact .inl h
          · exact .inr (.inr h)
theorem ord_ins {x : Str} : ∀ {l : List Str}, Ord l → Ord (ins x l)
  | [], _ => List.pairwise_singleton _ _
  | y :: r, h => by
    unfold ins
    have h' := List.pairwise_cons.mp h
    by_cases e : x = y
    · rw [if_pos e]; exact h
    · rw [if_neg e]
      by_cases g : SLt x y
      · rw [if_pos g]
        refine List.pairwise_cons.mpr ⟨fun z hz => ?_, h⟩
        rcases List.mem_cons.mp hz with rfl | hz
        · exact g
        · exact g.tr (h'.1 z hz)
      · rw [if_neg g]
        refine List.pairwise_cons.mpr ⟨fun z hz => ?_, ord_ins h'.2⟩
        rcases mem_ins.mp hz with rfl | hz
        · by_cases g2 : SLt y z
          · exact g2
          · exact absurd (SLt.tri g g2) e
        · exact h'.1 z hz
def srt : List Str → List Str
  | [] => []
  | x :: r => ins x (srt r)
theorem mem_srt {z : Str} : ∀ {l : List Str}, z ∈ srt l ↔ z ∈ l
  | [] => Iff.rfl
  | x :: r => by rw [srt, mem_ins, mem_srt, List.mem_cons]
theorem ord_srt : ∀ l : List Str, Ord (srt l)
  | [] => List.Pairwise.nil
  | x :: r => ord_ins (ord_srt r)
theorem srt_eq {l a : List Str} (h : Ord a) (m : ∀ x, x ∈ a ↔ x ∈ l) : a = srt l := Ord.uniq h (ord_srt l) fun x => (m x).trans mem_srt.symm
def flat (zs : List Str) (l : List Str) : List Str := l.flatMap fun n => [n, ("-" : Str) ++ n].filter fun z => decide (z ∈ zs)
def litO (ls : List Str) : List Str := flat ls (srt (ls.map bare))
theorem dash_app (z : Str) : dash (("-" : Str) ++ z) = true := (dash_iff _).mpr ⟨z.cps.toList, by rw [app_toList]; rfl⟩
theorem tail_app (z : Str) : cutS (("-" : Str) ++ z) (some 1) none = z := str_ext (by rw [cut_tail, app_toList]; rfl)
theorem bare_app (z : Str) : bare (("-" : Str) ++ z) = z := by
  unfold bare
  rw [if_pos (dash_app z), tail_app]
theorem nm_first {z : Str} (h : isNm z = true) : ∃ c r, z.cps.toList = c :: r ∧ c ∈ lettersL ∧ (∀ x ∈ z.cps.toList, x ∈ signsL) ∧ 1 ≤ z.length ∧ z.length ≤ 8 := by
  unfold isNm at h
  rw [Bool.and_eq_true, Bool.and_eq_true, Bool.and_eq_true] at h
  obtain ⟨h1, h2, h3, h4⟩ := h
  have h1 : ¬ (z.length : Int) < 1 := by simpa using h1
  have h2 : ¬ (8 : Int) < (z.length : Int) := by simpa using h2
  cases e : z.cps.toList with
  | nil => rw [e] at h3; cases h3
  | cons c r =>
    rw [e] at h3 h4
    refine ⟨c, r, rfl, of_decide_eq_true h3, fun x hx => ?_, by omega, by omega⟩
    exact of_decide_eq_true (List.all_eq_true.mp h4 x hx)
theorem dash45 : (45 : Nat) ∉ lettersL := by decide +kernel
theorem nm_nodash {z : Str} (h : isNm z = true) : dash z = false := by
  obtain ⟨c, r, e, hc, _⟩ := nm_first h
  cases hd : dash z with
  | false => rfl
  | true =>
    obtain ⟨r2, e2⟩ := (dash_iff z).mp hd
    rw [e] at e2
    have : c = 45 := (List.cons.inj e2).1
    subst this
    exact absurd hc dash45
theorem nm_bare {z : Str} (h : isNm z = true) : bare z = z := by
  unfold bare
  rw [nm_nodash h, if_neg Bool.false_ne_true]
theorem nm_lit {z : Str} (h : isNm z = true) : isLit z = true := by unfold isLit; rw [nm_bare h]; exact h
theorem neg_lit {z : Str} (h : isNm z = true) : isLit (("-" : Str) ++ z) = true := by unfold isLit; rw [bare_app]; exact h
theorem bare_eq {z : Str} (h : dash z = true) : ("-" : Str) ++ bare z = z := by
  obtain ⟨r, e⟩ := (dash_iff z).mp h
  apply str_ext
  rw [app_toList]
  unfold bare
  rw [if_pos h, cut_tail, e]
  rfl
theorem lit_cases {z : Str} (h : isLit z = true) : z = bare z ∨ z = ("-" : Str) ++ bare z := by
  cases hd : dash z with
  | false => left; unfold bare; rw [hd, if_neg Bool.false_ne_true]
  | true => right; exact (bare_eq hd).symm
theorem flip_lit {z : Str} (h : isLit z = true) : isLit (flip z) = true := by
  unfold flip
  cases hd : dash z with
  | true =>
    rw [if_pos rfl]
    have e : bare z = cutS z (some 1) none := by unfold bare; rw [if_pos hd]
    rw [← e]
    exact nm_lit h
  | false =>
    rw [if_neg Bool.false_ne_true]
    have e : bare z = z := by unfold bare; rw [hd, if_neg Bool.false_ne_true]
    have h2 : isNm (bare z) = true := h
    rw [e] at h2
    exact neg_lit h2
def badN (zs : List Str) : Option Str := zs.find? fun z => !isNm z
theorem flip_bare {z : Str} (h : isLit z = true) : bare (flip z) = bare z := by
  unfold flip
  cases hd : dash z with
  | true =>
    rw [if_pos rfl]
    have e : bare z = cutS z (some 1) none := by unfold bare; rw [if_pos hd]
    rw [← e]
    exact nm_bare h
  | false =>
    rw [if_neg Bool.false_ne_true, bare_app]
    unfold bare
    rw [hd, if_neg Bool.false_ne_true]
def IsCl (K : PySem.W.Frag) (H : Hp) (c : Addr) (ls : List Str) : Prop := ∃ dx q, H c = some (.ins (ga K "Clause") dx [("literals", .ref q)]) ∧ H q = some (.tup (ls.map V.str))
theorem IsCl.keep {K : PySem.W.Frag} {H H' : Hp} {c : Addr} {ls : List Str} (h : IsCl K H c ls) (s : Same H H') : IsCl K H' c ls := by
  obtain ⟨dx, q, h1, h2⟩ := h
  exact ⟨dx, q, s _ _ h1, s _ _ h2⟩
theorem DpAll.strs {K : PySem.W.Frag} {H : Hp} : ∀ l : List Str, DpAll K H (l.map V.str) (l.map PyData.str)
  | [] => .nil
  | x :: r => .cons (.str x) (DpAll.strs r)
theorem litO_mem {zs : List Str} {z : Str} (h : z ∈ litO zs) : z ∈ zs := by
  unfold litO flat at h
  obtain ⟨n, _, hz⟩ := List.mem_flatMap.mp h
  exact of_decide_eq_true (List.mem_filter.mp hz).2
theorem litO_iff {zs : List Str} (h : ∀ z ∈ zs, isLit z = true) {z : Str} : z ∈ litO zs ↔ z ∈ zs := by
  refine ⟨litO_mem, fun hz => ?_⟩
  unfold litO flat
  refine List.mem_flatMap.mpr ⟨bare z, mem_srt.mpr (List.mem_map_of_mem hz), ?_⟩
  refine List.mem_filter.mpr ⟨?_, decide_eq_true hz⟩
  rcases lit_cases (h z hz) with e | e
  · rw [← e]; exact List.mem_cons_self
  · rw [← e]; exact List.mem_cons_of_mem _ List.mem_cons_self
theorem three {H : Hp} {q : Addr} {x y z : V} {d e f : PyData} (h : H q = some (.tup [x, y, z])) (h1 : Is H x d) (h2 : Is H y e) (h3 : Is H z f) : Is H (.ref q) (.tuple [d, e, f]) := .tup h (.cons h1 (.cons h2 (.cons h3 .nil)))
theorem ins_len_new {x : Str} : ∀ {l : List Str}, x ∉ l → (ins x l).length = l.length + 1
  | [], _ => rfl
  | y :: r, h => by
    have h1 : ¬ x = y := fun e => h (e ▸ List.mem_cons_self)
    have h2 : x ∉ r := fun m => h (List.mem_cons_of_mem _ m)
    have ih := ins_len_new h2
    unfold ins
    rw [if_neg h1]
    split
    · rfl
    · rw [List.length_cons, ih]
      rfl
theorem srt_len_nd : ∀ {l : List Str}, l.Nodup → (srt l).length = l.length
  | [], _ => rfl
  | x :: r, h => by
    obtain ⟨h1, h2⟩ := List.nodup_cons.mp h
    show (ins x (srt r)).length = _
    rw [ins_len_new fun m => h1 (mem_srt.mp m), srt_len_nd h2]
    rfl
theorem inj_bare : ∀ {zs : List Str}, (zs.map bare).Nodup → ∀ x ∈ zs, ∀ y ∈ zs, bare x = bare y → x = y
  | [], _, x, hx, _, _, _ => by cases hx
  | z :: r, h, x, hx, y, hy, e => by
    obtain ⟨h1, h2⟩ := List.nodup_cons.mp (show (bare z :: r.map bare).Nodup from h)
    rcases List.mem_cons.mp hx with hx' | hx'
    · rcases List.mem_cons.mp hy with hy' | hy'
      · rw [hx', hy']
      · refine absurd ?_ h1
        rw [← hx', e]
        exact List.mem_map_of_mem hy'
    · rcases List.mem_cons.mp hy with hy' | hy'
      · refine absurd ?_ h1
        rw [← hy', ← e]
        exact List.mem_map_of_mem hx'
      · exact inj_bare h2 x hx' y hy' e
theorem neg_ne (n : Str) : n ≠ ("-" : Str) ++ n := fun e => by
  have := congrArg (fun z : Str => z.cps.toList.length) e
  simp only [app_toList, List.length_append] at this
  have h1 : (("-" : Str).cps.toList).length = 1 := rfl
  omega
theorem flat_len_one {zs : List Str} : ∀ {l : List Str}, (∀ n ∈ l, (n ∈ zs ∨ ("-" : Str) ++ n ∈ zs) ∧ ¬ (n ∈ zs ∧ ("-" : Str) ++ n ∈ zs)) → (flat zs l).length = l.length
  | [], _ => rfl
  | n :: r, h => by
    have ih := flat_len_one (zs := zs) (l := r) fun m hm => h m (List.mem_cons_of_mem _ hm)
    have hn := h n List.mem_cons_self
    have e : flat zs (n :: r) = ([n, ("-" : Str) ++ n].filter fun z => decide (z ∈ zs)) ++ flat zs r := by unfold flat; rw [List.flatMap_cons]
    rw [e, List.length_append, ih, List.length_cons]
    by_cases h1 : n ∈ zs <;> by_cases h2 : ("-" : Str) ++ n ∈ zs <;> simp [h1, h2] at hn ⊢ <;> omega
theorem litO_len_nd {zs : List Str} (h : ∀ z ∈ zs, isLit z = true) (hn : (zs.map bare).Nodup) : (litO zs).length = zs.length := by
  have e := srt_len_nd hn
  rw [List.length_map] at e
  rw [← e]
  refine flat_len_one fun n hm => ?_
  obtain ⟨y, hy, rfl⟩ := List.mem_map.mp (mem_srt.mp hm)
  constructor
  · rcases lit_cases (h y hy) with e | e
    · left; rw [← e]; exact hy
    · right; rw [← e]; exact hy
  · rintro ⟨h1, h2⟩
    refine neg_ne (bare y) (inj_bare hn _ h1 _ h2 ?_)
    rw [bare_app, nm_bare (h y hy)]
theorem filt_nd {zs : List Str} (p : Str → Bool) (hn : (zs.map bare).Nodup) : ((zs.filter p).map bare).Nodup := hn.sublist ((List.filter_sublist (l := zs)).map bare)
structure Row6 (zs : List Str) : Prop where
  len : zs.length ≤ 6
  lit : ∀ z ∈ zs, isLit z = true
  nd : (zs.map bare).Nodup
theorem Row6.filter {zs : List Str} (h : Row6 zs) (p : Str → Bool) : Row6 (zs.filter p) := ⟨by have := List.length_filter_le p zs; have := h.len; omega, fun z hz => h.lit z (List.mem_filter.mp hz).1, filt_nd p h.nd⟩
theorem Row6.reverse {zs : List Str} (h : Row6 zs) : Row6 zs.reverse := ⟨by rw [List.length_reverse]; exact h.len, fun z hz => h.lit z (List.mem_reverse.mp hz), by rw [List.map_reverse]; exact List.pairwise_reverse.mpr (h.nd.imp Ne.symm)⟩
theorem Row6.litO {zs : List Str} (h : Row6 zs) : (litO zs).length = zs.length := litO_len_nd h.lit h.nd
theorem Row6.mem {zs : List Str} (h : Row6 zs) {z : Str} : z ∈ Rd.litO zs ↔ z ∈ zs := litO_iff h.lit
theorem same_un {H H' : Hp} {q : Addr} (s : Same H H') (h : H' q = none) : H q = none := by
  cases e : H q with
  | none => rfl
  | some o => rw [s _ _ e] at h; cases h
def IsTu (K : PySem.W.Frag) (H : Hp) (c : Addr) (ns : List Str) : Prop := ∃ dx q, H c = some (.ins (ga K "Turning") dx [("turned", .ref q)]) ∧ H q = some (.tup (ns.map V.str))
theorem IsTu.keep {K : PySem.W.Frag} {H H' : Hp} {c : Addr} {ns : List Str} (h : IsTu K H c ns) (s : Same H H') : IsTu K H' c ns := by
  obtain ⟨dx, q, h1, h2⟩ := h
  exact ⟨dx, q, s _ _ h1, s _ _ h2⟩
structure ChT (K : PySem.W.Frag) (zs : List Str) (H : Hp) (E : XK) (ok : Prop) : Prop where
  bad : ∀ z, badN zs = some z → ∀ H' d, Same H H' → H' d = some (.xd [("text", .str z)]) → E (.ref (ga K "BadName")) (some d) H'
  many : badN zs = none → (12 : Int) < ((srt zs).length : Int) → ∀ H' d, Same H H' → H' d = some (.xd [("limit", .int 12)]) → E (.ref (ga K "TooMany")) (some d) H'
  fine : badN zs = none → ((srt zs).length : Int) ≤ 12 → ok
theorem ChT.keep {K : PySem.W.Frag} {zs : List Str} {H H1 : Hp} {E : XK} {ok ok' : Prop} (h : ChT K zs H E ok) (s : Same H H1) (f : ok → ok') : ChT K zs H1 E ok' :=
  ⟨fun z e H' d s' => h.bad z e H' d (s.trans s'), fun e e2 H' d s' => h.many e e2 H' d (s.trans s'), fun e e2 => f (h.fine e e2)⟩
abbrev CkT (K : PySem.W.Frag) (zs : List Str) (H : Hp) (Q : VK) (E : XK) : Prop := ChT K zs H E (∀ H' c, Same H H' → H c = none → IsTu K H' c (srt zs) → Q (.ref c) H')
theorem CkT.keep {K : PySem.W.Frag} {zs : List Str} {H H1 : Hp} {Q : VK} {E : XK} (h : CkT K zs H Q E) (s : Same H H1) : CkT K zs H1 Q E := ChT.keep h s fun ok H' c s2 hc => ok H' c (s.trans s2) (same_un s hc)
structure Tn (ns : List Str) : Prop where
  nm : ∀ z ∈ ns, isNm z = true
  ord : Ord ns
  len : ns.length ≤ 12
theorem Tn.srt {ns : List Str} (h : Tn ns) : srt ns = ns := (srt_eq h.ord fun _ => Iff.rfl).symm
theorem Tn.of {zs : List Str} (hn : ∀ z ∈ zs, isNm z = true) (hl : (Rd.srt zs).length ≤ 12) : Tn (Rd.srt zs) := ⟨fun z h => hn z (mem_srt.mp h), ord_srt zs, hl⟩
def turnL (ns : List Str) (z : Str) : Str := if bare z ∈ ns then flip z else z
theorem turnL_lit {ns : List Str} {z : Str} (h : isLit z = true) : isLit (turnL ns z) = true := by
  unfold turnL
  split
  · exact flip_lit h
  · exact h
theorem turnL_bare {ns : List Str} {z : Str} (h : isLit z = true) : bare (turnL ns z) = bare z := by
  unfold turnL
  split
  · exact flip_bare h
  · rfl
def MkT (K : PySem.W.Frag) (ns : List Str) (H : Hp) (Q : VK) (E : XK) : Prop := (ns.length ≤ 12 → ∀ H' c, Same H H' → H c = none → IsTu K H' c ns → Q (.ref c) H') ∧ (12 < ns.length → ∀ H' d, Same H H' → H' d = some (.xd [("limit", .int 12)]) → E (.ref (ga K "TooMany")) (some d) H')
theorem MkT.keep {K : PySem.W.Frag} {ns : List Str} {H H1 : Hp} {Q : VK} {E : XK} (h : MkT K ns H Q E) (s : Same H H1) : MkT K ns H1 Q E := ⟨fun l H' c s2 hc => h.1 l H' c (s.trans s2) (same_un s hc), fun l H' d s2 => h.2 l H' d (s.trans s2)⟩
theorem MkT.fine {K : PySem.W.Frag} {ns : List Str} {H : Hp} {Q : VK} {E : XK} (hl : ns.length ≤ 12) (h : ∀ H' c, Same H H' → H c = none → IsTu K H' c ns → Q (.ref c) H') : MkT K ns H Q E := ⟨fun _ => h, fun l => by omega⟩
theorem Row6.turn {zs : List Str} (h : Row6 zs) (ns : List Str) : Row6 (zs.map (turnL ns)) := ⟨by rw [List.length_map]; exact h.len, fun z hz => by
    obtain ⟨y, hy, rfl⟩ := List.mem_map.mp hz
    exact turnL_lit (h.lit y hy), by
    have e : (zs.map (turnL ns)).map bare = zs.map bare := by
      rw [List.map_map]
      exact List.map_congr_left fun z hz => turnL_bare (h.lit z hz)
    rw [e]
    exact h.nd⟩
structure Nms (zs : List Str) : Prop where
  len : zs.length ≤ 12
  nm : ∀ z ∈ zs, isNm z = true
  nd : zs.Nodup
theorem Row6.sub {zs ys : List Str} (h : Row6 zs) (s : ys.Sublist zs) : Row6 ys := ⟨Nat.le_trans s.length_le h.len, fun z hz => h.lit z (s.subset hz), h.nd.sublist (s.map bare)⟩
theorem IsTu.upd {K : PySem.W.Frag} {H : Hp} {c D : Addr} {ns : List Str} {zs ws : List V} (h : IsTu K H c ns) (hD : H D = some (.lst zs)) : IsTu K (L2.upd H D (.lst ws)) c ns := by
  obtain ⟨dx, q, h1, h2⟩ := h
  refine ⟨dx, q, ?_, ?_⟩
  · rw [upd_ne (fun e => by rw [e, hD] at h1; cases h1)]; exact h1
  · rw [upd_ne (fun e => by rw [e, hD] at h2; cases h2)]; exact h2
theorem Nms.sub {l zs : List Str} (hn : ∀ z ∈ l, isNm z = true) (hd : l.Nodup) (s : zs.Sublist l) (hl : zs.length ≤ 12) : Nms zs := ⟨hl, fun z h => hn z (s.subset h), hd.sublist s⟩
theorem Nms.rev {zs : List Str} (h : Nms zs) : Nms zs.reverse := ⟨by rw [List.length_reverse]; exact h.len, fun z hz => h.nm z (List.mem_reverse.mp hz), List.pairwise_reverse.mpr (h.nd.imp Ne.symm)⟩
structure Rows3 (H : Hp) (r : Addr) (rs : List Addr) (zss : List (List Str)) : Prop where
  at_ : H r = some (.lst (rs.map V.ref))
  lr : rs.length = 3
  lz : zss.length = 3
  row : ∀ i, i < 3 → ∃ q z, rs[i]? = some q ∧ zss[i]? = some z ∧ H q = some (.lst (z.map V.str)) ∧ Nms z
theorem Rows3.keep {H H' : Hp} {r : Addr} {rs : List Addr} {zss : List (List Str)} (h : Rows3 H r rs zss) (s : Same H H') : Rows3 H' r rs zss := ⟨s _ _ h.at_, h.lr, h.lz, fun i hi => by
  obtain ⟨q, z, h1, h2, h3, h4⟩ := h.row i hi
  exact ⟨q, z, h1, h2, s _ _ h3, h4⟩⟩
theorem Rows3.of {H : Hp} {r q0 q1 q2 : Addr} {z0 z1 z2 : List Str} (h : H r = some (.lst [.ref q0, .ref q1, .ref q2])) (h0 : H q0 = some (.lst (z0.map V.str))) (h1 : H q1 = some (.lst (z1.map V.str))) (h2 : H q2 = some (.lst (z2.map V.str))) (n0 : Nms z0) (n1 : Nms z1) (n2 : Nms z2) : Rows3 H r [q0, q1, q2] [z0, z1, z2] := ⟨h, rfl, rfl, fun i hi => by
  match i, hi with
  | 0, _ => exact ⟨_, _, rfl, rfl, h0, n0⟩
  | 1, _ => exact ⟨_, _, rfl, rfl, h1, n1⟩
  | 2, _ => exact ⟨_, _, rfl, rfl, h2, n2⟩⟩
abbrev BRow := Int × Addr × List Str
def kvB (rows : List BRow) : List (Key × V) := rows.map fun r => (Sum.inl r.1, V.ref r.2.1)
structure IsBk (K : PySem.W.Frag) (H : Hp) (b d : Addr) (rows : List BRow) (g : Int) : Prop where
  ob : ∃ dx, H b = some (.ins (ga K "Book") dx [("rows", .ref d), ("greatest", .int g)])
  di : H d = some (.dK (kvB rows))
  cl : ∀ r ∈ rows, IsCl K H r.2.1 r.2.2
theorem IsBk.keep {K : PySem.W.Frag} {H H' : Hp} {b d : Addr} {rows : List BRow} {g : Int} (h : IsBk K H b d rows g) (s : Same H H') : IsBk K H' b d rows g := by
  obtain ⟨dx, o⟩ := h.ob
  exact ⟨⟨dx, s _ _ o⟩, s _ _ h.di, fun r hr => (h.cl r hr).keep s⟩
def Chg (b d : Addr) (H H' : Hp) : Prop := ∀ a o, H a = some o → a ≠ b → a ≠ d → H' a = some o
theorem Chg.refl (b d : Addr) (H : Hp) : Chg b d H H := fun _ _ h _ _ => h
theorem Chg.trans {b d : Addr} {H H1 H2 : Hp} (x : Chg b d H H1) (y : Chg b d H1 H2) : Chg b d H H2 := fun a o h n m => y a o (x a o h n m) n m
theorem IsBk.ne {K : PySem.W.Frag} {H : Hp} {b d : Addr} {rows : List BRow} {g : Int} (B : IsBk K H b d rows g) : b ≠ d := by
  obtain ⟨dx, o⟩ := B.ob
  exact ne_of o B.di (fun z => by cases z)
theorem map_str_inj : ∀ {a b : List Str}, a.map V.str = b.map V.str → a = b
  | [], [], _ => rfl
  | [], _ :: _, h => by cases h
  | _ :: _, [], h => by cases h
  | x :: a, y :: b, h => by
    injection h with h1 h2
    injection h1 with h1
    rw [h1, map_str_inj h2]
theorem IsCl.fn {K : PySem.W.Frag} {H : Hp} {c : Addr} {l1 l2 : List Str} (h1 : IsCl K H c l1) (h2 : IsCl K H c l2) : l1 = l2 := by
  obtain ⟨dx, q, a1, a2⟩ := h1
  obtain ⟨dy, q', b1, b2⟩ := h2
  rw [a1] at b1
  have e := Option.some.inj b1
  injection e with _ _ e
  injection e with e _
  injection e with _ e
  injection e with e
  subst e
  rw [a2] at b2
  have e := Option.some.inj b2
  injection e with e
  exact map_str_inj e
structure Bok (rows : List BRow) (g : Int) : Prop where
  asc : (rows.map (·.1)).Pairwise (· < ·)
  top : ∀ r ∈ rows, 1 ≤ r.1 ∧ r.1 ≤ g
  lit : ∀ r ∈ rows, ∀ z ∈ r.2.2, isLit z = true
  few : (rows.flatMap (·.2.2)).length ≤ 900
  len : rows.length ≤ 100
theorem few_filter {rows : List BRow} {p : BRow → Bool} : ((rows.filter p).flatMap (·.2.2)).length ≤ (rows.flatMap (·.2.2)).length := by
  induction rows with
  | nil => exact Nat.le_refl _
  | cons r rs ih =>
    rw [List.filter_cons]
    split
    · rw [List.flatMap_cons, List.flatMap_cons, List.length_append, List.length_append]
      omega
    · rw [List.flatMap_cons, List.length_append]
      omega
theorem Bok.drop {rows : List BRow} {g : Int} (h : Bok rows g) (p : BRow → Bool) : Bok (rows.filter p) g :=
  ⟨(h.asc.sublist (List.filter_sublist.map _)), fun r hr => h.top r (List.mem_filter.mp hr).1, fun r hr => h.lit r (List.mem_filter.mp hr).1, Nat.le_trans few_filter h.few, Nat.le_trans (List.length_filter_le _ _) h.len⟩
theorem Bok.put {rows : List BRow} {g : Int} {c : Addr} {ls : List Str} (h : Bok rows g) (hg : 0 ≤ g) (hl : ∀ z ∈ ls, isLit z = true) (hf : (rows.flatMap (·.2.2)).length + ls.length ≤ 900) (hn : rows.length < 100) : Bok (rows ++ [(g + 1, c, ls)]) (g + 1) := by
  refine ⟨?_, fun r hr => ?_, fun r hr => ?_, ?_, ?_⟩
  · rw [List.map_append, List.pairwise_append]
    refine ⟨h.asc, List.pairwise_singleton _ _, fun a ha b hb => ?_⟩
    obtain ⟨r, hr, rfl⟩ := List.mem_map.mp ha
    have : b = g + 1 := by simpa using hb
    have := h.top r hr
    omega
  · rcases List.mem_append.mp hr with hr | hr
    · have := h.top r hr
      omega
    · have e : r = (g + 1, c, ls) := by simpa using hr
      subst e
      exact ⟨by show 1 ≤ g + 1; omega, by show g + 1 ≤ g + 1; omega⟩
  · rcases List.mem_append.mp hr with hr | hr
    · exact h.lit r hr
    · have e : r = (g + 1, c, ls) := by simpa using hr
      subst e
      exact hl
  · rw [List.flatMap_append, List.length_append]
    simp only [List.flatMap_cons, List.flatMap_nil, List.append_nil]
    exact hf
  · rw [List.length_append]
    show rows.length + 1 ≤ 100
    omega
theorem Bok.fresh {rows : List BRow} {g : Int} (h : Bok rows g) : g + 1 ∉ rows.map (·.1) := fun m => by
  obtain ⟨r, hr, e⟩ := List.mem_map.mp m
  have := h.top r hr
  omega
def ErrM (K : PySem.W.Frag) (n : Int) (H : Hp) (E : XK) : Prop := ∀ H' d, Same H H' → H' d = some (.xd [("limit", .int n)]) → E (.ref (ga K "TooMany")) (some d) H'
theorem ErrM.keep {K : PySem.W.Frag} {n : Int} {H H1 : Hp} {E : XK} (h : ErrM K n H E) (s : Same H H1) : ErrM K n H1 E := fun H' d s' hd => h H' d (s.trans s') hd
structure IsRw (H : Hp) (p : Addr) (rs : List (Addr × List Str)) : Prop where
  li : H p = some (.lst (rs.map fun r => V.ref r.1))
  ro : ∀ r ∈ rs, H r.1 = some (.lst (r.2.map V.str))
theorem IsRw.keep {H H' : Hp} {p : Addr} {rs : List (Addr × List Str)} (h : IsRw H p rs) (s : Same H H') : IsRw H' p rs := ⟨s _ _ h.li, fun r hr => s _ _ (h.ro r hr)⟩
open Dx
def IsSrcD (c : D) : Prop := ∃ (cells : List Int) (i cur cnt mode : Int), c = .lst [.lst (cells.map .int), .int i, .int cur, .int cnt, .int mode] ∧ 0 ≤ i ∧ cells.length ≤ 100
def IsSrc (S : Sto) (n : Nat) : Prop := ∃ c, S[n]? = some c ∧ IsSrcD c
theorem IsSrc.lt {S : Sto} {n : Nat} (h : IsSrc S n) : n < S.length := by
  obtain ⟨c, e, _⟩ := h
  exact (List.getElem?_eq_some_iff.mp e).1
theorem IsSrc.app {S G : Sto} {n : Nat} (h : IsSrc S n) : IsSrc (S ++ G) n := by
  obtain ⟨c, e, i⟩ := h
  exact ⟨c, by rw [List.getElem?_append_left ((List.getElem?_eq_some_iff.mp e).1)]; exact e, i⟩
theorem IsSrc.set {S : Sto} {n : Nat} {c : D} (h : IsSrc S n) (i : IsSrcD c) : IsSrc (S.set n c) n := ⟨c, by rw [List.getElem?_set_self h.lt], i⟩
theorem IsSrcD.lt {c : D} (h : IsSrcD c) (b : Nat) : ltD b c := by
  obtain ⟨cells, i, cur, cnt, mode, rfl, _⟩ := h
  exact lt_lst (lt_cons (lt_lst (ltL_map fun _ => lt_int)) (lt_cons lt_int (lt_cons lt_int (lt_cons lt_int (lt_cons lt_int lt_nil)))))
section
variable {K : PySem.W.Frag} {H H' : Hp} {A : Ads} {S : Sto} {n : Nat} {a : Addr} {v : V}
theorem int_of {i : Int} {v : V} (t : Dt K H A v (.int i)) : v = .int i := by cases t; rfl
theorem ints_at {ns : List Int} {v : V} (t : Dt K H A v (.lst (ns.map .int))) : ∃ a, v = .ref a ∧ H a = some (.lst (ns.map V.int)) ∧ Out A a := by
  cases t with
  | lst h o r => rw [r.intsV] at h; exact ⟨_, rfl, h, o⟩
theorem src_of (C : Cells K H A S) (h : IsSrc S n) (ha : A.c[n]? = some (some a)) : Src H a := by
  obtain ⟨c, e, cells, i, cur, cnt, mode, rfl, h1, h2⟩ := h
  obtain ⟨c', e', k⟩ := C.at_ n a ha
  rw [e] at e'
  cases e'
  obtain ⟨xs, hx, r⟩ := k
  cases r with | cons t0 r => cases r with | cons t1 r => cases r with | cons t2 r => cases r with | cons t3 r => cases r with | cons t4 r =>
    cases r
    obtain ⟨q, rfl, hq, _⟩ := ints_at t0
    rw [int_of t1, int_of t2, int_of t3, int_of t4] at hx
    exact ⟨q, cells, i, cur, cnt, mode, hx, hq, h1, h2⟩
theorem src_back (C : Cells K H A S) (h : IsSrc S n) (ha : A.c[n]? = some (some a)) (m : Mov a H H') (s : Src H' a) : ∃ c, IsSrcD c ∧ Cells K H' A (S.set n c) ∧ Later H A H' A := by
  obtain ⟨c0, e, cells0, i0, cur0, cnt0, mode0, rfl, _, _⟩ := h
  obtain ⟨c', e', k⟩ := C.at_ n a ha
  rw [e] at e'
  cases e'
  obtain ⟨xs, hx, r⟩ := k
  obtain ⟨q', cells, i, cur, cnt, mode, hx', hq', h1, h2⟩ := s
  cases r with | cons t0 r =>
    obtain ⟨q, rfl, hq, oq⟩ := ints_at t0
    obtain ⟨ys, hy⟩ := m.cell q _ hx
    rw [hx'] at hy
    have hy := Option.some.inj hy
    injection hy with hy
    injection hy with e1 _
    injection e1 with e1
    subst e1
    have l : Later H A H' A := ⟨⟨fun b u eb ob => ⟨m.but _ _ eb (fun z => ob.c (by rw [z]; exact List.mem_iff_getElem?.mpr ⟨n, ha⟩)), ob⟩, fun _ _ e => e, Nat.le_refl _, fun _ _ _ e => e⟩, fun b mb => ⟨by
      obtain ⟨u, eb⟩ := C.xs b mb
      rw [eb, m.but _ _ eb (fun z => C.xo n a ha (by rw [← z]; exact mb))], mb⟩, fun b od u eb => m.but _ _ eb (fun z => by rw [z, hx] at eb; cases eb)⟩
    refine ⟨.lst [.lst (cells.map .int), .int i, .int cur, .int cnt, .int mode], ⟨cells, i, cur, cnt, mode, rfl, h1, h2⟩, ⟨by rw [List.length_set]; exact C.len, fun j b ej => ?_, C.inj, fun b mb => ?_, C.xo⟩, l⟩
    · by_cases hj : n = j
      · subst hj
        rw [ha] at ej
        cases ej
        exact ⟨.lst [.lst (cells.map .int), .int i, .int cur, .int cnt, .int mode], by rw [List.getElem?_set_self (by rw [← C.len]; exact (List.getElem?_eq_some_iff.mp ha).1)], _, hx', .cons (.lst hq' oq (Dts.ints _)) (.cons (.int _) (.cons (.int _) (.cons (.int _) (.cons (.int _) .nil))))⟩
      · obtain ⟨c', e1, k'⟩ := C.at_ j b ej
        obtain ⟨u, eb⟩ := k'.here
        exact ⟨c', by rw [List.getElem?_set_ne hj]; exact e1, k'.go l.toKp (by rw [eb]; exact m.but _ _ eb (fun z => hj (C.inj n j a ha (by rw [← z]; exact ej))))⟩
    · obtain ⟨u, eb⟩ := C.xs b mb
      exact ⟨u, by rw [(l.ex b mb).1]; exact eb⟩
def clD (ls : List Str) : D := .obj "Clause" [("literals", .tup (ls.map .str))]
end
mutual
def plain : D → Bool
  | .non => true
  | .bl _ => true
  | .int _ => true
  | .str _ => true
  | .lst ds => plainL ds
  | .tup ds => plainL ds
  | .obj _ _ => false
  | .dic _ _ => false
  | .hdl _ => false
  | .fz => false
def plainL : List D → Bool
  | [] => true
  | d :: ds => plain d && plainL ds
end
mutual
def pyD : D → PyData
  | .non => .none
  | .bl b => .bool b
  | .int i => .int i
  | .str s => .str s
  | .lst ds => .list (pyL ds)
  | .tup ds => .tuple (pyL ds)
  | .obj _ _ => .none
  | .dic _ _ => .none
  | .hdl _ => .none
  | .fz => .none
def pyL : List D → List PyData
  | [] => []
  | d :: ds => pyD d :: pyL ds
end
section
variable {K : PySem.W.Frag} {H : Hp} {A : Ads}
mutual
theorem dt_is : ∀ {v : V} {d : D}, Dt K H A v d → plain d = true → Is H v (pyD d)
  | _, _, .non, _ => by unfold pyD; exact .non
  | _, _, .bl _, _ => by unfold pyD; exact .bl _
  | _, _, .int _, _ => by unfold pyD; exact .int _
  | _, _, .str _, _ => by unfold pyD; exact .str _
  | _, _, .lst h _ r, p => by unfold pyD; unfold plain at p; exact .lst h (dts_is r p)
  | _, _, .tup h _ r, p => by unfold pyD; unfold plain at p; exact .tup h (dts_is r p)
  | _, _, .obj _ _ _, p => by unfold plain at p; cases p
  | _, _, .dic _ _ _, p => by unfold plain at p; cases p
  | _, _, .hdl _, p => by unfold plain at p; cases p
  | _, _, .fz _, p => by unfold plain at p; cases p
theorem dts_is : ∀ {v : List V} {d : List D}, Dts K H A v d → plainL d = true → IsAll H v (pyL d)
  | _, _, .nil, _ => by unfold pyL; exact .nil
  | _, _, .cons h r, p => by
    unfold pyL
    unfold plainL at p
    rw [Bool.and_eq_true] at p
    exact .cons (dt_is h p.1) (dts_is r p.2)
end
theorem is_rs {S : Sto} {v : V} {d : D} (C : Cells K H A S) (t : Dt K H A v d) (p : plain (rs S d) = true) : Is H v (pyD (rs S d)) := by
  cases d with
  | hdl n =>
    cases t with
    | hdl ha =>
      obtain ⟨c, hc, k⟩ := C.at_ _ _ ha
      rw [rs_h hc] at p ⊢
      cases c <;> first
        | exact k.elim
        | (unfold plain at p; cases p; done)
        | skip
      obtain ⟨xs, hx, r⟩ := k
      unfold plain at p
      unfold pyD
      exact .lst hx (dts_is r p)
  | _ => exact dt_is t p
end
theorem plain_map {α : Type} {f : α → D} {l : List α} (h : ∀ x, plain (f x) = true) : plainL (l.map f) = true := by
  induction l with
  | nil => unfold plainL; rfl
  | cons a l ih => rw [List.map_cons]; unfold plainL; rw [h, ih]; rfl
theorem plain_lst {l : List D} (h : plainL l = true) : plain (.lst l) = true := by unfold plain; exact h
theorem plain_int {i : Int} : plain (.int i) = true := by unfold plain; rfl
theorem plain_str {i : Str} : plain (.str i) = true := by unfold plain; rfl
theorem plain_bl {i : Bool} : plain (.bl i) = true := by unfold plain; rfl
theorem plain_nil : plainL [] = true := by unfold plainL; rfl
theorem plain_cons {d : D} {l : List D} (h : plain d = true) (h2 : plainL l = true) : plainL (d :: l) = true := by unfold plainL; rw [h, h2]; rfl
theorem pyL_mem {p : PyData} : ∀ {l : List D}, p ∈ pyL l → ∃ d ∈ l, p = pyD d
  | [], h => by unfold pyL at h; cases h
  | d :: l, h => by
    unfold pyL at h
    rcases List.mem_cons.mp h with h | h
    · exact ⟨d, List.mem_cons_self, h⟩
    · obtain ⟨e, he, hp⟩ := pyL_mem h
      exact ⟨e, List.mem_cons_of_mem _ he, hp⟩
theorem pyL_len : ∀ {l : List D}, (pyL l).length = l.length
  | [] => by unfold pyL; rfl
  | d :: l => by unfold pyL; rw [List.length_cons, List.length_cons, pyL_len]
def FitD : Nat → D → Prop
  | 0, d => match d with
    | .lst _ => False
    | .tup _ => False
    | _ => True
  | n + 1, d => match d with
    | .lst ds => ds.length ≤ 1000000 ∧ ∀ e ∈ ds, FitD n e
    | .tup ds => ds.length ≤ 1000000 ∧ ∀ e ∈ ds, FitD n e
    | _ => True
theorem fit_py : ∀ {n : Nat} {d : D}, FitD n d → Fits n (pyD d)
  | 0, d, h => by
    cases d <;> first
      | exact h.elim
      | (unfold pyD; unfold Fits; trivial)
  | n + 1, d, h => by
    cases d <;> first
      | (unfold pyD; unfold Fits; trivial)
      | (obtain ⟨h1, h2⟩ := (show _ ∧ _ from h)
         unfold pyD
         unfold Fits
         refine ⟨by rw [pyL_len]; exact h1, fun p hp => ?_⟩
         obtain ⟨e, he, rfl⟩ := pyL_mem hp
         exact fit_py (h2 e he))
theorem law_go {K : PySem.W.Frag} {W : WX} {tr : TS} {d : DS} {H : Hp} {s : Addr} {σ : L2.St} {m : Nat} {D : Ends} (sim : SimS K W (fun _ _ _ _ => False) tr d) (hs : Src H s) (hl : σ.length = m) (h1 : σ[1]? = some (some (.ref s))) (hq : ∀ H', D.rt (.bl true) H')
    (dp : ∀ c, IsSrcD c → d { nx := fun _ _ => False, rt := fun d _ => d = .bl true, b := 1 } ((List.replicate m none).set 1 (some (.hdl 0))) [c]) : tr D σ H := by
  obtain ⟨q, cells, i, cur, cnt, mode, hx, hq', h2, h3⟩ := hs
  have hqs : q ≠ s := fun z => by
    rw [z, hx] at hq'
    have h3 := Option.some.inj hq'
    injection h3 with h4
    cases cells with
    | nil => cases h4
    | cons u r => injection h4 with h5 _; cases h5
  have hm : 1 < m := by rw [← hl]; exact (List.getElem?_eq_some_iff.mp h1).1
  have C : Cells K H ⟨[some s], []⟩ [.lst [.lst (cells.map .int), .int i, .int cur, .int cnt, .int mode]] := by
    refine ⟨rfl, fun n a e => ?_, fun n m a e e' => ?_, fun a h => absurd h (by simp), fun _ _ _ h => absurd h (by simp)⟩
    · cases n with
      | zero =>
        cases e
        exact ⟨_, rfl, _, hx, .cons (.lst hq' ⟨fun h => hqs (by simpa using h), fun h => absurd h (by simp)⟩ (Dts.ints _)) (.cons (.int _) (.cons (.int _) (.cons (.int _) (.cons (.int _) .nil))))⟩
      | succ n => simp at e
    · cases n with
      | zero => cases m with
        | zero => rfl
        | succ m => simp at e'
      | succ n => simp at e
  refine sim H ⟨[some s], []⟩ (fun _ _ _ _ _ _ _ _ _ _ _ _ h => h.elim) σ _ _ _ H D { nx := fun _ _ => False, rt := fun d _ => d = .bl true, b := 1 } ⟨⟨?_, fun j d e => ?_⟩, C, Later.refl _ _⟩ ⟨fun _ _ _ _ _ _ h => h.elim, fun _ _ _ _ _ _ h => h.elim, fun _ _ _ _ _ _ h => h.elim, fun _ _ _ _ _ v d _ t e => ?_, rfl⟩ (dp _ ⟨cells, i, cur, cnt, mode, rfl, h2, h3⟩)
  · rw [List.length_set, List.length_replicate]
    exact hl
  · by_cases hj : 1 = j
    · subst hj
      rw [List.getElem?_set_self (by rw [List.length_replicate]; exact hm)] at e
      cases e
      exact ⟨_, h1, .hdl rfl⟩
    · rw [List.getElem?_set_ne hj, List.getElem?_replicate] at e
      split at e <;> cases e
  · have e : d = .bl true := e
    subst e
    rw [t.isb]
    exact hq _
def dsp_law_same : DSp := DSp2 fun x y S Q _ => plain (rs S x) = true ∧ plain (rs S y) = true ∧ FitD 4 (rs S x) ∧ Q (.bl (sameB (pyD (rs S x)) (pyD (rs S y)))) S
theorem ad_law_same {K : PySem.W.Frag} {vs : List V} {H : Hp} {Q : VK} {E : XK} (h : lift K dsp_law_same vs H Q E) : sp_law_same K vs H Q E := by
  obtain ⟨A, S, ds, QD, ED, C, ts, ⟨x, y, rfl, p1, p2, f, hq⟩, k, _⟩ := h
  cases ts with | cons t1 ts => cases ts with | cons t2 ts =>
    cases ts
    refine ⟨_, _, rfl, _, _, is_rs C t1 p1, is_rs C t2 p2, fit_py f, fun H' s => ?_⟩
    obtain ⟨C', l⟩ := C.same s
    exact k _ _ _ _ _ l C' (.bl _) hq
theorem same_d {S : Sto} {x y d : D} {Q : DQ} {E : DX} (e1 : rs S x = d) (e2 : rs S y = d) (p : plain d = true) (f : FitD 4 d) (h : Q (.bl true) S) : dsp_law_same [x, y] S Q E := ⟨_, _, rfl, by rw [e1]; exact p, by rw [e2]; exact p, by rw [e1]; exact f, by rw [e1, e2, sameB_eq rfl]; exact h⟩
def TtL (H : Hp) (p : Addr) (xs : List V) : Prop := H p = some (.lst xs) ∨ H p = some (.tup xs)
theorem TtL.but {H H' : Hp} {c p dx : Addr} {xs : List V} {k : Addr} {fs : List (Str × V)} (h : TtL H p xs) (hc : H c = some (.ins k dx fs)) (b : But c H H') : TtL H' p xs := by
  have ne : p ≠ c := fun e => by
    subst e
    rcases h with h | h <;> (rw [hc] at h; cases h)
  rcases h with h | h
  · exact .inl (b _ _ h ne)
  · exact .inr (b _ _ h ne)
theorem TtL.back {H H' : Hp} {c p dx : Addr} {xs : List V} {k : Addr} {fs : List (Str × V)} (h : TtL H p xs) (hc : H c = some (.ins k dx fs)) (b : But c H H') (o : H' p = some (.tup xs)) : H p = some (.tup xs) := by
  rcases h with h | h
  · have ne : p ≠ c := fun e => by subst e; rw [hc] at h; cases h
    rw [b _ _ h ne] at o
    cases o
  · exact h
theorem none_ofT {H H' : Hp} {a c : Addr} {o : HO} (b : But c H H') (hc : H' c = some o) (h : H' a = none) : H a = none := by
  cases e : H a with
  | none => rfl
  | some x =>
    by_cases ne : a = c
    · subst ne; rw [hc] at h; cases h
    · rw [b _ _ e ne] at h; cases h
theorem TtL.from {H H' : Hp} {c p p' dx : Addr} {xs : List V} {k : Addr} {fs : List (Str × V)} {o : HO} (h : TtL H p xs) (hc : H c = some (.ins k dx fs)) (b : But c H H') (hc2 : H' c = some o) (h2 : H' p = some (.tup xs) ∧ p' = p ∨ H' p' = none) : H p = some (.tup xs) ∧ p' = p ∨ H p' = none := by
  rcases h2 with ⟨h2, e⟩ | h2
  · exact .inl ⟨h.back hc b h2, e⟩
  · exact .inr (none_ofT b hc2 h2)
def bkO (m : Nat) (g : Int) : D := .obj "Book" [("rows", .hdl m), ("greatest", .int g)]
abbrev DRow := Int × List Str
def kvD (rows : List DRow) : List (Key × D) := rows.map fun r => ((Sum.inl r.1 : Key), clD r.2)
def IsBD (S : Sto) (n m : Nat) (rows : List DRow) (g : Int) : Prop := S[n]? = some (bkO m g) ∧ S[m]? = some (.dic false (kvD rows))
def dB (rows : List BRow) : List DRow := rows.map fun r => (r.1, r.2.2)
theorem dB_nums (rows : List BRow) : (dB rows).map (·.1) = rows.map (·.1) := by unfold dB; rw [List.map_map]; rfl
theorem dB_len (rows : List BRow) : (dB rows).length = rows.length := by unfold dB; rw [List.length_map]
theorem dB_flat (rows : List BRow) : (dB rows).flatMap (·.2) = rows.flatMap (·.2.2) := by unfold dB; rw [List.flatMap_map]
section
variable {K : PySem.W.Frag} {H H' : Hp} {A : Ads} {S : Sto} {n m : Nat} {b d : Addr} {rows rows' : List DRow} {g g' : Int}
theorem IsBD.ne (h : IsBD S n m rows g) : n ≠ m := fun e => by
  obtain ⟨h1, h2⟩ := h
  subst e
  rw [h1] at h2
  cases h2
structure BkAt (K : PySem.W.Frag) (H : Hp) (A : Ads) (m : Nat) (rows : List DRow) (g : Int) (b d : Addr) (rb : List BRow) : Prop where
  hd : A.c[m]? = some (some d)
  eq : dB rb = rows
  bk : IsBk K H b d rb g
  cl : ∀ r ∈ rb, Dt K H A (.ref r.2.1) (clD r.2.2)
def IsBDr (S : Sto) (n m : Nat) (rows : List DRow) (g : Int) : Prop := S[n]? = some (bkO m g) ∧ ∃ lk, S[m]? = some (.dic lk (kvD rows))
theorem IsBD.r (h : IsBD S n m rows g) : IsBDr S n m rows g := ⟨h.1, _, h.2⟩
end
structure BDok (rows : List DRow) (g : Int) : Prop where
  asc : (rows.map (·.1)).Pairwise (· < ·)
  top : ∀ r ∈ rows, 1 ≤ r.1 ∧ r.1 ≤ g
  lit : ∀ r ∈ rows, ∀ z ∈ r.2, isLit z = true
  few : (rows.flatMap (·.2)).length ≤ 900
  len : rows.length ≤ 100
theorem Bok.bd {rb : List BRow} {g : Int} (h : Bok rb g) : BDok (dB rb) g := by
  refine ⟨by rw [dB_nums]; exact h.asc, fun r hr => ?_, fun r hr => ?_, by rw [dB_flat]; exact h.few, by rw [dB_len]; exact h.len⟩
  · obtain ⟨s, hs, rfl⟩ := List.mem_map.mp hr
    exact h.top s hs
  · obtain ⟨s, hs, rfl⟩ := List.mem_map.mp hr
    exact h.lit s hs
def putB' (S : Sto) (n m : Nat) (rows : List DRow) (g : Int) : Sto := (S.set n (bkO m g)).set m (.dic false (kvD rows))
theorem IsBD.put {S : Sto} {n m : Nat} {rows rows' : List DRow} {g g' : Int} (h : IsBD S n m rows g) : IsBD (putB' S n m rows' g') n m rows' g' := by
  have hnm := h.ne
  have ln : n < S.length := (List.getElem?_eq_some_iff.mp h.1).1
  have lm : m < S.length := (List.getElem?_eq_some_iff.mp h.2).1
  unfold putB'
  exact ⟨by rw [List.getElem?_set_ne (Ne.symm hnm), List.getElem?_set_self ln], by rw [List.getElem?_set_self (by rw [List.length_set]; exact lm)]⟩
theorem IsBD.app {S G : Sto} {n m : Nat} {rows : List DRow} {g : Int} (h : IsBD S n m rows g) : IsBD (S ++ G) n m rows g := by
  have ln := (List.getElem?_eq_some_iff.mp h.1).1
  have lm := (List.getElem?_eq_some_iff.mp h.2).1
  exact ⟨by rw [List.getElem?_append_left ln]; exact h.1, by rw [List.getElem?_append_left lm]; exact h.2⟩
theorem find_snoc {α : Type} {p : α → Bool} {l : List α} {i : Nat} {a : α} (e : l[i]? = some a) (h : (l.take i).find? p = none) : (p a = true → l.find? p = some a) ∧ (p a = false → (l.take (i + 1)).find? p = none) := by
  have et : l.take (i + 1) = l.take i ++ [a] := by rw [List.take_add_one, e]; rfl
  have es : l = l.take i ++ a :: l.drop (i + 1) := by
    have h1 := List.take_append_drop (i + 1) l
    rw [et, List.append_assoc] at h1
    exact h1.symm
  constructor
  · intro ha
    rw [es, List.find?_append, h, Option.none_or, List.find?_cons_of_pos ha]
  · intro ha
    rw [et, List.find?_append, h, Option.none_or, List.find?_cons_of_neg (by rw [ha]; exact Bool.false_ne_true)]
    rfl
theorem map_at {α : Type} {f : α → D} {l : List α} {i : Nat} {d : D} (h : (l.map f)[i]? = some d) : ∃ a, l[i]? = some a ∧ d = f a := by
  rw [List.getElem?_map] at h
  cases e : l[i]? with
  | none => rw [e] at h; cases h
  | some a => rw [e] at h; cases h; exact ⟨a, rfl, rfl⟩
theorem lcd_filt {α : Type} {is : IS} {c : Bool} {vs : List Nat} {dg : DG} {dt : DT} {de : DE} {ρ : Rho} {S : Sto} {Q : DQ} (xs : List α) (f g : α → D) (t : α → Bool) (hi : is.items = xs.map f) (hl : xs.length ≤ 1000000) (ok : is.ok S)
    (hf : ∀ a, a ∈ xs → ∀ (QF : Sto → Prop) (QT : DQ), (t a = false → QF S) → (t a = true → QT (g a) S) → dg (f a) (wipeD ρ vs) S fun ρ2 S2 => dt ρ2 S2 fun b S3 => if b = true then de ρ2 S3 QT else QF S3)
    (hq : newAt c ((xs.filter t).map g) S Q) : LcD is c dg dt de vs ρ S Q := by
  refine ⟨fun i acc S' => S' = S ∧ acc = ((xs.take i).filter t).map g, ⟨rfl, rfl⟩, fun i acc S' _ p => by rw [p.1]; exact ok, ?_, ?_⟩
  · rintro i d acc S' hd ⟨rfl, rfl⟩
    rw [hi, List.getElem?_map] at hd
    cases e : xs[i]? with
    | none => rw [e] at hd; cases hd
    | some a =>
      rw [e] at hd
      cases hd
      have hlt := (List.getElem?_eq_some_iff.mp e).1
      have key := hf a (List.mem_of_getElem? e) (fun S4 => S4 = S' ∧ ((xs.take i).filter t).map g = ((xs.take (i + 1)).filter t).map g) (fun y S4 => (((xs.take i).filter t).map g).length < sizeLine ∧ S4 = S' ∧ ((xs.take i).filter t).map g ++ [y] = ((xs.take (i + 1)).filter t).map g) (fun ht => ⟨rfl, by rw [List.take_add_one, e, List.filter_append]; simp [ht]⟩) (fun ht => ⟨by
        have := List.length_filter_le t (xs.take i)
        rw [List.length_take] at this
        rw [List.length_map, sizeLine_eq]
        omega, rfl, by rw [List.take_add_one, e, List.filter_append]; simp [ht]⟩)
      exact key
  · rintro acc S' ⟨rfl, rfl⟩
    rw [hi, List.length_map, List.take_length]
    exact hq
theorem cutToA {l : List D} {n : Nat} : cutD l none (some (n : Int)) = l.take n := by
  unfold Dx.cutD
  rw [HT.sIx_none, HT.sIx_nat, List.drop_zero, Nat.sub_zero]
  by_cases h : n ≤ l.length
  · rw [Nat.min_eq_left h]
  · rw [Nat.min_eq_right (by omega), List.take_length, List.take_of_length_le (by omega)]
abbrev Cnt := Int → Int
def updC (f : Cnt) (n c : Int) : Cnt := fun m => if m = n then c else f m
theorem updC_at {f : Cnt} {n c : Int} : updC f n c n = c := if_pos rfl
theorem updC_ne {f : Cnt} {n c m : Int} (h : m ≠ n) : updC f n c m = f m := if_neg h
def kvC (f : Cnt) (L : List Int) : List (Key × D) := L.map fun n => (.inl n, .int (f n))
theorem kvC_len {f : Cnt} {L : List Int} : (kvC f L).length = L.length := List.length_map ..
theorem kvC_congr {f g : Cnt} {L : List Int} (h : ∀ n ∈ L, f n = g n) : kvC f L = kvC g L := List.map_congr_left fun n hn => by rw [h n hn]
theorem getC {f : Cnt} {k : Int} : ∀ {L : List Int}, getK (kvC f L) (.inl k) = if k ∈ L then some (.int (f k)) else none
  | [] => rfl
  | n :: L => by
    have ih := getC (f := f) (k := k) (L := L)
    unfold getK kvC at ih ⊢
    by_cases e : n = k
    · subst e
      rw [List.map_cons, List.find?_cons_of_pos (by simp), if_pos List.mem_cons_self]
      rfl
    · rw [List.map_cons, List.find?_cons_of_neg (by simpa using e), ih]
      by_cases h : k ∈ L
      · rw [if_pos h, if_pos (List.mem_cons_of_mem _ h)]
      · rw [if_neg h, if_neg fun hm => (List.mem_cons.mp hm).elim (fun q => e q.symm) h]
theorem getC_D {f : Cnt} {k : Int} {L : List Int} (h0 : k ∉ L → f k = 0) : (getK (kvC f L) (.inl k)).getD (.int 0) = .int (f k) := by
  rw [getC]
  by_cases h : k ∈ L
  · rw [if_pos h]; rfl
  · rw [if_neg h, h0 h]; rfl
theorem isC {f : Cnt} {k : Int} {L : List Int} : (getK (kvC f L) (.inl k)).isSome = decide (k ∈ L) := by
  rw [getC]
  by_cases h : k ∈ L
  · rw [if_pos h, decide_eq_true h]; rfl
  · rw [if_neg h, decide_eq_false h]; rfl
theorem putC {f : Cnt} {n c : Int} {L : List Int} : putG (kvC f L) (.inl n) (.int c) = kvC (updC f n c) (if n ∈ L then L else L ++ [n]) := by
  have ha : (kvC f L).any (fun kv => decide (kv.1 = (Sum.inl n : Key))) = decide (n ∈ L) := by
    unfold kvC
    rw [List.any_map, Bool.eq_iff_iff, List.any_eq_true, decide_eq_true_eq]
    constructor
    · rintro ⟨m, hm, e⟩
      have e : (Sum.inl m : Key) = Sum.inl n := of_decide_eq_true e
      injection e with e
      rw [← e]; exact hm
    · exact fun h => ⟨n, h, decide_eq_true rfl⟩
  unfold putG
  rw [ha]
  by_cases h : n ∈ L
  · rw [decide_eq_true h, if_pos rfl, if_pos h]
    unfold kvC
    rw [List.map_map]
    refine List.map_congr_left fun m hm => ?_
    show (if (Sum.inl m : Key) = Sum.inl n then ((Sum.inl m : Key), D.int c) else (.inl m, .int (f m))) = (.inl m, .int (updC f n c m))
    by_cases e : m = n
    · subst e
      rw [if_pos rfl, updC_at]
    · rw [if_neg fun q => e (by injection q), updC_ne e]
  · rw [decide_eq_false h, if_neg Bool.false_ne_true, if_neg h]
    unfold kvC
    rw [List.map_append]
    refine congr (congrArg _ (List.map_congr_left fun m hm => ?_)) ?_
    · rw [updC_ne fun e => h (by rw [← e]; exact hm)]
    · rw [List.map_cons, updC_at]; rfl
theorem dropC {f : Cnt} {n : Int} {L : List Int} : dropG (kvC f L) (.inl n) = kvC f (L.filter fun m => decide (m ≠ n)) := by
  unfold dropG kvC
  rw [List.filter_map]
  congr 1
  refine List.filter_congr fun m _ => ?_
  show decide ((Sum.inl m : Key) ≠ Sum.inl n) = decide (m ≠ n)
  refine decide_eq_decide.mpr (not_congr ⟨fun e => by injection e, fun e => by rw [e]⟩)
theorem asc_ext : ∀ {a b : List Int}, a.Pairwise (· < ·) → b.Pairwise (· < ·) → (∀ x, x ∈ a ↔ x ∈ b) → a = b
  | [], [], _, _, _ => rfl
  | [], y :: b, _, _, h => by cases (h y).mpr List.mem_cons_self
  | x :: a, [], _, _, h => by cases (h x).mp List.mem_cons_self
  | x :: a, y :: b, ha, hb, h => by
    rw [List.pairwise_cons] at ha hb
    have e : x = y := by
      rcases List.mem_cons.mp ((h x).mp List.mem_cons_self) with e | h1
      · exact e
      · rcases List.mem_cons.mp ((h y).mpr List.mem_cons_self) with e | h2
        · exact e.symm
        · have := hb.1 x h1
          have := ha.1 y h2
          omega
    subst e
    refine congrArg _ (asc_ext ha.2 hb.2 fun z => ⟨fun hz => ?_, fun hz => ?_⟩)
    · have := ha.1 z hz
      exact ((List.mem_cons.mp ((h z).mp (List.mem_cons_of_mem _ hz))).resolve_left (by omega))
    · have := hb.1 z hz
      exact ((List.mem_cons.mp ((h z).mpr (List.mem_cons_of_mem _ hz))).resolve_left (by omega))
theorem asc_of_le : ∀ {a : List Int}, a.Pairwise (· ≤ ·) → a.Nodup → a.Pairwise (· < ·)
  | _, h, hn => (h.and hn).imp fun ⟨h1, h2⟩ => by omega
def numsM : List Int := (List.range 999).map fun (i : Nat) => (i : Int) + 1
theorem mem_numsM {n : Int} : n ∈ numsM ↔ 1 ≤ n ∧ n ≤ 999 := by
  unfold numsM
  rw [List.mem_map]
  constructor
  · rintro ⟨i, hi, rfl⟩
    have := List.mem_range.mp hi
    omega
  · rintro ⟨h1, h2⟩
    exact ⟨(n - 1).toNat, List.mem_range.mpr (by omega), by omega⟩
theorem numsM_asc : numsM.Pairwise (· < ·) := by
  unfold numsM
  rw [List.pairwise_map]
  exact List.pairwise_lt_range.imp fun h => by omega
def keysM (f : Cnt) : List Int := numsM.filter fun n => decide (0 < f n)
theorem mem_keysM {f : Cnt} {n : Int} : n ∈ keysM f ↔ (1 ≤ n ∧ n ≤ 999) ∧ 0 < f n := by
  unfold keysM
  rw [List.mem_filter, mem_numsM, decide_eq_true_eq]
theorem keysM_asc (f : Cnt) : (keysM f).Pairwise (· < ·) := numsM_asc.sublist List.filter_sublist
theorem keysM_nd (f : Cnt) : (keysM f).Nodup := (keysM_asc f).imp fun h => by omega
theorem keysM_len (f : Cnt) : (keysM f).length ≤ 999 := by
  refine Nat.le_trans (List.length_filter_le _ _) ?_
  unfold numsM
  rw [List.length_map, List.length_range]
  exact Nat.le_refl _
def kvM (f : Cnt) : List (Key × D) := kvC f (keysM f)
theorem keysM_congr {f g : Cnt} (h : ∀ n, 1 ≤ n → n ≤ 999 → f n = g n) : keysM f = keysM g := by
  unfold keysM
  refine List.filter_congr fun n hn => ?_
  obtain ⟨h1, h2⟩ := mem_numsM.mp hn
  rw [h n h1 h2]
theorem kvM_congr {f g : Cnt} (h : ∀ n, 1 ≤ n → n ≤ 999 → f n = g n) : kvM f = kvM g := by
  unfold kvM
  rw [keysM_congr h]
  exact kvC_congr fun n hn => h n (mem_keysM.mp hn).1.1 (mem_keysM.mp hn).1.2
theorem putM {f : Cnt} {n c : Int} (hc : 0 < c) (h1 : 1 ≤ n) (h2 : n ≤ 999) (hl : 0 < f n ∨ ∀ m, 1 ≤ m → m ≤ 999 → 0 < f m → m < n) : putG (kvM f) (.inl n) (.int c) = kvM (updC f n c) := by
  unfold kvM
  rw [putC]
  refine congrArg _ (asc_ext ?_ (keysM_asc _) fun x => ?_)
  · by_cases h : n ∈ keysM f
    · rw [if_pos h]; exact keysM_asc f
    · rw [if_neg h, List.pairwise_append]
      refine ⟨keysM_asc f, List.pairwise_singleton _ _, fun a ha b hb => ?_⟩
      rw [List.mem_singleton.mp hb]
      obtain ⟨⟨a1, a2⟩, a3⟩ := mem_keysM.mp ha
      rcases hl with hl | hl
      · exact absurd (mem_keysM.mpr ⟨⟨h1, h2⟩, hl⟩) h
      · exact hl a a1 a2 a3
  · refine Iff.trans ?_ mem_keysM.symm
    by_cases e : x = n
    · subst e
      rw [updC_at]
      refine ⟨fun _ => ⟨⟨h1, h2⟩, hc⟩, fun _ => ?_⟩
      by_cases h : x ∈ keysM f
      · rw [if_pos h]; exact h
      · rw [if_neg h]; exact List.mem_append_right _ List.mem_cons_self
    · rw [updC_ne e, ← mem_keysM]
      by_cases h : n ∈ keysM f
      · rw [if_pos h]
      · rw [if_neg h, List.mem_append]
        exact ⟨fun h => h.elim id fun h => absurd (List.mem_singleton.mp h) e, .inl⟩
theorem sort_keys {ys L : List Int} (hp : ys.Perm L) (hs : ys.Pairwise (· ≤ ·)) (nd : L.Nodup) {f : Cnt} (hL : ∀ n, n ∈ L ↔ n ∈ keysM f) : ys = keysM f :=
  asc_ext (asc_of_le hs (hp.nodup_iff.mpr nd)) (keysM_asc f) fun x => by rw [hp.mem_iff, hL x]
theorem kvC_keys {f : Cnt} {L : List Int} : ((kvC f L).map fun p => kD p.1) = L.map .int := by unfold kvC; rw [List.map_map]; rfl
theorem kvC_vals {f : Cnt} {L : List Int} : (kvC f L).map Prod.snd = (L.map f).map .int := by unfold kvC; rw [List.map_map, List.map_map]; rfl
def kI (f : Cnt) (L : List Int) : List (Key × Int) := L.map fun n => (.inl n, f n)
theorem kvC_I {f : Cnt} {L : List Int} : kvC f L = kvID (kI f L) := by unfold kvC kvID kI; rw [List.map_map]; rfl
def sumC (f : Cnt) : Int := ((keysM f).map f).sum
def mxO (m : Nat) : D := .obj "Mixture" [("rows", .hdl m)]
def IsMx (S : Sto) (n m : Nat) (f : Cnt) : Prop := S[n]? = some (mxO m) ∧ S[m]? = some (.dic false (kvM f))
def Stay (S S' : Sto) (l : List Nat) : Prop := S.length ≤ S'.length ∧ ∀ i c, S[i]? = some c → i ∉ l → S'[i]? = some c
theorem Stay.refl (S : Sto) : Stay S S [] := ⟨Nat.le_refl _, fun _ _ h _ => h⟩
theorem Stay.trans {S S1 S2 : Sto} {l : List Nat} (h : Stay S S1 l) (g : Stay S1 S2 l) : Stay S S2 l := ⟨Nat.le_trans h.1 g.1, fun i c e n => g.2 i c (h.2 i c e n) n⟩
theorem Stay.mono {S S' : Sto} {l k : List Nat} (h : Stay S S' l) (hs : ∀ x ∈ l, x ∈ k ∨ S.length ≤ x) : Stay S S' k := ⟨h.1, fun i c e n => h.2 i c e fun hm => (hs i hm).elim n fun hl => by
  have := (List.getElem?_eq_some_iff.mp e).1
  omega⟩
theorem Stay.set {S S' : Sto} {l : List Nat} (h : Stay S S' l) {n : Nat} {c : D} (hn : n ∈ l) : Stay S (S'.set n c) l := ⟨by rw [List.length_set]; exact h.1, fun i d e hi => by
  rw [List.getElem?_set_ne (fun q => hi (by rw [← q]; exact hn))]
  exact h.2 i d e hi⟩
theorem Stay.app {S S' : Sto} {l : List Nat} (h : Stay S S' l) (G : Sto) : Stay S (S' ++ G) l := ⟨by rw [List.length_append]; have := h.1; omega, fun i d e hi => by
  have h2 := h.2 i d e hi
  rw [List.getElem?_append_left (List.getElem?_eq_some_iff.mp h2).1]
  exact h2⟩
theorem lt_of_at {S : Sto} {i : Nat} {c : D} (h : S[i]? = some c) : i < S.length := (List.getElem?_eq_some_iff.mp h).1
def cntL (ns : List Int) : Cnt := fun n => (ns.count n : Int)
def overM (f : Cnt) (most : Int) : Option Int := (keysM f).find? fun n => decide (most < f n)
def addC (f g : Cnt) : Cnt := fun n => f n + g n
structure CntOk (f : Cnt) : Prop where
  pos : ∀ n, 0 ≤ f n
  sup : ∀ n, 0 < f n → 1 ≤ n ∧ n ≤ 999
  le : ∀ n, f n ≤ 1000000
def timesC (f : Cnt) (k : Int) : Cnt := fun n => f n * k
def badM (ns : List Int) : Option Int := ns.find? fun n => !decide (1 ≤ n ∧ n ≤ 999)
theorem lt_nonM {b : Nat} : ltD b .non := by unfold ltD; trivial
theorem atL {S : Sto} {c : D} : (S ++ [c])[S.length]? = some c := by rw [List.getElem?_append_right (Nat.le_refl _), Nat.sub_self]; rfl
theorem setL {S : Sto} {c d : D} : (S ++ [c]).set S.length d = S ++ [d] := by rw [List.set_append_right _ _ (Nat.le_refl _), Nat.sub_self]; rfl
theorem kvM_len {f : Cnt} : (kvM f).length ≤ 999 := by unfold kvM; rw [kvC_len]; exact keysM_len f
theorem getM {f : Cnt} {k : Int} (h0 : k ∉ keysM f → f k = 0) : (getK (kvM f) (.inl k)).getD (.int 0) = .int (f k) := getC_D h0
theorem CntOk.zero {f : Cnt} (h : CntOk f) {k : Int} (hk : k ∉ keysM f) : f k = 0 := by
  have h0 := h.pos k
  by_cases hp : 0 < f k
  · exact absurd (mem_keysM.mpr ⟨h.sup k hp, hp⟩) hk
  · omega
theorem cnt_pos {ns : List Int} {n : Int} : 0 < cntL ns n ↔ n ∈ ns := by
  unfold cntL
  rw [← List.count_pos_iff (a := n) (l := ns)]
  omega
theorem cnt_snoc {ns : List Int} {n : Int} : cntL (ns ++ [n]) = updC (cntL ns) n (cntL ns n + 1) := by
  funext m
  unfold cntL updC
  rw [List.count_append, List.count_singleton]
  by_cases e : m = n
  · subst e
    rw [if_pos rfl, if_pos (beq_self_eq_true _)]
    omega
  · rw [if_neg e, if_neg (by simpa using fun q => e q.symm)]
    rfl
theorem find_asc : ∀ {l : List Int} {p : Int → Bool} {n : Int}, l.Pairwise (· < ·) → n ∈ l → p n = true → (∀ m ∈ l, m < n → p m = false) → l.find? p = some n
  | x :: l, p, n, ha, hm, hp, hn => by
    rw [List.pairwise_cons] at ha
    rcases List.mem_cons.mp hm with rfl | hm
    · exact List.find?_cons_of_pos hp
    · have hx := hn x List.mem_cons_self (ha.1 n hm)
      rw [List.find?_cons_of_neg (by rw [hx]; exact Bool.false_ne_true)]
      exact find_asc ha.2 hm hp fun m h => hn m (List.mem_cons_of_mem _ h)
theorem take_at {α : Type} {l : List α} {i : Nat} {a : α} (e : l[i]? = some a) : l.take (i + 1) = l.take i ++ [a] := by rw [List.take_add_one, e]; rfl
theorem take_le {ys : List Int} {i : Nat} {n m : Int} (hs : ys.Pairwise (· ≤ ·)) (e : ys[i]? = some n) (hm : m ∈ ys.take i) : m ≤ n := by
  obtain ⟨j, hj⟩ := List.mem_iff_getElem?.mp hm
  have hji : j < i := by
    have := (List.getElem?_eq_some_iff.mp hj).1
    rw [List.length_take] at this
    omega
  rw [List.getElem?_take_of_lt hji] at hj
  obtain ⟨h1, e1⟩ := List.getElem?_eq_some_iff.mp hj
  obtain ⟨h2, e2⟩ := List.getElem?_eq_some_iff.mp e
  rw [← e1, ← e2]
  exact List.pairwise_iff_getElem.mp hs j i h1 h2 hji
theorem lt_take {ys : List Int} {i : Nat} {n m : Int} (hs : ys.Pairwise (· ≤ ·)) (e : ys[i]? = some n) (hm : m ∈ ys) (hl : m < n) : m ∈ ys.take i := by
  obtain ⟨j, hj⟩ := List.mem_iff_getElem?.mp hm
  have hji : j < i := by
    refine Nat.lt_of_not_le fun h => ?_
    obtain ⟨h1, e1⟩ := List.getElem?_eq_some_iff.mp hj
    obtain ⟨h2, e2⟩ := List.getElem?_eq_some_iff.mp e
    rcases Nat.lt_or_eq_of_le h with h | rfl
    · have h3 := List.pairwise_iff_getElem.mp hs i j h2 h1 h
      rw [e1, e2] at h3
      omega
    · rw [hj] at e
      cases e
      omega
  exact List.mem_iff_getElem?.mpr ⟨j, by rw [List.getElem?_take_of_lt hji]; exact hj⟩
theorem putC_self {g : Cnt} {m : Int} {L : List Int} (h : m ∉ L) : putG (kvC g L) (.inl m) (.int (g m)) = kvC g (L ++ [m]) := by
  rw [putC, if_neg h]
  exact kvC_congr fun n _ => by
    by_cases e : n = m
    · subst e; exact updC_at
    · exact updC_ne e
theorem put_row {m m' : Nat} : D.obj "Mixture" (putFD "rows" (.hdl m') [("rows", .hdl m)]) = mxO m' := by
  unfold putFD
  rw [if_pos rfl]
  rfl
theorem nd_take {ys : List Int} {i : Nat} {n : Int} (nd : ys.Nodup) (e : ys[i]? = some n) : n ∉ ys.take i := fun hm => by
  obtain ⟨j, hj⟩ := List.mem_iff_getElem?.mp hm
  have hji : j < i := by
    have := (List.getElem?_eq_some_iff.mp hj).1
    rw [List.length_take] at this
    omega
  rw [List.getElem?_take_of_lt hji] at hj
  have := (List.getElem?_inj (h₀ := (List.getElem?_eq_some_iff.mp hj).1) nd).mp (hj.trans e.symm)
  omega
theorem Stay.put {S G : Sto} {n : Nat} {c : D} : Stay S ((S ++ G).set n c) [n] := (((Stay.refl S).app G).mono (k := [n]) fun x h => by cases h).set List.mem_cons_self
theorem kvM_keys {f : Cnt} : ((kvM f).map fun p => kD p.1) = (keysM f).map .int := kvC_keys
theorem at2_0 {S : Sto} {a b : D} : (S ++ [a, b])[S.length]? = some a := by rw [List.getElem?_append_right (Nat.le_refl _), Nat.sub_self]; rfl
theorem at2_1 {S : Sto} {a b : D} : (S ++ [a, b])[S.length + 1]? = some b := by rw [List.getElem?_append_right (show S.length ≤ S.length + 1 by omega), Nat.add_sub_cancel_left]; rfl
theorem set2_1 {S : Sto} {a b c : D} : (S ++ [a, b]).set (S.length + 1) c = S ++ [a, c] := by rw [List.set_append_right _ _ (show S.length ≤ S.length + 1 by omega), Nat.add_sub_cancel_left]; rfl
theorem keysM_zero {f : Cnt} (h : ∀ n, f n = 0) : keysM f = [] := List.filter_eq_nil_iff.mpr fun n _ => by rw [h n]; decide
theorem kvM_zero {f : Cnt} (h : ∀ n, f n = 0) : kvM f = [] := by unfold kvM; rw [keysM_zero h]; rfl
theorem set_selfM {S : Sto} {a : Nat} {c : D} (h : S[a]? = some c) : S.set a c = S := by
  obtain ⟨hl, e⟩ := List.getElem?_eq_some_iff.mp h
  rw [← e]
  exact List.set_getElem_self ..
structure CntW (f : Cnt) : Prop where
  pos : ∀ n, 0 ≤ f n
  sup : ∀ n, 0 < f n → 1 ≤ n ∧ n ≤ 999
theorem CntOk.w {f : Cnt} (h : CntOk f) : CntW f := ⟨h.pos, h.sup⟩
theorem CntW.zero {f : Cnt} (h : CntW f) {k : Int} (hk : k ∉ keysM f) : f k = 0 := by
  have h0 := h.pos k
  by_cases hp : 0 < f k
  · exact absurd (mem_keysM.mpr ⟨h.sup k hp, hp⟩) hk
  · omega
def IsTb (S : Sto) (t : Nat) (f : Cnt) : Prop := ∃ L, S[t]? = some (.dic false (kvC f L)) ∧ L.Nodup ∧ ∀ n, n ∈ L ↔ n ∈ keysM f
theorem IsTb.len {S : Sto} {t : Nat} {f : Cnt} (_h : IsTb S t f) : ∀ {L : List Int}, L.Nodup → (∀ n, n ∈ L ↔ n ∈ keysM f) → L.length ≤ 999 := fun {L} nd hL => by
  have hp : L.Perm (keysM f) := (List.perm_ext_iff_of_nodup nd (keysM_nd f)).mpr hL
  rw [hp.length_eq]
  exact keysM_len f
theorem tb_len {f : Cnt} {L : List Int} (nd : L.Nodup) (hL : ∀ n, n ∈ L ↔ n ∈ keysM f) : L.length ≤ 999 := by
  have hp : L.Perm (keysM f) := (List.perm_ext_iff_of_nodup nd (keysM_nd f)).mpr hL
  rw [hp.length_eq]
  exact keysM_len f
theorem IsMx.stay {S S' : Sto} {l : List Nat} {n m : Nat} {f : Cnt} (h : IsMx S n m f) (s : Stay S S' l) (hn : n ∉ l) (hm : m ∉ l) : IsMx S' n m f := ⟨s.2 _ _ h.1 hn, s.2 _ _ h.2 hm⟩
theorem IsTb.stay {S S' : Sto} {l : List Nat} {t : Nat} {f : Cnt} (h : IsTb S t f) (s : Stay S S' l) (ht : t ∉ l) : IsTb S' t f := by
  obtain ⟨L, h1, h2, h3⟩ := h
  exact ⟨L, s.2 _ _ h1 ht, h2, h3⟩
theorem src_stay {S S' : Sto} {l : List Nat} {n : Nat} (h : IsSrc S n) (s : Stay S S' l) (hn : n ∉ l) : IsSrc S' n := by
  obtain ⟨c, h1, h2⟩ := h
  exact ⟨c, s.2 _ _ h1 hn, h2⟩
theorem own_mx {S : Sto} {n m : Nat} {f : Cnt} {l : List (Str × Str)} (M : IsMx S n m f) (hm : (("Mixture" : Str), ("rows" : Str)) ∈ l) : OwnKD l S (.hdl n) (kvM f) := ⟨"Mixture", _, "rows", m, rs_h M.1, hm, rfl, M.2, by have := kvM_len (f := f); omega⟩
def numE (n : Int) : D := .lst [.str "number", .int n, .bl true]
def cntE (n : Int) : D := .lst [.str "count", .int n, .bl true]
theorem plain_numE {n : Int} : plain (numE n) = true := plain_lst (plain_cons plain_str (plain_cons plain_int (plain_cons plain_bl plain_nil)))
theorem plain_cntE {n : Int} : plain (cntE n) = true := plain_lst (plain_cons plain_str (plain_cons plain_int (plain_cons plain_bl plain_nil)))
theorem fit_three {a b c : D} (h1 : FitD 3 a) (h2 : FitD 3 b) (h3 : FitD 3 c) : FitD 4 (.lst [a, b, c]) := ⟨by simp, fun e he => by
  simp only [List.mem_cons, List.not_mem_nil, or_false] at he
  rcases he with rfl | rfl | rfl
  · exact h1
  · exact h2
  · exact h3⟩
theorem fit_numE {n : Int} : FitD 4 (numE n) := fit_three trivial trivial trivial
theorem fit_cntE {n : Int} : FitD 4 (cntE n) := fit_three trivial trivial trivial
theorem fit_intsM {n : Nat} {l : List Int} (h : l.length ≤ 1000000) : FitD (n + 1) (.lst (l.map .int)) := ⟨by rw [List.length_map]; exact h, fun e he => by
  obtain ⟨i, _, rfl⟩ := List.mem_map.mp he
  cases n <;> trivial⟩
theorem Stay.setY {S S' : Sto} {l : List Nat} (h : Stay S S' l) {n : Nat} {c : D} (hn : S.length ≤ n) : Stay S (S'.set n c) l := ⟨by rw [List.length_set]; exact h.1, fun i d e hi => by
  have := lt_of_at e
  rw [List.getElem?_set_ne (by omega)]
  exact h.2 i d e hi⟩
theorem tb_put {S' : Sto} {t : Nat} {f : Cnt} {L : List Int} {z c : Int} (nd : L.Nodup) (hL : ∀ n, n ∈ L ↔ n ∈ keysM f) (hc : 0 < c) (h1 : 1 ≤ z) (h2 : z ≤ 999) (e : S'[t]? = some (.dic false (putG (kvC f L) (.inl z) (.int c)))) : IsTb S' t (updC f z c) := by
  rw [putC] at e
  refine ⟨_, e, ?_, fun x => ?_⟩
  · split
    · exact nd
    · rename_i h
      rw [List.nodup_append]
      exact ⟨nd, List.pairwise_singleton _ _, fun a ha b hb q => h (by rw [← List.mem_singleton.mp hb, ← q]; exact ha)⟩
  · by_cases ex : x = z
    · subst ex
      refine ⟨fun _ => mem_keysM.mpr ⟨⟨h1, h2⟩, by rw [updC_at]; exact hc⟩, fun _ => ?_⟩
      split
      · rename_i h; exact h
      · exact List.mem_append_right _ List.mem_cons_self
    · refine Iff.trans ?_ ((hL x).trans ?_)
      · split
        · exact Iff.rfl
        · rw [List.mem_append]
          exact ⟨fun h => h.elim id fun h => absurd (List.mem_singleton.mp h) ex, .inl⟩
      · rw [mem_keysM, mem_keysM, updC_ne ex]
theorem tb_drop {S' : Sto} {t : Nat} {f : Cnt} {L : List Int} {z c : Int} (nd : L.Nodup) (hL : ∀ n, n ∈ L ↔ n ∈ keysM f) (e : S'[t]? = some (.dic false (dropG (putG (kvC f L) (.inl z) (.int c)) (.inl z)))) : IsTb S' t (updC f z 0) := by
  rw [putC, dropC] at e
  have ek : ((if z ∈ L then L else L ++ [z]).filter fun m => decide (m ≠ z)) = L.filter fun m => decide (m ≠ z) := by
    split
    · rfl
    · rw [List.filter_append, List.filter_cons_of_neg (by simp), List.filter_nil, List.append_nil]
  rw [ek] at e
  refine ⟨L.filter fun m => decide (m ≠ z), ?_, nd.sublist List.filter_sublist, fun x => ?_⟩
  · have eq : kvC (updC f z c) (L.filter fun m => decide (m ≠ z)) = kvC (updC f z 0) (L.filter fun m => decide (m ≠ z)) := kvC_congr fun x hx => by
      have hx : x ≠ z := of_decide_eq_true (List.mem_filter.mp hx).2
      rw [updC_ne hx, updC_ne hx]
    rw [eq] at e
    exact e
  · rw [List.mem_filter, decide_eq_true_eq, hL, mem_keysM, mem_keysM]
    by_cases ex : x = z
    · subst ex
      rw [updC_at]
      exact ⟨fun h => absurd rfl h.2, fun h => absurd h.2 (by decide)⟩
    · rw [updC_ne ex]
      exact ⟨fun h => h.1, fun h => ⟨h, ex⟩⟩
theorem CntOk.upd {f : Cnt} (h : CntOk f) {z c : Int} (h1 : 1 ≤ z) (h2 : z ≤ 999) (c0 : 0 ≤ c) (c1 : c ≤ 1000000) : CntOk (updC f z c) := ⟨fun n => by
    by_cases e : n = z
    · subst e; rw [updC_at]; exact c0
    · rw [updC_ne e]; exact h.pos n, fun n hn => by
    by_cases e : n = z
    · subst e; exact ⟨h1, h2⟩
    · rw [updC_ne e] at hn; exact h.sup n hn, fun n => by
    by_cases e : n = z
    · subst e; rw [updC_at]; exact c1
    · rw [updC_ne e]; exact h.le n⟩
theorem cnt_ok {ns : List Int} (hl : ns.length ≤ 1000) (hb : ∀ n ∈ ns, 1 ≤ n ∧ n ≤ 999) : CntOk (cntL ns) := ⟨fun n => Int.natCast_nonneg _, fun n hn => hb n (cnt_pos.mp hn), fun n => by
  have := List.count_le_length (a := n) (l := ns)
  show ((ns.count n : Nat) : Int) ≤ 1000000
  omega⟩
theorem bad_none {ns : List Int} (hb : ∀ n ∈ ns, 1 ≤ n ∧ n ≤ 999) : badM ns = none := List.find?_eq_none.mpr fun n hn => by rw [decide_eq_true (hb n hn)]; decide
theorem three_leM {α : Type} {a b c : α} : [a, b, c].length ≤ sizeLine := by rw [sizeLine_eq]; simp
theorem one_leM {α : Type} {a : α} : [a].length ≤ sizeLine := by rw [sizeLine_eq]; simp
structure FxMx (K : PySem.W.Frag) : Prop where
  ik_Mixture : Hk.InsK K (ga K "Mixture")
  cc_Mixture : PySem.W.kitOne K (.ref (ga K "Mixture")) (.ref (ga K "Mixture")) = some true
theorem over_le {h : Cnt} {M : Int} (w : CntW h) (M0 : 0 ≤ M) (hn : overM h M = none) (n : Int) : h n ≤ M := by
  by_cases hk : n ∈ keysM h
  · have := List.find?_eq_none.mp hn n hk
    have this : ¬ decide (M < h n) = true := this
    rw [decide_eq_true_eq] at this
    omega
  · rw [w.zero hk]; exact M0
theorem over_gt {h : Cnt} {M k : Int} (hk : overM h M = some k) : M < h k := by
  unfold overM at hk
  have := List.find?_some (p := fun n => decide (M < h n)) hk
  exact of_decide_eq_true this
theorem add_w {f g : Cnt} (of : CntW f) (og : CntW g) : CntW (addC f g) := ⟨fun n => by have := of.pos n; have := og.pos n; show 0 ≤ f n + g n; omega, fun n hn => by
  have hn : 0 < f n + g n := hn
  have h1 := of.pos n
  have h2 := og.pos n
  by_cases h : 0 < f n
  · exact of.sup n h
  · exact og.sup n (by omega)⟩
theorem add_ok {f g : Cnt} (of : CntW f) (og : CntW g) (hn : overM (addC f g) 1000000 = none) : CntOk (addC f g) := ⟨(add_w of og).pos, (add_w of og).sup, over_le (add_w of og) (by decide) hn⟩
theorem times_w {f : Cnt} (of : CntW f) {k : Int} (k0 : 0 ≤ k) : CntW (timesC f k) := ⟨fun n => Int.mul_nonneg (of.pos n) k0, fun n hn => by
  have hn : 0 < f n * k := hn
  refine of.sup n ?_
  have h1 := of.pos n
  by_cases e : f n = 0
  · rw [e, Int.zero_mul] at hn; omega
  · omega⟩
theorem times_ok {f : Cnt} (of : CntW f) {k : Int} (k0 : 0 ≤ k) (hn : overM (timesC f k) 1000000 = none) : CntOk (timesC f k) := ⟨(times_w of k0).pos, (times_w of k0).sup, over_le (times_w of k0) (by decide) hn⟩
theorem nodup_leM : ∀ {a b : List Int}, a.Nodup → (∀ x ∈ a, x ∈ b) → a.length ≤ b.length
  | [], _, _, _ => Nat.zero_le _
  | x :: a, b, nd, h => by
    rw [List.nodup_cons] at nd
    have hx := h x List.mem_cons_self
    have ih := nodup_leM (b := b.erase x) nd.2 fun y hy => (List.mem_erase_of_ne (fun e => nd.1 (by rw [← e]; exact hy))).mpr (h y (List.mem_cons_of_mem _ hy))
    rw [List.length_erase_of_mem hx] at ih
    have := List.length_pos_of_mem hx
    rw [List.length_cons]
    omega
theorem getI_k {f : Cnt} {k : Int} : ∀ {L : List Int}, Cl.getI (kI f L) (.inl k) = if k ∈ L then some (f k) else none
  | [] => rfl
  | n :: L => by
    have ih := getI_k (f := f) (k := k) (L := L)
    unfold Cl.getI kI at ih ⊢
    by_cases e : n = k
    · subst e
      rw [List.map_cons, List.find?_cons_of_pos (by simp), if_pos List.mem_cons_self]
      rfl
    · rw [List.map_cons, List.find?_cons_of_neg (by simpa using e), ih]
      by_cases h : k ∈ L
      · rw [if_pos h, if_pos (List.mem_cons_of_mem _ h)]
      · rw [if_neg h, if_neg fun hm => (List.mem_cons.mp hm).elim (fun q => e q.symm) h]
theorem eqI_self {f : Cnt} : Cl.eqI (kI f (keysM f)) (kI f (keysM f)) = true := by
  unfold Cl.eqI
  rw [beq_self_eq_true, Bool.true_and, List.all_eq_true]
  intro p hp
  obtain ⟨n, hn, rfl⟩ := List.mem_map.mp hp
  rw [decide_eq_true_eq, getI_k, if_pos hn]
theorem eqI_no {f g : Cnt} {n : Int} (h1 : 1 ≤ n) (h2 : n ≤ 999) (hg : 0 < g n) (hne : f n ≠ g n) : Cl.eqI (kI f (keysM f)) (kI g (keysM g)) = false := by
  rw [Bool.eq_false_iff]
  intro h
  unfold Cl.eqI at h
  rw [Bool.and_eq_true, beq_iff_eq, List.all_eq_true] at h
  obtain ⟨hl, ha⟩ := h
  have all : ∀ m ∈ keysM f, m ∈ keysM g ∧ f m = g m := fun m hm => by
    have := of_decide_eq_true (ha (.inl m, f m) (List.mem_map.mpr ⟨m, hm, rfl⟩))
    rw [getI_k] at this
    by_cases hg : m ∈ keysM g
    · rw [if_pos hg] at this
      injection this with this
      exact ⟨hg, this.symm⟩
    · rw [if_neg hg] at this; cases this
  by_cases hf : n ∈ keysM f
  · exact hne (all n hf).2
  · have := nodup_leM (a := n :: keysM f) (b := keysM g) (List.nodup_cons.mpr ⟨hf, keysM_nd f⟩) fun x hx => by
      rcases List.mem_cons.mp hx with rfl | hx
      · exact mem_keysM.mpr ⟨⟨h1, h2⟩, hg⟩
      · exact (all x hx).1
    unfold kI at hl
    rw [List.length_map, List.length_map] at hl
    rw [List.length_cons] at this
    omega
theorem tb_zero {S : Sto} {t : Nat} {f : Cnt} (h : S[t]? = some (.dic false [])) (h0 : ∀ n, f n = 0) : IsTb S t f := ⟨[], h, List.nodup_nil, fun n => by rw [keysM_zero h0]⟩
theorem two_leM {α : Type} {a b : α} : [a, b].length ≤ sizeLine := by rw [sizeLine_eq]; simp
def overV (f : Cnt) : Int := match overM f 1000000 with | some n => f n | none => 0
theorem over_one {f : Cnt} (of : CntOk f) : overM (timesC f 1) 1000000 = none := List.find?_eq_none.mpr fun n _ => by
  have := of.le n
  show ¬ decide ((1000000 : Int) < f n * 1) = true
  rw [decide_eq_true_eq]
  omega
theorem overV_zero {h : Cnt} : overV h = 0 ↔ overM h 1000000 = none := by
  unfold overV
  cases e : overM h 1000000 with
  | none => exact ⟨fun _ => rfl, fun _ => rfl⟩
  | some k =>
    have := over_gt e
    exact ⟨fun h => by have h : _ = (0 : Int) := h; dsimp only at h; omega, fun h => by cases h⟩
end Rd
namespace Rd
open PySem PySem.Spec PyProof.Rows L2 He Px Dx
def sp_law_source (K : PySem.W.Frag) : Sp := Sp1 fun x H Q _ => ∃ (a : Addr) (ns : List Int), x = .ref a ∧ SqL K H a (ns.map V.int) ∧ ns.length ≤ 100 ∧ ∀ H' p, Same H H' → H p = none → Src H' p → Q (.ref p) H'
def N_law_source : List PySem.Str := ["_law_script"]
def t_law_source (K : PySem.W.Frag) (W : WX) : TS := (tRet (tLst (tCons (tCB (rListP K) (tCons (tVar 0) tNil)) (tCons (tC (.int 0)) (tCons (tC (.int 0)) (tCons (tC (.int 0)) (tCons (tC (.int 0)) tNil)))))))
theorem pure_law_source {K : PySem.W.Frag} {vs : List V} {H : Hp} {Q : VK} {E : XK} {W : WX} (h : sp_law_source K vs H Q E) : t_law_source K W { nx := fun _ H' => Q .non H', rt := Q } (start N_law_source vs) H := by
  obtain ⟨x, rfl, a, ns, rfl, hS, hl, hq⟩ := h
  show t_law_source K W _ [some (.ref a)] H
  unfold t_law_source
  walk_at "ss"
  refine s_listL hS fun l hl0 => ?_
  walk_at "ss"
  refine ⟨by show 5 ≤ sizeLine; rw [sizeLine_eq]; decide, fun p hp => ?_⟩
  have s1 := same_new (o := .lst (ns.map V.int)) hl0
  refine hq _ p (s1.trans (same_new hp)) (s1.free hp) ⟨l, ns, 0, 0, 0, 0, upd_same, ?_, by decide, hl⟩
  rw [upd_ne (ne_of_none (H := upd H l (.lst (ns.map V.int))) upd_same hp)]
  exact upd_same
def sp_law_take (K : PySem.W.Frag) : Sp := Sp2 fun x y H Q _ => ∃ (a : Addr) (m : Int), x = .ref a ∧ y = .int m ∧ Src H a ∧ 0 < m ∧ m.natAbs.log2 < 9000 ∧ ∀ H' (r : Int), Src H' a → Mov a H H' → 0 ≤ r → r < m → Q (.int r) H'
def N_law_take : List PySem.Str := ["_law_source_here", "_law_many", "_law_mixed_here", "_law_cell", "_law_value"]
def t_law_take (K : PySem.W.Frag) (W : WX) : TS := (tCut (tIfS (tTest (tOp (rEqP K) (tOp (rIxP K) (tVar 0) (tC (.int 3))) (tC (.int 0)))) (tCut (tIfS (tTest (tOp rGeP (tOp (rIxP K) (tVar 0) (tC (.int 1))) (tCB (rLenP K) (tCons (tOp (rIxP K) (tVar 0) (tC (.int 0))) tNil)))) (tRet (tC (.int 0))) tNext)
    (tSeq (tAsg (tCB rIntP (tCons (tOp (rIxP K) (tOp (rIxP K) (tVar 0) (tC (.int 0))) (tOp (rIxP K) (tVar 0) (tC (.int 1)))) tNil)) (gName 3))
    (tSeq (tAsg (tOp (rAddP K) (tOp (rIxP K) (tVar 0) (tC (.int 1))) (tC (.int 1))) (gSub (tVar 0) (tC (.int 1)) rSetP))
    (tSeq (tAsg (tVar 3) (gSub (tVar 0) (tC (.int 2)) rSetP))
    (tSeq (tAsg (tC (.int 4)) (gSub (tVar 0) (tC (.int 3)) rSetP))
    (tSeq (tAsg (tC (.int 0)) (gSub (tVar 0) (tC (.int 4)) rSetP))
    (tIfS (tTest (tOp rGeP (tVar 3) (tOp rPowP (tC (.int 10)) (tC (.int 18))))) (tSeq (tAsg (tC (.int 60)) (gSub (tVar 0) (tC (.int 3)) rSetP))
    (tAsg (tC (.int 1)) (gSub (tVar 0) (tC (.int 4)) rSetP))) tNext))))))) tNext)
    (tSeq (tAsg (tOp rSubP (tOp (rIxP K) (tVar 0) (tC (.int 3))) (tC (.int 1))) (gSub (tVar 0) (tC (.int 3)) rSetP))
    (tCut (tIfS (tTest (tOp (rEqP K) (tOp (rIxP K) (tVar 0) (tC (.int 4))) (tC (.int 1)))) (tSeq (tAsg (tOp rModP (tCB rIntP (tCons (tOp (rIxP K) (tVar 0) (tC (.int 2))) tNil)) (tVar 1)) (gName 4))
    (tSeq (tAsg (tOp rFdivP (tOp (rIxP K) (tVar 0) (tC (.int 2))) (tVar 1)) (gSub (tVar 0) (tC (.int 2)) rSetP))
    (tCut (tIfS (tTest (tOp (rEqP K) (tOp (rIxP K) (tVar 0) (tC (.int 2))) (tC (.int 0)))) (tAsg (tC (.int 0)) (gSub (tVar 0) (tC (.int 3)) rSetP)) tNext)
    (tRet (tVar 4))))) tNext)
    (tSeq (tAsg (tOp rModP (tCB rIntP (tCons (tOp (rAddP K) (tOp (rAddP K) (tOp rMulP (tOp (rIxP K) (tVar 0) (tC (.int 2))) (tC (.int 48271))) (tOp rMulP (tOp (rIxP K) (tVar 0) (tC (.int 3))) (tC (.int 69621)))) (tC (.int 11))) tNil)) (tC (.int 2147483647))) (gName 2))
    (tSeq (tAsg (tOp rModP (tCB rIntP (tCons (tOp (rAddP K) (tOp (rAddP K) (tOp rMulP (tVar 2) (tC (.int 16807))) (tOp rMulP (tOp (rIxP K) (tVar 0) (tC (.int 3))) (tC (.int 7919)))) (tC (.int 5))) tNil)) (tC (.int 2147483629))) (gName 2))
    (tRet (tOp rModP (tCB rIntP (tCons (tVar 2) tNil)) (tVar 1))))))))
theorem pure_law_take {K : PySem.W.Frag} {vs : List V} {H : Hp} {Q : VK} {E : XK} {W : WX} (h : sp_law_take K vs H Q E) : t_law_take K W { nx := fun _ H' => Q .non H', rt := Q } (start N_law_take vs) H := by
  obtain ⟨x, y, rfl, a, m, rfl, rfl, ⟨c, cells, i, cur, cnt, mode, ha, hc, hi, hl⟩, hm, hm2, hq⟩ := h
  show t_law_take K W _ [some (.ref a), some (.int m), none, none, none] H
  unfold t_law_take
  have hca : c ≠ a := by
    intro e
    rw [e, ha] at hc
    have e2 := Option.some.inj hc
    injection e2 with e3
    have e4 := congrArg List.head? e3
    cases cells with
    | nil => cases e4
    | cons z r => cases e4
  refine s_cut (fun σ' H' => ∃ (i' cur' cnt' mode' : Int) (v3 : Option V), σ' = [some (.ref a), some (.int m), none, v3, none] ∧ H' a = some (.lst [.ref c, .int i', .int cur', .int cnt', .int mode']) ∧ But a H H' ∧ 0 ≤ i') ?_ ?_
  · walk_at "sl"
    refine s_itd (fun e0 => ?_) (fun e0 => ?_)
    · refine s_nocut ?_
      walk_at "sl"
      refine s_lenL hc ?_
      walk_at "sl"
      refine s_itd (fun e1 => ?_) (fun e1 => ?_)
      · walk_at "sl"
        exact hq H 0 ⟨c, cells, i, cur, cnt, mode, ha, hc, hi, hl⟩ (Mov.refl _ _) (by decide) hm
      · obtain ⟨z, hz⟩ := atI_cells hi e1
        walk_at "sl"
        refine s_ixL hc hz ?_
        walk_at "sl"
        refine s_in2 (by exact ⟨by decide, by decide, by decide⟩) ?_
        walk_at "sl"
        refine s_itd (fun e2 => ?_) (fun e2 => ?_)
        · walk_at "sl"
          exact ⟨_, _, _, _, _, rfl, upd_same, But.upd, by omega⟩
        · walk_at "sl"
          exact ⟨_, _, _, _, _, rfl, upd_same, But.upd, by omega⟩
    · walk_at "sl"
      exact ⟨_, _, _, _, _, rfl, ha, But.refl _ _, hi⟩
  · rintro σ' H' ⟨i', cur', cnt', mode', v3, rfl, ha', hb, hi'⟩
    have hc' := hb _ _ hc hca
    walk_at "sl"
    have fin : ∀ (i2 cur2 cnt2 mode2 r : Int), 0 ≤ i2 → 0 ≤ r → r < m → Q (.int r) (upd H' a (.lst [.ref c, .int i2, .int cur2, .int cnt2, .int mode2])) := fun i2 cur2 cnt2 mode2 r h2 h3 h4 =>
      hq _ r ⟨c, cells, i2, cur2, cnt2, mode2, upd_same, by rw [upd_ne hca]; exact hc', h2, hl⟩ (Mov.of (hb.trans But.upd) ha upd_same) h3 h4
    have hmod : ∀ z : Int, 0 ≤ z.fmod m ∧ z.fmod m < m := fun z => ⟨Int.fmod_nonneg_of_pos z hm, Int.fmod_lt_of_pos z hm⟩
    refine s_nocut ?_
    walk_at "sl"
    refine s_itd (fun e0 => ?_) (fun e0 => ?_)
    · walk_at "sl"
      refine s_in2 (by omega) ?_
      walk_at "sl"
      refine s_in2 ⟨by omega, hm2⟩ ?_
      walk_at "sl"
      refine s_nocut ?_
      walk_at "sl"
      refine s_itd (fun e1 => ?_) (fun e1 => ?_)
      · walk_at "sl"
        exact fin _ _ _ _ _ hi' (hmod _).1 (hmod _).2
      · walk_at "sl"
        exact fin _ _ _ _ _ hi' (hmod _).1 (hmod _).2
    · walk_at "sl"
      refine s_in2 (.inl (.inr ⟨by decide, by decide⟩)) ?_
      walk_at "sl"
      refine s_in2 (.inl (.inr ⟨by decide, by decide⟩)) ?_
      walk_at "sl"
      refine s_in2 (by decide) ?_
      walk_at "sl"
      refine s_in2 (.inl (.inr ⟨by decide, by decide⟩)) ?_
      walk_at "sl"
      refine s_in2 (.inl (.inr ⟨by decide, by decide⟩)) ?_
      walk_at "sl"
      refine s_in2 (by decide) ?_
      walk_at "sl"
      refine s_in2 (by omega) ?_
      exact fin _ _ _ _ _ hi' (hmod _).1 (hmod _).2
def dsp_law_take : DSp := DSp2 fun x y S Q _ => ∃ (n : Nat) (m : Int), x = .hdl n ∧ y = .int m ∧ IsSrc S n ∧ 0 < m ∧ m.natAbs.log2 < 9000 ∧ ∀ c (k : Int), IsSrcD c → 0 ≤ k → k < m → Q (.int k) (S.set n c)
theorem ad_law_take {K : PySem.W.Frag} {vs : List V} {H : Hp} {Q : VK} {E : XK} (h : lift K dsp_law_take vs H Q E) : sp_law_take K vs H Q E := by
  obtain ⟨A, S, ds, QD, ED, C, ts, ⟨x, y, rfl, n, m, rfl, rfl, hs, h0, hm, hq⟩, k, _⟩ := h
  cases ts with | cons t1 ts => cases ts with | cons t2 ts =>
    cases ts
    cases t1 with
    | hdl ha =>
      rw [int_of t2]
      refine ⟨_, _, rfl, _, m, rfl, rfl, src_of C hs ha, h0, hm, fun H' r s mv r0 r1 => ?_⟩
      obtain ⟨c, ic, C', l⟩ := src_back C hs ha mv s
      exact k _ _ _ _ _ l C' (.int r) (hq c r ic r0 r1)
theorem take_d {S : Sto} {n : Nat} {m : Int} {Q : DQ} {E : DX} (hs : IsSrc S n) (h0 : 0 < m) (h1 : m ≤ 1000000000000000) (h : ∀ c (k : Int), IsSrcD c → 0 ≤ k → k < m → Q (.int k) (S.set n c)) : dsp_law_take [.hdl n, .int m] S Q E := ⟨_, _, rfl, n, m, rfl, rfl, hs, h0, lg h0 h1, h⟩
end Rd
namespace Rd
open PySem PySem.Spec PyProof.Rows L2 He Px Dx
def sp_Mixture_len (K : PySem.W.Frag) : Sp := Sp1 fun x H Q _ => ∃ (a dx : Addr) (fs : List (Str × V)) (d : Addr) (kvs : List (Key × V)), x = .ref a ∧ H a = some (.ins (ga K "Mixture") dx fs) ∧ fs.lookup ("rows" : Str) = some (.ref d) ∧ Rd H d (.dK kvs) ∧ kvs.length ≤ 1000000 ∧ Q (.int kvs.length) H
def N_Mixture_len : List PySem.Str := ["self"]
def t_Mixture_len (K : PySem.W.Frag) (W : WX) : TS := (tRet (tCB (Cl.rLenR K) (tCons (Cl.tAtt [(ga K "Book", Cl.aFld "rows"), (ga K "Mixture", Cl.aFld "rows")] (tVar 0)) tNil)))
theorem pure_Mixture_len {K : PySem.W.Frag} {vs : List V} {H : Hp} {Q : VK} {E : XK} {W : WX} (h : sp_Mixture_len K vs H Q E) : t_Mixture_len K W { nx := fun _ H' => Q .non H', rt := Q } (start N_Mixture_len vs) H := by
  obtain ⟨x, rfl, a, dx, fs, d, kvs, rfl, ha, hf, hd, _, hq⟩ := h
  show t_Mixture_len K W _ [some (.ref a)] H
  unfold t_Mixture_len
  walk_at "ss"
  refine fld_go "rows" (by walk_at "mem") ha hf ?_
  walk_at "ss"
  exact .inr ⟨d, kvs, rfl, hd, hq⟩
end Rd
namespace Rd
open PySem PySem.Spec PyProof.Rows L2 He Px Dx
def dsp_check_number : DSp := DSp1 fun x S Q E => ∃ n : Int, x = .int n ∧ (1 ≤ n ∧ n ≤ 999 → Q .non S) ∧ (¬ (1 ≤ n ∧ n ≤ 999) → E "BadNumber" [("number", .int n)] S)
abbrev sp_check_number (K : PySem.W.Frag) : Sp := lift K dsp_check_number
def N_check_number : List PySem.Str := ["number"]
def t_check_number (K : PySem.W.Frag) (W : WX) : TS := (tIfS (tOr (tTest (tOp rLtP (tVar 0) (tC (.int 1)))) (tTest (tOp rGtP (tVar 0) (Cl.tCls (.int 999))))) (tRaiseE (ga K "BadNumber") "number" W (tCons (tVar 0) tNil)) tNext)
def d_check_number (WD : DW) : DS := (dIfS (dOr (dTest (dOp dLt (dVar 0) (dC (.int 1)))) (dTest (dOp dGt (dVar 0) (dC (.int 999))))) (dRaise "BadNumber" "number" WD (dCons (dVar 0) dNil)) dNext)
theorem sim_check_number {K : PySem.W.Frag} (W : WX) (WD : DW) : SimS K W WD (t_check_number K W) (d_check_number WD) := by
  unfold t_check_number d_check_number
  exact (sim_ifS (sim_or (sim_test (sim_op op_lt sim_var (sim_c fun _ _ => .int _))) (sim_test (sim_op op_gt sim_var (sim_cls fun _ _ => .int _)))) (sim_raise (sim_cons sim_var sim_nil)) sim_next)
theorem dpure_check_number {ds : List D} {S : Sto} {Q : DQ} {E : DX} (h : dsp_check_number ds S Q E) : d_check_number (ExD S E) { nx := fun _ S' => RtD S Q .non S', rt := RtD S Q, b := S.length } (startD N_check_number.length ds) S := by
  obtain ⟨x, rfl, n, rfl, hq, he⟩ := h
  show d_check_number _ _ [some (.int n)] S
  unfold d_check_number
  walk_at "dd"
  by_cases h1 : n < 1
  · refine s_itT (decide_eq_true h1) ?_
    refine s_itT rfl ?_
    walk_at "dd"
    exact ⟨_, rfl, ex_same lt_int (he (by omega))⟩
  refine s_itF (decide_eq_false h1) ?_
  walk_at "dd"
  by_cases h2 : n > 999
  · refine s_itT (decide_eq_true h2) ?_
    walk_at "dd"
    exact ⟨_, rfl, ex_same lt_int (he (by omega))⟩
  refine s_itF (decide_eq_false h2) ?_
  walk_at "dd"
  exact rt_same lt_nonM (hq ⟨by omega, by omega⟩)
theorem len_check_number {K : PySem.W.Frag} {vs : List V} {H : Hp} {Q : VK} {E : XK} (h : sp_check_number K vs H Q E) : vs.length = 1 := lift_len (fun _ _ _ _ h => DSp1.len h) h
theorem pure_check_number {K : PySem.W.Frag} {vs : List V} {H : Hp} {Q : VK} {E : XK} (h : sp_check_number K vs H Q E) : t_check_number K (fun cls d _ H => E cls d H) { nx := fun _ H' => Q .non H', rt := Q } (start N_check_number vs) H := lift_def (N := N_check_number) (fun W WD => sim_check_number W WD) (fun _ _ _ _ h => dpure_check_number h) _ _ _ _ h
def dsp_tally : DSp := DSp1 fun x S Q _ => ∃ ns : List Int, x = .tup (ns.map .int) ∧ ns.length ≤ 1000 ∧ (∀ n ∈ ns, 1 ≤ n ∧ n ≤ 999) ∧ Q (.hdl S.length) (S ++ [.dic false (kvM (cntL ns))])
abbrev sp_tally (K : PySem.W.Frag) : Sp := lift K dsp_tally
def N_tally : List PySem.Str := ["numbers", "rows", "number", "each"]
def t_tally (K : PySem.W.Frag) (W : WX) : TS := (tSeq (tAsg tDNewK (gName 1))
    (tCut (tFor (iAnyP K (tCB (rSortAny K) (tCons (tLc (iAnyP K (tVar 0)) (gName 3) tYes (tCB rIntP (tCons (tVar 3) tNil)) [3]) tNil))) (gName 2) (tAsg (tOp (rAddP K) (tDGet2 (tVar 1) (tVar 2) (tC (.int 0))) (tC (.int 1))) (gSub (tVar 1) (tVar 2) rSetP)))
    (tRet (tVar 1))))
def d_tally (WD : DW) : DS := (dSeq (dAsg dNewK (dgName 1))
    (dCut (dFor (dAny (dCB (dSortI false) (dCons (dLc false (dAny (dVar 0)) (dgName 3) dYes (dCB dInt (dCons (dVar 3) dNil)) [3]) dNil))) (dgName 2) (dAsg (dOp (dAdd false) (dDGet2 (dVar 1) (dVar 2) (dC (.int 0))) (dC (.int 1))) (dgSub (dVar 1) (dVar 2))))
    (dRet (dVar 1))))
theorem sim_tally {K : PySem.W.Frag} (W : WX) (WD : DW) : SimS K W WD (t_tally K W) (d_tally WD) := by
  unfold t_tally d_tally
  exact (sim_seq (sim_asg sim_newK sim_gname)
      (sim_cut (sim_for (sim_any (sim_cb cb_sortI (sim_cons (sim_lc (sim_any sim_var) (simv_gname (by decide)) sim_yes (sim_cb cb_int (sim_cons sim_var sim_nil))) sim_nil))) sim_gname (sim_asg (sim_op op_add (sim_dget2 sim_var sim_var (sim_c fun _ _ => .int _)) (sim_c fun _ _ => .int _)) (sim_gsub sim_var sim_var)))
      (sim_ret sim_var)))
theorem dpure_tally {ds : List D} {S : Sto} {Q : DQ} {E : DX} (h : dsp_tally ds S Q E) : d_tally (ExD S E) { nx := fun _ S' => RtD S Q .non S', rt := RtD S Q, b := S.length } (startD N_tally.length ds) S := by
  obtain ⟨x, rfl, ns, rfl, hl, hb, hq⟩ := h
  show d_tally _ _ [some (.tup (ns.map .int)), none, none, none] S
  unfold d_tally
  walk_at "dd"
  refine w_cut (fun ρ' S' => ∃ a, ρ' = [some (.tup (ns.map .int)), some (.hdl S.length), a, none] ∧ S' = S ++ [.dic false (kvM (cntL ns))]) ?_ ?_
  rotate_left
  · rintro ρ' S' ⟨a, rfl, rfl⟩
    walk_at "dd"
    exact rt_all hq
  walk_at "dd"
  refine .seq (ds := ns.map .int) sq_t ?_
  refine lcd_map ns .int .int rfl (by omega) sq_t (fun n hn Q2 q2 => ?_) ?_
  · walk_at "dd"
    exact q2
  walk_at "dd"
  refine ⟨_, ns, rfl, rfl, fun ys hp hs => ?_⟩
  unfold newAt
  refine .seq (ds := ys.map .int) sq_l ?_
  refine ⟨fun i ρ' S' => ∃ a, ρ' = [some (.tup (ns.map .int)), some (.hdl S.length), a, none] ∧ S' = S ++ [.dic false (kvM (cntL (ys.take i)))], ⟨none, rfl, rfl⟩, fun _ _ _ _ _ => sq_l, ?_, ?_⟩
  · rintro i d ρ' S' hd ⟨a, rfl, rfl⟩
    obtain ⟨n, en, rfl⟩ := map_at (show (ys.map D.int)[i]? = some d from hd)
    have hn := hb n (hp.mem_iff.mp (List.mem_of_getElem? en))
    have hl2 : 0 < cntL (ys.take i) n ∨ ∀ m, 1 ≤ m → m ≤ 999 → 0 < cntL (ys.take i) m → m < n := by
      by_cases h : n ∈ ys.take i
      · exact .inl (cnt_pos.mpr h)
      · refine .inr fun m _ _ hm => ?_
        have hm := cnt_pos.mp hm
        have := take_le hs en hm
        have : m ≠ n := fun e => h (by rw [← e]; exact hm)
        omega
    walk_at "dd"
    refine ⟨⟨_, _, rs_h atL⟩, ?_⟩
    walk_at "dd"
    refine ⟨_, _, .inl n, rs_h atL, rfl, ?_⟩
    rw [getM fun h => by
      have : ¬ 0 < cntL (ys.take i) n := fun hp => h (mem_keysM.mpr ⟨hn, hp⟩)
      have : 0 ≤ cntL (ys.take i) n := Int.natCast_nonneg _
      omega]
    walk_at "dd"
    refine .dic (key := .inl n) atL rfl (by have := kvM_len (f := cntL (ys.take i)); rw [sizeLine_eq]; omega) ?_
    refine ⟨_, rfl, ?_⟩
    rw [setL, putM (by have : 0 ≤ cntL (ys.take i) n := Int.natCast_nonneg _; omega) hn.1 hn.2 hl2, take_at en, cnt_snoc]
  · rintro ρ' S' ⟨a, rfl, rfl⟩
    rw [show (⟨ys.map D.int, fun _ => True⟩ : IS).items.length = ys.length from List.length_map .., List.take_length]
    refine ⟨a, rfl, ?_⟩
    have e : cntL ys = cntL ns := funext fun n => by unfold cntL; rw [hp.count_eq]
    rw [e]
theorem len_tally {K : PySem.W.Frag} {vs : List V} {H : Hp} {Q : VK} {E : XK} (h : sp_tally K vs H Q E) : vs.length = 1 := lift_len (fun _ _ _ _ h => DSp1.len h) h
theorem pure_tally {K : PySem.W.Frag} {vs : List V} {H : Hp} {Q : VK} {E : XK} (h : sp_tally K vs H Q E) : t_tally K (fun cls d _ H => E cls d H) { nx := fun _ H' => Q .non H', rt := Q } (start N_tally vs) H := lift_def (N := N_tally) (fun W WD => sim_tally W WD) (fun _ _ _ _ h => dpure_tally h) _ _ _ _ h
def dsp_summed : DSp := DSp3 fun x y w S Q E => ∃ (a b : Nat) (f g : Cnt) (most : Int), x = .hdl a ∧ y = .hdl b ∧ w = .int most ∧ S[a]? = some (.dic false (kvM f)) ∧ S[b]? = some (.dic false (kvM g)) ∧ CntOk f ∧ CntOk g ∧
  (∀ n, overM (addC f g) most = some n → E "BadCount" [("count", .int (f n + g n))] S) ∧ (overM (addC f g) most = none → Q (.hdl S.length) (S ++ [.dic false (kvM (addC f g))]))
abbrev sp_summed (K : PySem.W.Frag) : Sp := lift K dsp_summed
def N_summed : List PySem.Str := ["one", "other", "most", "rows", "number", "total", "each"]
def t_summed (K : PySem.W.Frag) (W : WX) : TS := (tSeq (tAsg tDNewK (gName 3))
    (tCut (tFor (iAnyP K (tCB (rSortAny K) (tCons (tLc (iAnyP K (tOp (rAddP K) (tCB rListD (tCons (tVar 0) tNil)) (tCB rListD (tCons (tVar 1) tNil)))) (gName 6) tYes (tCB rIntP (tCons (tVar 6) tNil)) [6]) tNil))) (gName 4) (tSeq (tAsg (tOp (rAddP K) (tDGet2 (tVar 0) (tVar 4) (tC (.int 0))) (tDGet2 (tVar 1) (tVar 4) (tC (.int 0)))) (gName 5))
    (tCut (tIfS (tTest (tOp rGtP (tVar 5) (tVar 2))) (tRaiseE (ga K "BadCount") "count" W (tCons (tVar 5) tNil)) tNext)
    (tAsg (tVar 5) (gSub (tVar 3) (tVar 4) rSetP)))))
    (tRet (tVar 3))))
def d_summed (WD : DW) : DS := (dSeq (dAsg dNewK (dgName 3))
    (dCut (dFor (dAny (dCB (dSortI false) (dCons (dLc false (dAny (dOp (dAdd false) (dCB (dListK0 false) (dCons (dVar 0) dNil)) (dCB (dListK0 false) (dCons (dVar 1) dNil)))) (dgName 6) dYes (dCB dInt (dCons (dVar 6) dNil)) [6]) dNil))) (dgName 4) (dSeq (dAsg (dOp (dAdd false) (dDGet2 (dVar 0) (dVar 4) (dC (.int 0))) (dDGet2 (dVar 1) (dVar 4) (dC (.int 0)))) (dgName 5))
    (dCut (dIfS (dTest (dOp dGt (dVar 5) (dVar 2))) (dRaise "BadCount" "count" WD (dCons (dVar 5) dNil)) dNext)
    (dAsg (dVar 5) (dgSub (dVar 3) (dVar 4))))))
    (dRet (dVar 3))))
theorem sim_summed {K : PySem.W.Frag} (W : WX) (WD : DW) : SimS K W WD (t_summed K W) (d_summed WD) := by
  unfold t_summed d_summed
  exact (sim_seq (sim_asg sim_newK sim_gname)
      (sim_cut (sim_for (sim_any (sim_cb cb_sortI (sim_cons (sim_lc (sim_any (sim_op op_add (sim_cb cb_listK0 (sim_cons sim_var sim_nil)) (sim_cb cb_listK0 (sim_cons sim_var sim_nil)))) (simv_gname (by decide)) sim_yes (sim_cb cb_int (sim_cons sim_var sim_nil))) sim_nil))) sim_gname (sim_seq (sim_asg (sim_op op_add (sim_dget2 sim_var sim_var (sim_c fun _ _ => .int _)) (sim_dget2 sim_var sim_var (sim_c fun _ _ => .int _))) sim_gname)
      (sim_cut (sim_ifS (sim_test (sim_op op_gt sim_var sim_var)) (sim_raise (sim_cons sim_var sim_nil)) sim_next)
      (sim_asg sim_var (sim_gsub sim_var sim_var)))))
      (sim_ret sim_var)))
theorem dpure_summed {ds : List D} {S : Sto} {Q : DQ} {E : DX} (h : dsp_summed ds S Q E) : d_summed (ExD S E) { nx := fun _ S' => RtD S Q .non S', rt := RtD S Q, b := S.length } (startD N_summed.length ds) S := by
  obtain ⟨x, y, w, rfl, a, b, f, g, most, rfl, rfl, rfl, ha, hb, of, og, he, hq⟩ := h
  show d_summed _ _ [some (.hdl a), some (.hdl b), some (.int most), none, none, none, none] S
  unfold d_summed
  walk_at "dd"
  have pos : ∀ n, 0 ≤ addC f g n := fun n => by have := of.pos n; have := og.pos n; show 0 ≤ f n + g n; omega
  have mem : ∀ n, n ∈ keysM (addC f g) ↔ n ∈ keysM f ∨ n ∈ keysM g := fun n => by
    rw [mem_keysM, mem_keysM, mem_keysM]
    have := of.pos n
    have := og.pos n
    show _ ∧ 0 < f n + g n ↔ _
    omega
  have lf := keysM_len f
  have lg := keysM_len g
  have la := lt_of_at ha
  have lb := lt_of_at hb
  let G : List Int → Cnt := fun P n => if n ∈ P then f n + g n else 0
  refine w_cut (fun ρ' S' => overM (addC f g) most = none ∧ (∃ u v, ρ' = [some (.hdl a), some (.hdl b), some (.int most), some (.hdl S.length), u, v, none]) ∧ S' = S ++ [.dic false (kvM (addC f g))]) ?_ ?_
  rotate_left
  · rintro ρ' S' ⟨hn, ⟨u, v, rfl⟩, rfl⟩
    walk_at "dd"
    exact rt_all (hq hn)
  walk_at "dd"
  have ha2 : ∀ {d : D}, (S ++ [d])[a]? = some (.dic false (kvM f)) := fun {d} => by rw [List.getElem?_append_left la]; exact ha
  have hb2 : ∀ {d : D}, (S ++ [d])[b]? = some (.dic false (kvM g)) := fun {d} => by rw [List.getElem?_append_left lb]; exact hb
  refine ⟨a, kvM f, rfl, ha2, ?_⟩
  unfold newAt
  walk_at "dd"
  refine ⟨b, kvM g, rfl, hb2, ?_⟩
  unfold newAt
  walk_at "dd"
  rw [kvM_keys, kvM_keys]
  refine .lst (ds := (keysM f).map .int) (es := (keysM g).map .int) rfl rfl (by rw [List.length_map, List.length_map, sizeLine_eq]; omega) ?_
  rw [← List.map_append]
  unfold newAt
  refine .seq (ds := (keysM f ++ keysM g).map .int) sq_l ?_
  refine lcd_map (keysM f ++ keysM g) .int .int rfl (by rw [List.length_append]; omega) sq_l (fun n hn Q2 q2 => ?_) ?_
  · walk_at "dd"
    exact q2
  walk_at "dd"
  refine ⟨_, keysM f ++ keysM g, rfl, rfl, fun ys hp hs => ?_⟩
  unfold newAt
  have my : ∀ n, n ∈ ys ↔ n ∈ keysM (addC f g) := fun n => by rw [hp.mem_iff, List.mem_append, mem]
  refine .seq (ds := ys.map .int) sq_l ?_
  refine ⟨fun i ρ' S' => (∀ n ∈ ys.take i, f n + g n ≤ most) ∧ (∃ u v, ρ' = [some (.hdl a), some (.hdl b), some (.int most), some (.hdl S.length), u, v, none]) ∧ S' = S ++ [.dic false (kvM (G (ys.take i)))], ⟨fun n h => (by cases h), ⟨none, none, rfl⟩, ?_⟩, fun _ _ _ _ _ => sq_l, ?_, ?_⟩
  · rw [kvM_zero (f := G (ys.take 0)) fun n => rfl]
  · rintro i d ρ' S' hd ⟨hle, ⟨u, v, rfl⟩, rfl⟩
    obtain ⟨n, en, rfl⟩ := map_at (show (ys.map D.int)[i]? = some d from hd)
    have hny := List.mem_of_getElem? en
    have hnk := (my n).mp hny
    obtain ⟨hn9, hnp⟩ := mem_keysM.mp hnk
    have hnp : 0 < f n + g n := hnp
    walk_at "dd"
    refine ⟨⟨_, _, rs_h ha2⟩, ?_⟩
    walk_at "dd"
    refine ⟨_, _, .inl n, rs_h ha2, rfl, ?_⟩
    rw [getM fun h => of.zero h]
    walk_at "dd"
    refine ⟨⟨_, _, rs_h hb2⟩, ?_⟩
    walk_at "dd"
    refine ⟨_, _, .inl n, rs_h hb2, rfl, ?_⟩
    rw [getM fun h => og.zero h]
    walk_at "dd"
    refine w_nocut ?_
    walk_at "dd"
    by_cases hm : f n + g n > most
    · refine s_itT (decide_eq_true hm) ?_
      walk_at "dd"
      refine ⟨_, rfl, ex_app lt_int (he n ?_)⟩
      exact find_asc (keysM_asc _) hnk (decide_eq_true hm) fun x hx hl => decide_eq_false (by
        have := hle x (lt_take hs en ((my x).mpr hx) hl)
        show ¬ most < f x + g x
        omega)
    refine s_itF (decide_eq_false hm) ?_
    walk_at "dd"
    refine .dic (key := .inl n) atL rfl (by have := kvM_len (f := G (ys.take i)); rw [sizeLine_eq]; omega) ?_
    have en2 := take_at en
    refine ⟨fun x hx => ?_, ⟨_, _, rfl⟩, ?_⟩
    · rw [en2] at hx
      rcases List.mem_append.mp hx with hx | hx
      · exact hle x hx
      · rw [List.mem_singleton.mp hx]; omega
    · rw [setL, putM hnp hn9.1 hn9.2 ?_]
      · congr 3
        refine kvM_congr fun x _ _ => ?_
        show updC (G (ys.take i)) n (f n + g n) x = G (ys.take (i + 1)) x
        by_cases e : x = n
        · subst e
          rw [updC_at]
          show _ = if x ∈ ys.take (i + 1) then f x + g x else 0
          rw [if_pos (by rw [en2]; exact List.mem_append_right _ List.mem_cons_self)]
        · rw [updC_ne e]
          show (if x ∈ ys.take i then f x + g x else 0) = if x ∈ ys.take (i + 1) then f x + g x else 0
          have : x ∈ ys.take (i + 1) ↔ x ∈ ys.take i := by
            rw [en2, List.mem_append]
            exact ⟨fun h => h.elim id fun h => absurd (List.mem_singleton.mp h) e, .inl⟩
          by_cases hx : x ∈ ys.take i
          · rw [if_pos hx, if_pos (this.mpr hx)]
          · rw [if_neg hx, if_neg fun h => hx (this.mp h)]
      · by_cases h : n ∈ ys.take i
        · refine .inl ?_
          show 0 < if n ∈ ys.take i then f n + g n else 0
          rw [if_pos h]; exact hnp
        · refine .inr fun x _ _ hx => ?_
          have hx : 0 < if x ∈ ys.take i then f x + g x else 0 := hx
          by_cases hx2 : x ∈ ys.take i
          · have := take_le hs en hx2
            have : x ≠ n := fun e => h (by rw [← e]; exact hx2)
            omega
          · rw [if_neg hx2] at hx; omega
  · rintro ρ' S' ⟨hle, hr, rfl⟩
    rw [show (⟨ys.map D.int, fun S' => Sq S' (D.lst (ys.map D.int)) (ys.map D.int)⟩ : IS).items.length = ys.length from List.length_map .., List.take_length] at hle ⊢
    refine ⟨List.find?_eq_none.mpr fun n hn => ?_, hr, ?_⟩
    · have := hle n ((my n).mpr hn)
      show ¬ decide (most < f n + g n) = true
      rw [decide_eq_true_eq]
      omega
    · congr 3
      refine kvM_congr fun x h1 h2 => ?_
      show (if x ∈ ys then f x + g x else 0) = f x + g x
      by_cases hx : x ∈ ys
      · rw [if_pos hx]
      · rw [if_neg hx]
        have h3 : ¬ 0 < addC f g x := fun h => hx ((my x).mpr (mem_keysM.mpr ⟨⟨h1, h2⟩, h⟩))
        have h4 := pos x
        have h5 : addC f g x = f x + g x := rfl
        omega
theorem len_summed {K : PySem.W.Frag} {vs : List V} {H : Hp} {Q : VK} {E : XK} (h : sp_summed K vs H Q E) : vs.length = 3 := lift_len (fun _ _ _ _ h => DSp3.len h) h
theorem pure_summed {K : PySem.W.Frag} {vs : List V} {H : Hp} {Q : VK} {E : XK} (h : sp_summed K vs H Q E) : t_summed K (fun cls d _ H => E cls d H) { nx := fun _ H' => Q .non H', rt := Q } (start N_summed vs) H := lift_def (N := N_summed) (fun W WD => sim_summed W WD) (fun _ _ _ _ h => dpure_summed h) _ _ _ _ h
def dsp_multiplied_counts : DSp := DSp3 fun x y w S Q E => ∃ (a : Nat) (f : Cnt) (k most : Int), x = .hdl a ∧ y = .int k ∧ w = .int most ∧ S[a]? = some (.dic false (kvM f)) ∧ CntOk f ∧ 0 ≤ most ∧
  (k < 0 → E "BadCount" [("count", .int k)] S) ∧ (0 ≤ k → ∀ n, overM (timesC f k) most = some n → E "BadCount" [("count", .int (f n * k))] S) ∧ (0 ≤ k → overM (timesC f k) most = none → Q (.hdl S.length) (S ++ [.dic false (kvM (timesC f k))]))
abbrev sp_multiplied_counts (K : PySem.W.Frag) : Sp := lift K dsp_multiplied_counts
def N_multiplied_counts : List PySem.Str := ["counts", "k", "most", "rows", "number"]
def t_multiplied_counts (K : PySem.W.Frag) (W : WX) : TS := (tCut (tIfS (tTest (tOp rLtP (tVar 1) (tC (.int 0)))) (tRaiseE (ga K "BadCount") "count" W (tCons (tVar 1) tNil)) tNext)
    (tSeq (tAsg tDNewK (gName 3))
    (tCut (Cl.tLockW W (fun W2 => tFor (iKeys (tVar 0)) (gName 4) (tCut (tIfS (tTest (tOp rGtP (tOp rMulP (tDGet (tVar 0) (tVar 4)) (tVar 1)) (tVar 2))) (tRaiseE (ga K "BadCount") "count" W2 (tCons (tOp rMulP (tDGet (tVar 0) (tVar 4)) (tVar 1)) tNil)) tNext)
    (tIfS (tTest (tOp rGtP (tVar 1) (tC (.int 0)))) (tAsg (tOp rMulP (tDGet (tVar 0) (tVar 4)) (tVar 1)) (gSub (tVar 3) (tVar 4) rSetP)) tNext))))
    (tRet (tVar 3)))))
def d_multiplied_counts (WD : DW) : DS := (dCut (dIfS (dTest (dOp dLt (dVar 1) (dC (.int 0)))) (dRaise "BadCount" "count" WD (dCons (dVar 1) dNil)) dNext)
    (dSeq (dAsg dNewK (dgName 3))
    (dCut (dLockW WD (.var 0) (fun WD1 => (dFor (dKeys (dVar 0)) (dgName 4) (dCut (dIfS (dTest (dOp dGt (dOp dMul (dDGet (dVar 0) (dVar 4)) (dVar 1)) (dVar 2))) (dRaise "BadCount" "count" WD1 (dCons (dOp dMul (dDGet (dVar 0) (dVar 4)) (dVar 1)) dNil)) dNext)
    (dIfS (dTest (dOp dGt (dVar 1) (dC (.int 0)))) (dAsg (dOp dMul (dDGet (dVar 0) (dVar 4)) (dVar 1)) (dgSub (dVar 3) (dVar 4))) dNext)))))
    (dRet (dVar 3)))))
theorem sim_multiplied_counts {K : PySem.W.Frag} (W : WX) (WD : DW) : SimS K W WD (t_multiplied_counts K W) (d_multiplied_counts WD) := by
  unfold t_multiplied_counts d_multiplied_counts
  exact (sim_cut (sim_ifS (sim_test (sim_op op_lt sim_var (sim_c fun _ _ => .int _))) (sim_raise (sim_cons sim_var sim_nil)) sim_next)
      (sim_seq (sim_asg sim_newK sim_gname)
      (sim_cut (sim_lockW (p := (.var 0)) (fun W1 WD1 => (sim_for (sim_keys sim_var) sim_gname (sim_cut (sim_ifS (sim_test (sim_op op_gt (sim_op op_mul (sim_dget sim_var sim_var) sim_var) sim_var)) (sim_raise (sim_cons (sim_op op_mul (sim_dget sim_var sim_var) sim_var) sim_nil)) sim_next)
      (sim_ifS (sim_test (sim_op op_gt sim_var (sim_c fun _ _ => .int _))) (sim_asg (sim_op op_mul (sim_dget sim_var sim_var) sim_var) (sim_gsub sim_var sim_var)) sim_next)))))
      (sim_ret sim_var))))
theorem dpure_multiplied_counts {ds : List D} {S : Sto} {Q : DQ} {E : DX} (h : dsp_multiplied_counts ds S Q E) : d_multiplied_counts (ExD S E) { nx := fun _ S' => RtD S Q .non S', rt := RtD S Q, b := S.length } (startD N_multiplied_counts.length ds) S := by
  obtain ⟨x, y, w, rfl, a, f, k, most, rfl, rfl, rfl, ha, of, m0, e1, e2, hq⟩ := h
  show d_multiplied_counts _ _ [some (.hdl a), some (.int k), some (.int most), none, none] S
  unfold d_multiplied_counts
  refine w_nocut ?_
  walk_at "dd"
  by_cases h0 : k < 0
  · refine s_itT (decide_eq_true h0) ?_
    walk_at "dd"
    exact ⟨_, rfl, ex_same lt_int (e1 h0)⟩
  have k0 : 0 ≤ k := by omega
  refine s_itF (decide_eq_false h0) ?_
  walk_at "dd"
  have la := lt_of_at ha
  have lf := keysM_len f
  let G : List Int → Cnt := fun P n => if n ∈ P then f n * k else 0
  have back : ∀ {x : D}, ((S.set a (.dic true (kvM f))) ++ [x]).set a (.dic false (kvM f)) = S ++ [x] := fun {x} => by
    rw [List.set_append_left _ _ (by rw [List.length_set]; exact la), List.set_set, set_selfM ha]
  have go : ∀ {x : D}, (S ++ [x]).set a (.dic true (kvM f)) = S.set a (.dic true (kvM f)) ++ [x] := fun {x} => List.set_append_left _ _ la
  have ls : (S.set a (.dic true (kvM f))).length = S.length := List.length_set ..
  have ha2 : ∀ {d : D}, (S.set a (.dic true (kvM f)) ++ [d])[a]? = some (.dic true (kvM f)) := fun {d} => by
    rw [List.getElem?_append_left (by rw [ls]; exact la), List.getElem?_set_self la]
  have pos : ∀ n, n ∈ keysM (timesC f k) → n ∈ keysM f := fun n hn => by
    rw [mem_keysM] at hn ⊢
    refine ⟨hn.1, ?_⟩
    have h1 : 0 < f n * k := hn.2
    have h2 := of.pos n
    by_cases e : f n = 0
    · rw [e, Int.zero_mul] at h1; omega
    · omega
  refine w_cut (fun ρ' S' => overM (timesC f k) most = none ∧ (∃ u, ρ' = [some (.hdl a), some (.int k), some (.int most), some (.hdl S.length), u]) ∧ S' = S ++ [.dic false (kvM (timesC f k))]) ?_ ?_
  rotate_left
  · rintro ρ' S' ⟨hn, ⟨u, rfl⟩, rfl⟩
    walk_at "dd"
    exact rt_all (hq k0 hn)
  refine w_lockW (n := a) (kvs := kvM f) rfl (by rw [List.getElem?_append_left la]; exact ha) ?_
  rw [go]
  walk_at "dd"
  refine ⟨a, kvM f, rfl, ha2, ?_⟩
  refine ⟨fun i ρ' S' => (∀ n ∈ (keysM f).take i, f n * k ≤ most) ∧ (∃ u, ρ' = [some (.hdl a), some (.int k), some (.int most), some (.hdl S.length), u]) ∧ S' = S.set a (.dic true (kvM f)) ++ [.dic false (kvM (G ((keysM f).take i)))], ⟨fun n h => (by cases h), ⟨none, rfl⟩, ?_⟩, fun _ _ _ _ _ => trivial, ?_, ?_⟩
  · rw [kvM_zero (f := G ((keysM f).take 0)) fun n => rfl]
  · rintro i d ρ' S' hd ⟨hle, ⟨u, rfl⟩, rfl⟩
    obtain ⟨n, en, rfl⟩ := map_at (show ((keysM f).map D.int)[i]? = some d by rw [← kvM_keys]; exact hd)
    have hnk := List.mem_of_getElem? en
    obtain ⟨hn9, hnp⟩ := mem_keysM.mp hnk
    have cm : CMulP (f n) k := .inl (.inl ⟨by have := of.pos n; omega, by have := of.le n; omega⟩)
    have hs : (keysM f).Pairwise (· ≤ ·) := (keysM_asc f).imp fun h => by omega
    have hget : getK (kvM f) (.inl n) = some (.int (f n)) := by unfold kvM; rw [getC, if_pos hnk]
    walk_at "dd"
    refine w_nocut ?_
    walk_at "dd"
    refine ⟨true, kvM f, .inl n, .int (f n), rs_h ha2, rfl, hget, ?_⟩
    walk_at "dd"
    refine ⟨_, _, rfl, rfl, cm, ?_⟩
    walk_at "dd"
    have en2 := take_at en
    by_cases hm : f n * k > most
    · refine s_itT (decide_eq_true hm) ?_
      walk_at "dd"
      refine ⟨true, kvM f, .inl n, .int (f n), rs_h ha2, rfl, hget, ?_⟩
      walk_at "dd"
      refine ⟨_, _, rfl, rfl, cm, ?_⟩
      walk_at "dd"
      refine ⟨_, rfl, ?_⟩
      rw [back]
      refine ex_app lt_int (e2 k0 n ?_)
      have hnk2 : n ∈ keysM (timesC f k) := mem_keysM.mpr ⟨hn9, by show 0 < f n * k; omega⟩
      exact find_asc (keysM_asc _) hnk2 (decide_eq_true hm) fun x hx hl => decide_eq_false (by
        have := hle x (lt_take hs en (pos x hx) hl)
        show ¬ most < f x * k
        omega)
    refine s_itF (decide_eq_false hm) ?_
    walk_at "dd"
    have hle2 : ∀ x ∈ (keysM f).take (i + 1), f x * k ≤ most := fun x hx => by
      rw [en2] at hx
      rcases List.mem_append.mp hx with hx | hx
      · exact hle x hx
      · rw [List.mem_singleton.mp hx]; omega
    by_cases hk : k > 0
    · refine s_itT (decide_eq_true hk) ?_
      walk_at "dd"
      refine ⟨true, kvM f, .inl n, .int (f n), rs_h ha2, rfl, hget, ?_⟩
      walk_at "dd"
      refine ⟨_, _, rfl, rfl, cm, ?_⟩
      walk_at "dd"
      have hp : 0 < f n * k := Int.mul_pos hnp hk
      have atk : (S.set a (.dic true (kvM f)) ++ [D.dic false (kvM (G ((keysM f).take i)))])[S.length]? = some (.dic false (kvM (G ((keysM f).take i)))) := by
        rw [← ls]; exact atL
      refine .dic (key := .inl n) atk rfl (by have := kvM_len (f := G ((keysM f).take i)); rw [sizeLine_eq]; omega) ?_
      refine ⟨hle2, ⟨_, rfl⟩, ?_⟩
      rw [show ∀ c d : D, (S.set a (.dic true (kvM f)) ++ [c]).set S.length d = S.set a (.dic true (kvM f)) ++ [d] from fun c d => by rw [← ls]; exact setL]
      rw [putM hp hn9.1 hn9.2 ?_]
      · congr 3
        refine kvM_congr fun x _ _ => ?_
        show updC (G ((keysM f).take i)) n (f n * k) x = if x ∈ (keysM f).take (i + 1) then f x * k else 0
        by_cases e : x = n
        · subst e
          rw [updC_at, if_pos (by rw [en2]; exact List.mem_append_right _ List.mem_cons_self)]
        · rw [updC_ne e]
          show (if x ∈ (keysM f).take i then f x * k else 0) = _
          have : x ∈ (keysM f).take (i + 1) ↔ x ∈ (keysM f).take i := by
            rw [en2, List.mem_append]
            exact ⟨fun h => h.elim id fun h => absurd (List.mem_singleton.mp h) e, .inl⟩
          by_cases hx : x ∈ (keysM f).take i
          · rw [if_pos hx, if_pos (this.mpr hx)]
          · rw [if_neg hx, if_neg fun h => hx (this.mp h)]
      · refine .inr fun x _ _ hx => ?_
        have hx : 0 < if x ∈ (keysM f).take i then f x * k else 0 := hx
        by_cases hx2 : x ∈ (keysM f).take i
        · have := take_le hs en hx2
          have : x ≠ n := fun e => nd_take (keysM_nd f) en (by rw [← e]; exact hx2)
          omega
        · rw [if_neg hx2] at hx; omega
    · refine s_itF (decide_eq_false hk) ?_
      have ek : k = 0 := by omega
      refine ⟨hle2, ⟨_, rfl⟩, ?_⟩
      subst ek
      rw [kvM_zero (f := G ((keysM f).take i)) fun n => by show (if _ then _ else _) = _; split <;> simp, kvM_zero (f := G ((keysM f).take (i + 1))) fun n => by show (if _ then _ else _) = _; split <;> simp]
  · rintro ρ' S' ⟨hle, ⟨u, rfl⟩, rfl⟩
    rw [show (⟨(kvM f).map fun p => kD p.1, fun _ => True⟩ : IS).items.length = (keysM f).length by show ((kvM f).map fun p => kD p.1).length = _; rw [kvM_keys, List.length_map], List.take_length] at hle ⊢
    show overM (timesC f k) most = none ∧ _ ∧ (S.set a (.dic true (kvM f)) ++ [D.dic false (kvM (G (keysM f)))]).set a (.dic false (kvM f)) = _
    rw [back]
    refine ⟨List.find?_eq_none.mpr fun n hn => ?_, ⟨_, rfl⟩, ?_⟩
    · have := hle n (pos n hn)
      show ¬ decide (most < f n * k) = true
      rw [decide_eq_true_eq]
      omega
    · congr 3
      refine kvM_congr fun x h1 h2 => ?_
      show (if x ∈ keysM f then f x * k else 0) = f x * k
      by_cases hx : x ∈ keysM f
      · rw [if_pos hx]
      · rw [if_neg hx, of.zero hx, Int.zero_mul]
theorem len_multiplied_counts {K : PySem.W.Frag} {vs : List V} {H : Hp} {Q : VK} {E : XK} (h : sp_multiplied_counts K vs H Q E) : vs.length = 3 := lift_len (fun _ _ _ _ h => DSp3.len h) h
theorem pure_multiplied_counts {K : PySem.W.Frag} {vs : List V} {H : Hp} {Q : VK} {E : XK} (h : sp_multiplied_counts K vs H Q E) : t_multiplied_counts K (fun cls d _ H => E cls d H) { nx := fun _ H' => Q .non H', rt := Q } (start N_multiplied_counts vs) H := lift_def (N := N_multiplied_counts) (fun W WD => sim_multiplied_counts W WD) (fun _ _ _ _ h => dpure_multiplied_counts h) _ _ _ _ h
def dsi_Mixture_init : DSp := DSp2 fun x y S Q E => (∃ ns : List Int, x = .non ∧ y = .tup (ns.map .int) ∧ ns.length ≤ 1000 ∧ (∀ n, badM ns = some n → E "BadNumber" [("number", .int n)] S) ∧ (badM ns = none → Q (.hdl S.length) (S ++ [mxO (S.length + 1), .dic false (kvM (cntL ns))]))) ∨
  ∃ m, x = .hdl m ∧ y = .tup [] ∧ Q (.hdl S.length) (S ++ [mxO m])
abbrev sp_Mixture_init (K : PySem.W.Frag) : Sp := spInit K "Mixture" dsi_Mixture_init
def N_Mixture_init : List PySem.Str := ["self", "counts", "numbers", "number"]
def t_Mixture_init (K : PySem.W.Frag) (W : WX) : TS := (tCut (tIfS (tTest (tOp (rIsP false) (tVar 1) (tC .non))) (tCut (tFor (iAnyP K (tVar 2)) (gName 3) (tDrop (tCallS (sp_check_number K) (WE W) (tCons (tVar 3) tNil))))
    (tAsg (tCallS (sp_tally K) (WE W) (tCons (tVar 2) tNil)) (gName 1))) tNext)
    (Cl.sAtt [ga K "Book", ga K "Mixture"] (tVar 0) (tVar 1) "rows"))
def spV_Mixture_init (K : PySem.W.Frag) : Sp := fun vs H Q E => ∃ v rest, vs = v :: rest ∧ rest.length ≤ sizeLine ∧ ∀ p, H p = none → sp_Mixture_init K (v :: ([.non] ++ [V.ref p])) (upd H p (.tup rest)) Q E
def spK_Mixture_init (K : PySem.W.Frag) : List V → Sp := fun zs vs H Q E => ∃ v rest, vs = v :: rest ∧ rest.length ≤ sizeLine ∧ ∀ p, H p = none → sp_Mixture_init K (v :: (zs ++ [V.ref p])) (upd H p (.tup rest)) Q E
def d_Mixture_init (WD : DW) : DS := (dCut (dIfS (dTest (dOp (dIs false) (dVar 1) (dC .non))) (dCut (dFor (dAny (dVar 2)) (dgName 3) (dDrop (dCall WD dsp_check_number (dCons (dVar 3) dNil))))
    (dAsg (dCall WD dsp_tally (dCons (dVar 2) dNil)) (dgName 1))) dNext)
    (dSatt ["Mixture"] (dVar 0) (dVar 1) "rows"))
theorem sim_Mixture_init {K : PySem.W.Frag} (W : WX) (WD : DW) : SimS K W WD (t_Mixture_init K W) (d_Mixture_init WD) := by
  unfold t_Mixture_init d_Mixture_init
  exact (sim_cut (sim_ifS (sim_test (sim_op op_is sim_var (sim_c fun _ _ => .non))) (sim_cut (sim_for (sim_any sim_var) sim_gname (sim_drop (sim_callS (fun _ _ _ _ h => h) (sim_cons sim_var sim_nil))))
      (sim_asg (sim_callS (fun _ _ _ _ h => h) (sim_cons sim_var sim_nil)) sim_gname)) sim_next)
      (sim_satt (fun C h => by cases List.mem_singleton.mp h; walk_at "mem") sim_var sim_var))
theorem dinit_Mixture_init {ds : List D} {S : Sto} {Q : DQ} {E : DX} (h : dsi_Mixture_init ds S Q E) : d_Mixture_init (ExD S E) { nx := fun _ S' => Q (.hdl S.length) S', rt := fun _ _ => False, b := S.length + 1 } (startD N_Mixture_init.length (.hdl S.length :: ds)) (S ++ [.obj "Mixture" []]) := by
  obtain ⟨x, y, rfl, h⟩ := h
  show d_Mixture_init _ _ [some (.hdl S.length), some x, some y, none] _
  unfold d_Mixture_init
  rcases h with ⟨ns, rfl, rfl, hl, he, hq⟩ | ⟨m, rfl, rfl, hq⟩
  · refine w_cut (fun ρ' S' => badM ns = none ∧ (∃ a, ρ' = [some (.hdl S.length), some (.hdl (S.length + 1)), some (.tup (ns.map .int)), a]) ∧ S' = S ++ [.obj "Mixture" [], .dic false (kvM (cntL ns))]) ?_ ?_
    · walk_at "dd"
      refine s_itT rfl ?_
      refine w_cut (fun ρ' S' => badM ns = none ∧ (∃ a, ρ' = [some (.hdl S.length), some .non, some (.tup (ns.map .int)), a]) ∧ S' = S ++ [.obj "Mixture" []]) ?_ ?_
      · walk_at "dd"
        refine .seq (ds := ns.map .int) sq_t ?_
        refine ⟨fun i ρ' S' => badM (ns.take i) = none ∧ (∃ a, ρ' = [some (.hdl S.length), some .non, some (.tup (ns.map .int)), a]) ∧ S' = S ++ [.obj "Mixture" []], ⟨rfl, ⟨none, rfl⟩, rfl⟩, fun _ _ _ _ _ => sq_t, ?_, ?_⟩
        · rintro i d ρ' S' hd ⟨hb, ⟨a, rfl⟩, rfl⟩
          obtain ⟨n, en, rfl⟩ := map_at (show (ns.map D.int)[i]? = some d from hd)
          obtain ⟨f1, f2⟩ := find_snoc en hb
          walk_at "dd"
          refine ⟨_, rfl, n, rfl, fun hk => ?_, fun hk => ?_⟩
          · walk_at "dd"
            exact ⟨f2 (by rw [decide_eq_true hk]; rfl), ⟨_, rfl⟩, rfl⟩
          · exact ex_app lt_int (he n (f1 (by rw [decide_eq_false hk]; rfl)))
        · rintro ρ' S' ⟨hb, hr, hS⟩
          rw [show (⟨ns.map D.int, fun _ => True⟩ : IS).items.length = ns.length from List.length_map .., List.take_length] at hb
          exact ⟨hb, hr, hS⟩
      · rintro ρ' S' ⟨hb, ⟨a, rfl⟩, rfl⟩
        walk_at "dd"
        refine ⟨_, rfl, ns, rfl, hl, fun n hn => ?_, ?_⟩
        · have := List.find?_eq_none.mp hb n hn
          simpa using this
        · rw [List.length_append, List.append_assoc]
          walk_at "dd"
          exact ⟨hb, ⟨_, rfl⟩, rfl⟩
    · rintro ρ' S' ⟨hb, ⟨a, rfl⟩, rfl⟩
      walk_at "dd"
      refine ⟨_, "Mixture", [], rfl, List.mem_singleton.mpr rfl, by rw [List.getElem?_append_right (Nat.le_refl _), Nat.sub_self]; rfl, Nat.zero_lt_succ _, by decide, ?_⟩
      rw [List.set_append_right _ _ (Nat.le_refl _), Nat.sub_self]
      exact hq hb
  · refine w_nocut ?_
    walk_at "dd"
    refine s_itF rfl ?_
    walk_at "dd"
    refine ⟨_, "Mixture", [], rfl, List.mem_singleton.mpr rfl, atL, Nat.zero_lt_succ _, by decide, ?_⟩
    rw [setL]
    exact hq
theorem pure_Mixture_init {K : PySem.W.Frag} {vs : List V} {H : Hp} {Q : VK} {E : XK} (h : sp_Mixture_init K vs H Q E) : t_Mixture_init K (fun cls d _ H => E cls d H) { nx := fun _ H' => Q .non H', rt := Q } (start N_Mixture_init vs) H := pure_initA (N := N_Mixture_init) (fun W WD => sim_Mixture_init W WD) (fun _ _ _ _ h => dinit_Mixture_init h) h
def dsp_Mixture_init : DSp := fun ds S Q E => dsi_Mixture_init ([.non] ++ [.tup ds]) S Q E
def dsp_Mixture_init_k : DSp := fun ds S Q E => dsi_Mixture_init (ds ++ [.tup []]) S Q E
theorem ad_Mixture_init {K : PySem.W.Frag} {vs : List V} {H : Hp} {Q : VK} {E : XK} (h : lift K dsp_Mixture_init vs H Q E) : ∀ x dx, H x = none → H dx = none → dx ≠ x → spV_Mixture_init K (V.ref x :: vs) (upd (upd H dx (.own x)) x (.ins (ga K "Mixture") dx [])) (fun v H2 => v = .non ∧ Q (.ref x) H2) E := by
  intro x dx hx hd hne
  refine ⟨_, _, rfl, ?_, fun p hp => ad_initV (zs := [.non]) (zd := [.non]) (fun _ _ => .one .non) h hx hd hne hp⟩
  obtain ⟨A, S, ds, QD, ED, C, ts, ⟨_, _, e, h⟩, _, _⟩ := h
  rw [ts.len, sizeLine_eq]
  cases e
  rcases h with ⟨ns, _, e, hl, _⟩ | ⟨m, e, _⟩
  · cases e
    rw [List.length_map]
    omega
  · cases e
theorem ad_Mixture_init_k {K : PySem.W.Frag} {zs : List V} {H : Hp} {Q : VK} {E : XK} (_hm : zs.length = 1) (h : lift K dsp_Mixture_init_k zs H Q E) : ∀ x dx, H x = none → H dx = none → dx ≠ x → spK_Mixture_init K zs [V.ref x] (upd (upd H dx (.own x)) x (.ins (ga K "Mixture") dx [])) (fun v H2 => v = .non ∧ Q (.ref x) H2) E := by
  intro x dx hx hd hne
  exact ⟨_, _, rfl, Nat.zero_le _, fun p hp => ad_initK h hx hd hne hp⟩
def dsp_Mixture_getitem : DSp := DSp2 fun x y S Q E => ∃ (n m : Nat) (f : Cnt) (k : Int), x = .hdl n ∧ y = .int k ∧ IsMx S n m f ∧ CntOk f ∧ (1 ≤ k ∧ k ≤ 999 → Q (.int (f k)) S) ∧ (¬ (1 ≤ k ∧ k ≤ 999) → E "BadNumber" [("number", .int k)] S)
abbrev sp_Mixture_getitem (K : PySem.W.Frag) : Sp := lift K dsp_Mixture_getitem
def N_Mixture_getitem : List PySem.Str := ["self", "number"]
def t_Mixture_getitem (K : PySem.W.Frag) (W : WX) : TS := (tSeq (tDrop (tCallS (sp_check_number K) (WE W) (tCons (tVar 1) tNil)))
    (tRet (tDGet2 (Cl.tAtt [(ga K "Book", Cl.aFld "rows"), (ga K "Mixture", Cl.aFld "rows")] (tVar 0)) (tVar 1) (tC (.int 0)))))
def d_Mixture_getitem (WD : DW) : DS := (dSeq (dDrop (dCall WD dsp_check_number (dCons (dVar 1) dNil)))
    (dRet (dDGet2 (dAtt [("Book", .fld "rows"), ("Mixture", .fld "rows")] (dVar 0)) (dVar 1) (dC (.int 0)))))
theorem sim_Mixture_getitem {K : PySem.W.Frag} (W : WX) (WD : DW) : SimS K W WD (t_Mixture_getitem K W) (d_Mixture_getitem WD) := by
  unfold t_Mixture_getitem d_Mixture_getitem
  exact (sim_seq (sim_drop (sim_callS (fun _ _ _ _ h => h) (sim_cons sim_var sim_nil)))
      (sim_ret (sim_dget2 (sim_att (.cons (.fld "rows") (.cons (.fld "rows") .nil)) sim_var) sim_var (sim_c fun _ _ => .int _))))
theorem dpure_Mixture_getitem {ds : List D} {S : Sto} {Q : DQ} {E : DX} (h : dsp_Mixture_getitem ds S Q E) : d_Mixture_getitem (ExD S E) { nx := fun _ S' => RtD S Q .non S', rt := RtD S Q, b := S.length } (startD N_Mixture_getitem.length ds) S := by
  obtain ⟨x, y, rfl, n, m, f, k, rfl, rfl, M, ok, hq, he⟩ := h
  show d_Mixture_getitem _ _ [some (.hdl n), some (.int k)] S
  unfold d_Mixture_getitem
  walk_at "dd"
  refine ⟨_, rfl, k, rfl, fun hk => ?_, fun hk => ex_same lt_int (he hk)⟩
  walk_at "dd"
  refine att_fld "rows" (by walk_at "mem") (rs_h M.1) rfl ?_
  walk_at "dd"
  refine ⟨⟨_, _, rs_h M.2⟩, ?_⟩
  walk_at "dd"
  refine ⟨_, _, .inl k, rs_h M.2, rfl, ?_⟩
  rw [getM fun h => ok.zero h]
  exact rt_same lt_int (hq hk)
theorem len_Mixture_getitem {K : PySem.W.Frag} {vs : List V} {H : Hp} {Q : VK} {E : XK} (h : sp_Mixture_getitem K vs H Q E) : vs.length = 2 := lift_len (fun _ _ _ _ h => DSp2.len h) h
theorem pure_Mixture_getitem {K : PySem.W.Frag} {vs : List V} {H : Hp} {Q : VK} {E : XK} (h : sp_Mixture_getitem K vs H Q E) : t_Mixture_getitem K (fun cls d _ H => E cls d H) { nx := fun _ H' => Q .non H', rt := Q } (start N_Mixture_getitem vs) H := lift_def (N := N_Mixture_getitem) (fun W WD => sim_Mixture_getitem W WD) (fun _ _ _ _ h => dpure_Mixture_getitem h) _ _ _ _ h
def dsp_Mixture_setitem : DSp := DSp3 fun x y w S Q E => ∃ (n m : Nat) (f : Cnt) (k c : Int), x = .hdl n ∧ y = .int k ∧ w = .int c ∧ IsMx S n m f ∧ CntOk f ∧
  (¬ (1 ≤ k ∧ k ≤ 999) → E "BadNumber" [("number", .int k)] S) ∧ (1 ≤ k ∧ k ≤ 999 → ¬ (0 ≤ c ∧ c ≤ 1000000) → E "BadCount" [("count", .int c)] S) ∧
  (1 ≤ k ∧ k ≤ 999 → 0 ≤ c ∧ c ≤ 1000000 → ∀ S' m', Stay S S' [n] → S.length ≤ m' → IsMx S' n m' (updC f k c) → Q .non S')
abbrev sp_Mixture_setitem (K : PySem.W.Frag) : Sp := lift K dsp_Mixture_setitem
def N_Mixture_setitem : List PySem.Str := ["self", "number", "count", "rows", "each", "other"]
def t_Mixture_setitem (K : PySem.W.Frag) (W : WX) : TS := (tSeq (tDrop (tCallS (sp_check_number K) (WE W) (tCons (tVar 1) tNil)))
    (tCut (tIfS (tOr (tTest (tOp rLtP (tVar 2) (tC (.int 0)))) (tTest (tOp rGtP (tVar 2) (Cl.tAtt [(ga K "Clause", Cl.aCon "LIMIT" (.int 6)), (ga K "Turning", Cl.aCon "LIMIT" (.int 12)), (ga K "Book", Cl.aCon "LIMIT" (.int 24)), (ga K "Mixture", Cl.aCon "LIMIT" (.int 1000000))] (tVar 0))))) (tRaiseE (ga K "BadCount") "count" W (tCons (tVar 2) tNil)) tNext)
    (tSeq (tAsg (tCB Cl.rDictD (tCons (Cl.tAtt [(ga K "Book", Cl.aFld "rows"), (ga K "Mixture", Cl.aFld "rows")] (tVar 0)) tNil)) (gName 3))
    (tSeq (tAsg (tVar 2) (gSub (tVar 3) (tVar 1) rSetP))
    (Cl.sAtt [ga K "Book", ga K "Mixture"] (tVar 0) (tDc (iAnyP K (tCB (rSortAny K) (tCons (tLockE (tLc (iKeys (tVar 3)) (gName 5) tYes (tCB rIntP (tCons (tVar 5) tNil)) [5])) tNil))) (gName 4) (tTest (tOp rGtP (tDGet (tVar 3) (tVar 4)) (tC (.int 0)))) (tVar 4) (tDGet (tVar 3) (tVar 4)) [4]) "rows")))))
def d_Mixture_setitem (WD : DW) : DS := (dSeq (dDrop (dCall WD dsp_check_number (dCons (dVar 1) dNil)))
    (dCut (dIfS (dOr (dTest (dOp dLt (dVar 2) (dC (.int 0)))) (dTest (dOp dGt (dVar 2) (dAtt [("Clause", .con "LIMIT" (.int 6)), ("Turning", .con "LIMIT" (.int 12)), ("Book", .con "LIMIT" (.int 24)), ("Mixture", .con "LIMIT" (.int 1000000))] (dVar 0))))) (dRaise "BadCount" "count" WD (dCons (dVar 2) dNil)) dNext)
    (dSeq (dAsg (dCB dDictC (dCons (dAtt [("Book", .fld "rows"), ("Mixture", .fld "rows")] (dVar 0)) dNil)) (dgName 3))
    (dSeq (dAsg (dVar 2) (dgSub (dVar 3) (dVar 1)))
    (dSatt ["Mixture"] (dVar 0) (dDc (dAny (dCB (dSortI false) (dCons (dLockE (.var 3) (dLc false (dKeys (dVar 3)) (dgName 5) dYes (dCB dInt (dCons (dVar 5) dNil)) [5])) dNil))) (dgName 4) (dTest (dOp dGt (dDGet (dVar 3) (dVar 4)) (dC (.int 0)))) (dVar 4) (dDGet (dVar 3) (dVar 4)) [4]) "rows")))))
theorem sim_Mixture_setitem {K : PySem.W.Frag} (W : WX) (WD : DW) : SimS K W WD (t_Mixture_setitem K W) (d_Mixture_setitem WD) := by
  unfold t_Mixture_setitem d_Mixture_setitem
  exact (sim_seq (sim_drop (sim_callS (fun _ _ _ _ h => h) (sim_cons sim_var sim_nil)))
      (sim_cut (sim_ifS (sim_or (sim_test (sim_op op_lt sim_var (sim_c fun _ _ => .int _))) (sim_test (sim_op op_gt sim_var (sim_att (.cons (.con "LIMIT" fun _ _ => .int _) (.cons (.con "LIMIT" fun _ _ => .int _) (.cons (.con "LIMIT" fun _ _ => .int _) (.cons (.con "LIMIT" fun _ _ => .int _) .nil)))) sim_var)))) (sim_raise (sim_cons sim_var sim_nil)) sim_next)
      (sim_seq (sim_asg (sim_cb cb_dictC (sim_cons (sim_att (.cons (.fld "rows") (.cons (.fld "rows") .nil)) sim_var) sim_nil)) sim_gname)
      (sim_seq (sim_asg sim_var (sim_gsub sim_var sim_var))
      (sim_satt (fun C h => by cases List.mem_singleton.mp h; walk_at "mem") sim_var (sim_dc (sim_any (sim_cb cb_sortI (sim_cons (sim_lockE (p := (.var 3)) (sim_lc (sim_keys sim_var) (simv_gname (by decide)) sim_yes (sim_cb cb_int (sim_cons sim_var sim_nil)))) sim_nil))) (simv_gname (by decide)) (sim_test (sim_op op_gt (sim_dget sim_var sim_var) (sim_c fun _ _ => .int _))) sim_var (sim_dget sim_var sim_var)))))))
theorem dpure_Mixture_setitem {ds : List D} {S : Sto} {Q : DQ} {E : DX} (h : dsp_Mixture_setitem ds S Q E) : d_Mixture_setitem (ExD S E) { nx := fun _ S' => RtD S Q .non S', rt := RtD S Q, b := S.length } (startD N_Mixture_setitem.length ds) S := by
  obtain ⟨x, y, w, rfl, n, m, f, k, c, rfl, rfl, rfl, M, ok, e1, e2, hq⟩ := h
  show d_Mixture_setitem _ _ [some (.hdl n), some (.int k), some (.int c), none, none, none] S
  unfold d_Mixture_setitem
  walk_at "dd"
  refine ⟨_, rfl, k, rfl, fun hk => ?_, fun hk => ex_same lt_int (e1 hk)⟩
  walk_at "dd"
  refine w_nocut ?_
  walk_at "dd"
  have bad : ¬ (0 ≤ c ∧ c ≤ 1000000) → ExD S E "BadCount" [("count", .int c)] [some (.hdl n), some (.int k), some (.int c), none, none, none] S := fun h => ex_same lt_int (e2 hk h)
  by_cases h1 : c < 0
  · refine s_itT (decide_eq_true h1) ?_
    refine s_itT rfl ?_
    walk_at "dd"
    exact ⟨_, rfl, bad (by omega)⟩
  refine s_itF (decide_eq_false h1) ?_
  walk_at "dd"
  refine ⟨"Mixture", _, .con "LIMIT" (.int 1000000), rs_h M.1, by walk_at "mem", rfl, ?_⟩
  walk_at "dd"
  by_cases h2 : c > 1000000
  · refine s_itT (decide_eq_true h2) ?_
    walk_at "dd"
    exact ⟨_, rfl, bad (by omega)⟩
  refine s_itF (decide_eq_false h2) ?_
  walk_at "dd"
  refine att_fld "rows" (by walk_at "mem") (rs_h M.1) rfl ?_
  walk_at "dd"
  refine ⟨_, false, kvM f, rfl, rs_h M.2, ?_⟩
  walk_at "dd"
  refine .dic (key := .inl k) atL rfl (by have := kvM_len (f := f); rw [sizeLine_eq]; omega) ?_
  unfold kvM
  rw [setL, putC]
  walk_at "dd"
  obtain ⟨L, hL, nd, hm⟩ : ∃ L, (if k ∈ keysM f then keysM f else keysM f ++ [k]) = L ∧ L.Nodup ∧ ∀ x, x ∈ L ↔ x ∈ keysM f ∨ x = k := by
    refine ⟨_, rfl, ?_, fun x => ?_⟩
    · by_cases h : k ∈ keysM f
      · rw [if_pos h]; exact keysM_nd f
      · rw [if_neg h, List.nodup_append]
        exact ⟨keysM_nd f, List.pairwise_singleton _ _, fun a ha b hb e => h (by rw [← List.mem_singleton.mp hb, ← e]; exact ha)⟩
    · by_cases h : k ∈ keysM f
      · rw [if_pos h]
        exact ⟨.inl, fun e => e.elim id fun e => by rw [e]; exact h⟩
      · rw [if_neg h, List.mem_append, List.mem_singleton]
  rw [hL]
  have lL : L.length ≤ 1000 := by
    rw [← hL]
    have := keysM_len f
    split
    · omega
    · rw [List.length_append]; simp; omega
  generalize hg : updC f k c = g
  refine w_lockE (n := S.length) (kvs := kvC g L) rfl atL ?_
  rw [setL]
  walk_at "dd"
  refine ⟨S.length, kvC g L, rfl, atL, ?_⟩
  refine lcd_map L .int .int kvC_keys (by omega) trivial (fun z hz Q2 q2 => ?_) ?_
  · walk_at "dd"
    exact q2
  walk_at "dd"
  rw [setL]
  refine ⟨_, L, rfl, rfl, fun ys hp hs => ?_⟩
  unfold newAt
  refine .seq (ds := ys.map .int) sq_l ?_
  have at0 : ∀ {d : D}, (S ++ [D.dic false (kvC g L), d])[S.length]? = some (.dic false (kvC g L)) := at2_0
  have ly : (S ++ [D.dic false (kvC g L)]).length = S.length + 1 := by rw [List.length_append]; rfl
  have ndy := hp.nodup_iff.mpr nd
  refine ⟨fun i S' => S' = S ++ [.dic false (kvC g L), .dic false (kvC g ((ys.take i).filter fun x => decide (0 < g x)))], by rw [List.append_assoc]; rfl, fun _ _ _ _ => sq_l, ?_, ?_⟩
  · rintro i d S' hd rfl
    obtain ⟨x, ex, rfl⟩ := map_at (show (ys.map D.int)[i]? = some d from hd)
    have hx := hp.mem_iff.mp (List.mem_of_getElem? ex)
    have hget : getK (kvC g L) (.inl x) = some (.int (g x)) := by rw [getC, if_pos hx]
    rw [ly]
    have enx : ys.take (i + 1) = ys.take i ++ [x] := take_at ex
    walk_at "dd"
    refine ⟨false, kvC g L, .inl x, .int (g x), rs_h at0, rfl, hget, ?_⟩
    walk_at "dd"
    by_cases h0 : g x > 0
    · refine s_itT (decide_eq_true h0) ?_
      walk_at "dd"
      refine ⟨false, kvC g L, .inl x, .int (g x), rs_h at0, rfl, hget, ?_⟩
      refine ⟨_, .inl x, rfl, at2_1, ?_, ?_⟩
      · rw [kvC_len, sizeLine_eq]
        have := List.length_filter_le (fun x => decide (0 < g x)) (ys.take i)
        have h2 := List.length_take_le' i ys
        have := hp.length_eq
        omega
      · show _ = S ++ [D.dic false (kvC g L), .dic false (kvC g ((ys.take (i + 1)).filter fun x => decide (0 < g x)))]
        rw [putC_self fun h => nd_take ndy ex (List.mem_filter.mp h).1, set2_1, enx, List.filter_append, List.filter_cons_of_pos (p := fun x => decide (0 < g x)) (decide_eq_true h0)]
        rfl
    · refine s_itF (decide_eq_false h0) ?_
      show _ = S ++ [D.dic false (kvC g L), .dic false (kvC g ((ys.take (i + 1)).filter fun x => decide (0 < g x)))]
      rw [enx, List.filter_append, List.filter_cons_of_neg (p := fun x => decide (0 < g x)) (by rw [decide_eq_true_eq]; exact h0), List.filter_nil, List.append_nil]
  · rintro S' rfl
    rw [show (⟨ys.map D.int, fun _ => True⟩ : IS).items.length = ys.length from List.length_map .., List.take_length, ly]
    have ek : (ys.filter fun x => decide (0 < g x)) = keysM g := asc_ext ((asc_of_le hs ndy).sublist List.filter_sublist) (keysM_asc g) fun x => by
      rw [List.mem_filter, hp.mem_iff, hm, decide_eq_true_eq, mem_keysM, mem_keysM]
      subst hg
      by_cases e : x = k
      · subst e
        rw [updC_at]
        exact ⟨fun h => ⟨hk, h.2⟩, fun h => ⟨.inr rfl, h.2⟩⟩
      · rw [updC_ne e]
        exact ⟨fun h => ⟨(h.1.resolve_right e).1, h.2⟩, fun h => ⟨.inl h, h.2⟩⟩
    rw [ek]
    have ln := lt_of_at M.1
    walk_at "dd"
    refine ⟨n, "Mixture", [("rows", .hdl m)], rfl, List.mem_singleton.mpr rfl, by rw [List.getElem?_append_left ln]; exact M.1, (show 1 < 1000 by decide), by decide, ?_⟩
    subst hg
    rw [put_row]
    refine rt_all (hq hk ⟨by omega, by omega⟩ _ (S.length + 1) Stay.put (Nat.le_succ _) ⟨?_, ?_⟩)
    · rw [List.getElem?_set_self (by rw [List.length_append]; omega)]
    · rw [List.getElem?_set_ne (by omega)]
      exact at2_1
theorem len_Mixture_setitem {K : PySem.W.Frag} {vs : List V} {H : Hp} {Q : VK} {E : XK} (h : sp_Mixture_setitem K vs H Q E) : vs.length = 3 := lift_len (fun _ _ _ _ h => DSp3.len h) h
theorem pure_Mixture_setitem {K : PySem.W.Frag} {vs : List V} {H : Hp} {Q : VK} {E : XK} (h : sp_Mixture_setitem K vs H Q E) : t_Mixture_setitem K (fun cls d _ H => E cls d H) { nx := fun _ H' => Q .non H', rt := Q } (start N_Mixture_setitem vs) H := lift_def (N := N_Mixture_setitem) (fun W WD => sim_Mixture_setitem W WD) (fun _ _ _ _ h => dpure_Mixture_setitem h) _ _ _ _ h
def dsp_Mixture_iadd : DSp := DSp2 fun x y S Q E => ∃ (n m n2 m2 : Nat) (f g : Cnt), x = .hdl n ∧ y = .hdl n2 ∧ IsMx S n m f ∧ IsMx S n2 m2 g ∧ CntOk f ∧ CntOk g ∧
  (∀ k, overM (addC f g) 1000000 = some k → E "BadCount" [("count", .int (f k + g k))] S) ∧ (overM (addC f g) 1000000 = none → ∀ S', Stay S S' [n] → IsMx S' n S.length (addC f g) → Q (.hdl n) S')
abbrev sp_Mixture_iadd (K : PySem.W.Frag) : Sp := lift K dsp_Mixture_iadd
def N_Mixture_iadd : List PySem.Str := ["self", "other"]
def t_Mixture_iadd (K : PySem.W.Frag) (W : WX) : TS := (tCut (tIfS (tNot (tB (tCB (rIsi K) (tCons (tVar 1) (tCons (tC (.ref (ga K "Mixture"))) tNil))))) tNever tNext)
    (tSeq (Cl.sAtt [ga K "Book", ga K "Mixture"] (tVar 0) (tCallS (sp_summed K) (WE W) (tCons (Cl.tAtt [(ga K "Book", Cl.aFld "rows"), (ga K "Mixture", Cl.aFld "rows")] (tVar 0)) (tCons (Cl.tAtt [(ga K "Book", Cl.aFld "rows"), (ga K "Mixture", Cl.aFld "rows")] (tVar 1)) (tCons (Cl.tAtt [(ga K "Clause", Cl.aCon "LIMIT" (.int 6)), (ga K "Turning", Cl.aCon "LIMIT" (.int 12)), (ga K "Book", Cl.aCon "LIMIT" (.int 24)), (ga K "Mixture", Cl.aCon "LIMIT" (.int 1000000))] (tVar 0)) tNil)))) "rows")
    (tRet (tVar 0))))
def d_Mixture_iadd (WD : DW) : DS := (dCut (dIfS (dNot (dTest (dIsO "Mixture" (dVar 1)))) dNever dNext)
    (dSeq (dSatt ["Mixture"] (dVar 0) (dCall WD dsp_summed (dCons (dAtt [("Book", .fld "rows"), ("Mixture", .fld "rows")] (dVar 0)) (dCons (dAtt [("Book", .fld "rows"), ("Mixture", .fld "rows")] (dVar 1)) (dCons (dAtt [("Clause", .con "LIMIT" (.int 6)), ("Turning", .con "LIMIT" (.int 12)), ("Book", .con "LIMIT" (.int 24)), ("Mixture", .con "LIMIT" (.int 1000000))] (dVar 0)) dNil)))) "rows")
    (dRet (dVar 0))))
theorem sim_Mixture_iadd {K : PySem.W.Frag} (F : FxMx K) (W : WX) (WD : DW) : SimS K W WD (t_Mixture_iadd K W) (d_Mixture_iadd WD) := by
  unfold t_Mixture_iadd d_Mixture_iadd
  exact (sim_cut (sim_ifS (sim_not (sim_tB (sim_isO F.ik_Mixture F.cc_Mixture sim_var))) sim_never sim_next)
      (sim_seq (sim_satt (fun C h => by cases List.mem_singleton.mp h; walk_at "mem") sim_var (sim_callS (fun _ _ _ _ h => h) (sim_cons (sim_att (.cons (.fld "rows") (.cons (.fld "rows") .nil)) sim_var) (sim_cons (sim_att (.cons (.fld "rows") (.cons (.fld "rows") .nil)) sim_var) (sim_cons (sim_att (.cons (.con "LIMIT" fun _ _ => .int _) (.cons (.con "LIMIT" fun _ _ => .int _) (.cons (.con "LIMIT" fun _ _ => .int _) (.cons (.con "LIMIT" fun _ _ => .int _) .nil)))) sim_var) sim_nil)))))
      (sim_ret sim_var)))
theorem dpure_Mixture_iadd {ds : List D} {S : Sto} {Q : DQ} {E : DX} (h : dsp_Mixture_iadd ds S Q E) : d_Mixture_iadd (ExD S E) { nx := fun _ S' => RtD S Q .non S', rt := RtD S Q, b := S.length } (startD N_Mixture_iadd.length ds) S := by
  obtain ⟨x, y, rfl, n, m, n2, m2, f, g, rfl, rfl, M, M2, of, og, he, hq⟩ := h
  show d_Mixture_iadd _ _ [some (.hdl n), some (.hdl n2)] S
  unfold d_Mixture_iadd
  refine w_nocut ?_
  walk_at "dd"
  refine w_isO ?_
  walk_at "dd"
  refine ⟨_, rs_h M2.1, ?_⟩
  walk_at "dd"
  refine s_itF rfl ?_
  walk_at "dd"
  refine att_fld "rows" (by walk_at "mem") (rs_h M.1) rfl ?_
  walk_at "dd"
  refine att_fld "rows" (by walk_at "mem") (rs_h M2.1) rfl ?_
  walk_at "dd"
  refine ⟨"Mixture", _, .con "LIMIT" (.int 1000000), rs_h M.1, by walk_at "mem", rfl, ?_⟩
  walk_at "dd"
  refine ⟨_, _, _, rfl, m, m2, f, g, 1000000, rfl, rfl, rfl, M.2, M2.2, of, og, fun k hk => ex_same lt_int (he k hk), fun hk => ?_⟩
  walk_at "dd"
  have ln := lt_of_at M.1
  refine ⟨n, "Mixture", [("rows", .hdl m)], rfl, List.mem_singleton.mpr rfl, by rw [List.getElem?_append_left ln]; exact M.1, (show 1 < 1000 by decide), by decide, ?_⟩
  rw [put_row]
  walk_at "dd"
  refine rt_all (hq hk _ Stay.put ⟨?_, ?_⟩)
  · rw [List.getElem?_set_self (by rw [List.length_append]; omega)]
  · rw [List.getElem?_set_ne (by omega)]
    exact atL
theorem len_Mixture_iadd {K : PySem.W.Frag} {vs : List V} {H : Hp} {Q : VK} {E : XK} (h : sp_Mixture_iadd K vs H Q E) : vs.length = 2 := lift_len (fun _ _ _ _ h => DSp2.len h) h
theorem pure_Mixture_iadd {K : PySem.W.Frag} (F : FxMx K) {vs : List V} {H : Hp} {Q : VK} {E : XK} (h : sp_Mixture_iadd K vs H Q E) : t_Mixture_iadd K (fun cls d _ H => E cls d H) { nx := fun _ H' => Q .non H', rt := Q } (start N_Mixture_iadd vs) H := lift_def (N := N_Mixture_iadd) (fun W WD => sim_Mixture_iadd F W WD) (fun _ _ _ _ h => dpure_Mixture_iadd h) _ _ _ _ h
def dsp_Mixture_add : DSp := DSp2 fun x y S Q E => ∃ (n m n2 m2 : Nat) (f g : Cnt), x = .hdl n ∧ y = .hdl n2 ∧ IsMx S n m f ∧ IsMx S n2 m2 g ∧ CntOk f ∧ CntOk g ∧
  (∀ k, overM (addC f g) 1000000 = some k → E "BadCount" [("count", .int (f k + g k))] S) ∧ (overM (addC f g) 1000000 = none → Q (.hdl (S.length + 1)) (S ++ [.dic false (kvM (addC f g)), mxO S.length]))
abbrev sp_Mixture_add (K : PySem.W.Frag) : Sp := lift K dsp_Mixture_add
def N_Mixture_add : List PySem.Str := ["self", "other"]
def t_Mixture_add (K : PySem.W.Frag) (W : WX) : TS := (tCut (tIfS (tNot (tB (tCB (rIsi K) (tCons (tVar 1) (tCons (tC (.ref (ga K "Mixture"))) tNil))))) tNever tNext)
    (tRet (Cl.tMakeSK0 (ga K "Mixture") 1 (spK_Mixture_init K) (WE W) (tCons (tCallS (sp_summed K) (WE W) (tCons (Cl.tAtt [(ga K "Book", Cl.aFld "rows"), (ga K "Mixture", Cl.aFld "rows")] (tVar 0)) (tCons (Cl.tAtt [(ga K "Book", Cl.aFld "rows"), (ga K "Mixture", Cl.aFld "rows")] (tVar 1)) (tCons (Cl.tAtt [(ga K "Clause", Cl.aCon "LIMIT" (.int 6)), (ga K "Turning", Cl.aCon "LIMIT" (.int 12)), (ga K "Book", Cl.aCon "LIMIT" (.int 24)), (ga K "Mixture", Cl.aCon "LIMIT" (.int 1000000))] (tVar 0)) tNil)))) tNil))))
def d_Mixture_add (WD : DW) : DS := (dCut (dIfS (dNot (dTest (dIsO "Mixture" (dVar 1)))) dNever dNext)
    (dRet (dMakeK0 1 WD dsp_Mixture_init_k (dCons (dCall WD dsp_summed (dCons (dAtt [("Book", .fld "rows"), ("Mixture", .fld "rows")] (dVar 0)) (dCons (dAtt [("Book", .fld "rows"), ("Mixture", .fld "rows")] (dVar 1)) (dCons (dAtt [("Clause", .con "LIMIT" (.int 6)), ("Turning", .con "LIMIT" (.int 12)), ("Book", .con "LIMIT" (.int 24)), ("Mixture", .con "LIMIT" (.int 1000000))] (dVar 0)) dNil)))) dNil))))
theorem sim_Mixture_add {K : PySem.W.Frag} (F : FxMx K) (W : WX) (WD : DW) : SimS K W WD (t_Mixture_add K W) (d_Mixture_add WD) := by
  unfold t_Mixture_add d_Mixture_add
  exact (sim_cut (sim_ifS (sim_not (sim_tB (sim_isO F.ik_Mixture F.cc_Mixture sim_var))) sim_never sim_next)
      (sim_ret (sim_makeK0 (fun _ _ _ _ hm h => ad_Mixture_init_k hm h) (sim_cons (sim_callS (fun _ _ _ _ h => h) (sim_cons (sim_att (.cons (.fld "rows") (.cons (.fld "rows") .nil)) sim_var) (sim_cons (sim_att (.cons (.fld "rows") (.cons (.fld "rows") .nil)) sim_var) (sim_cons (sim_att (.cons (.con "LIMIT" fun _ _ => .int _) (.cons (.con "LIMIT" fun _ _ => .int _) (.cons (.con "LIMIT" fun _ _ => .int _) (.cons (.con "LIMIT" fun _ _ => .int _) .nil)))) sim_var) sim_nil)))) sim_nil))))
theorem dpure_Mixture_add {ds : List D} {S : Sto} {Q : DQ} {E : DX} (h : dsp_Mixture_add ds S Q E) : d_Mixture_add (ExD S E) { nx := fun _ S' => RtD S Q .non S', rt := RtD S Q, b := S.length } (startD N_Mixture_add.length ds) S := by
  obtain ⟨x, y, rfl, n, m, n2, m2, f, g, rfl, rfl, M, M2, of, og, he, hq⟩ := h
  show d_Mixture_add _ _ [some (.hdl n), some (.hdl n2)] S
  unfold d_Mixture_add
  refine w_nocut ?_
  walk_at "dd"
  refine w_isO ?_
  walk_at "dd"
  refine ⟨_, rs_h M2.1, ?_⟩
  walk_at "dd"
  refine s_itF rfl ?_
  walk_at "dd"
  refine att_fld "rows" (by walk_at "mem") (rs_h M.1) rfl ?_
  walk_at "dd"
  refine att_fld "rows" (by walk_at "mem") (rs_h M2.1) rfl ?_
  walk_at "dd"
  refine ⟨"Mixture", _, .con "LIMIT" (.int 1000000), rs_h M.1, by walk_at "mem", rfl, ?_⟩
  walk_at "dd"
  refine ⟨_, _, _, rfl, m, m2, f, g, 1000000, rfl, rfl, rfl, M.2, M2.2, of, og, fun k hk => ex_same lt_int (he k hk), fun hk => ?_⟩
  walk_at "dd"
  refine ⟨rfl, _, _, rfl, .inr ⟨S.length, rfl, rfl, ?_⟩⟩
  rw [List.length_append, List.append_assoc]
  exact rt_all (hq hk)
theorem len_Mixture_add {K : PySem.W.Frag} {vs : List V} {H : Hp} {Q : VK} {E : XK} (h : sp_Mixture_add K vs H Q E) : vs.length = 2 := lift_len (fun _ _ _ _ h => DSp2.len h) h
theorem pure_Mixture_add {K : PySem.W.Frag} (F : FxMx K) {vs : List V} {H : Hp} {Q : VK} {E : XK} (h : sp_Mixture_add K vs H Q E) : t_Mixture_add K (fun cls d _ H => E cls d H) { nx := fun _ H' => Q .non H', rt := Q } (start N_Mixture_add vs) H := lift_def (N := N_Mixture_add) (fun W WD => sim_Mixture_add F W WD) (fun _ _ _ _ h => dpure_Mixture_add h) _ _ _ _ h
def dsp_Mixture_mul : DSp := DSp2 fun x y S Q E => ∃ (n m : Nat) (f : Cnt) (k : Int), x = .hdl n ∧ y = .int k ∧ IsMx S n m f ∧ CntOk f ∧
  (k < 0 → E "BadCount" [("count", .int k)] S) ∧ (0 ≤ k → ∀ j, overM (timesC f k) 1000000 = some j → E "BadCount" [("count", .int (f j * k))] S) ∧ (0 ≤ k → overM (timesC f k) 1000000 = none → Q (.hdl (S.length + 1)) (S ++ [.dic false (kvM (timesC f k)), mxO S.length]))
abbrev sp_Mixture_mul (K : PySem.W.Frag) : Sp := lift K dsp_Mixture_mul
def N_Mixture_mul : List PySem.Str := ["self", "other"]
def t_Mixture_mul (K : PySem.W.Frag) (W : WX) : TS := (tCut (tIfS (tNot (tB (tCB (rIsi K) (tCons (tVar 1) (tCons (tC (.ty "int")) tNil))))) tNever tNext)
    (tRet (Cl.tMakeSK0 (ga K "Mixture") 1 (spK_Mixture_init K) (WE W) (tCons (tCallS (sp_multiplied_counts K) (WE W) (tCons (Cl.tAtt [(ga K "Book", Cl.aFld "rows"), (ga K "Mixture", Cl.aFld "rows")] (tVar 0)) (tCons (tVar 1) (tCons (Cl.tAtt [(ga K "Clause", Cl.aCon "LIMIT" (.int 6)), (ga K "Turning", Cl.aCon "LIMIT" (.int 12)), (ga K "Book", Cl.aCon "LIMIT" (.int 24)), (ga K "Mixture", Cl.aCon "LIMIT" (.int 1000000))] (tVar 0)) tNil)))) tNil))))
def d_Mixture_mul (WD : DW) : DS := (dCut (dIfS (dNot (dTest (dIsT "int" (dVar 1)))) dNever dNext)
    (dRet (dMakeK0 1 WD dsp_Mixture_init_k (dCons (dCall WD dsp_multiplied_counts (dCons (dAtt [("Book", .fld "rows"), ("Mixture", .fld "rows")] (dVar 0)) (dCons (dVar 1) (dCons (dAtt [("Clause", .con "LIMIT" (.int 6)), ("Turning", .con "LIMIT" (.int 12)), ("Book", .con "LIMIT" (.int 24)), ("Mixture", .con "LIMIT" (.int 1000000))] (dVar 0)) dNil)))) dNil))))
theorem sim_Mixture_mul {K : PySem.W.Frag} (W : WX) (WD : DW) : SimS K W WD (t_Mixture_mul K W) (d_Mixture_mul WD) := by
  unfold t_Mixture_mul d_Mixture_mul
  exact (sim_cut (sim_ifS (sim_not (sim_tB (sim_isT sim_var))) sim_never sim_next)
      (sim_ret (sim_makeK0 (fun _ _ _ _ hm h => ad_Mixture_init_k hm h) (sim_cons (sim_callS (fun _ _ _ _ h => h) (sim_cons (sim_att (.cons (.fld "rows") (.cons (.fld "rows") .nil)) sim_var) (sim_cons sim_var (sim_cons (sim_att (.cons (.con "LIMIT" fun _ _ => .int _) (.cons (.con "LIMIT" fun _ _ => .int _) (.cons (.con "LIMIT" fun _ _ => .int _) (.cons (.con "LIMIT" fun _ _ => .int _) .nil)))) sim_var) sim_nil)))) sim_nil))))
theorem dpure_Mixture_mul {ds : List D} {S : Sto} {Q : DQ} {E : DX} (h : dsp_Mixture_mul ds S Q E) : d_Mixture_mul (ExD S E) { nx := fun _ S' => RtD S Q .non S', rt := RtD S Q, b := S.length } (startD N_Mixture_mul.length ds) S := by
  obtain ⟨x, y, rfl, n, m, f, k, rfl, rfl, M, of, e1, e2, hq⟩ := h
  show d_Mixture_mul _ _ [some (.hdl n), some (.int k)] S
  unfold d_Mixture_mul
  refine w_nocut ?_
  walk_at "dd"
  refine w_isT ?_
  walk_at "dd"
  refine ⟨_, true, rfl, by decide +kernel, ?_⟩
  walk_at "dd"
  refine s_itF rfl ?_
  walk_at "dd"
  refine att_fld "rows" (by walk_at "mem") (rs_h M.1) rfl ?_
  walk_at "dd"
  refine ⟨"Mixture", _, .con "LIMIT" (.int 1000000), rs_h M.1, by walk_at "mem", rfl, ?_⟩
  walk_at "dd"
  refine ⟨_, _, _, rfl, m, f, k, 1000000, rfl, rfl, rfl, M.2, of, by decide, fun h => ex_same lt_int (e1 h), fun h j hj => ex_same lt_int (e2 h j hj), fun h hk => ?_⟩
  walk_at "dd"
  refine ⟨rfl, _, _, rfl, .inr ⟨S.length, rfl, rfl, ?_⟩⟩
  rw [List.length_append, List.append_assoc]
  exact rt_all (hq h hk)
theorem len_Mixture_mul {K : PySem.W.Frag} {vs : List V} {H : Hp} {Q : VK} {E : XK} (h : sp_Mixture_mul K vs H Q E) : vs.length = 2 := lift_len (fun _ _ _ _ h => DSp2.len h) h
theorem pure_Mixture_mul {K : PySem.W.Frag} {vs : List V} {H : Hp} {Q : VK} {E : XK} (h : sp_Mixture_mul K vs H Q E) : t_Mixture_mul K (fun cls d _ H => E cls d H) { nx := fun _ H' => Q .non H', rt := Q } (start N_Mixture_mul vs) H := lift_def (N := N_Mixture_mul) (fun W WD => sim_Mixture_mul W WD) (fun _ _ _ _ h => dpure_Mixture_mul h) _ _ _ _ h
def dsp_Mixture_rmul : DSp := DSp2 fun x y S Q E => ∃ (n m : Nat) (f : Cnt) (k : Int), x = .hdl n ∧ y = .int k ∧ IsMx S n m f ∧ CntOk f ∧
  (k < 0 → E "BadCount" [("count", .int k)] S) ∧ (0 ≤ k → ∀ j, overM (timesC f k) 1000000 = some j → E "BadCount" [("count", .int (f j * k))] S) ∧ (0 ≤ k → overM (timesC f k) 1000000 = none → Q (.hdl (S.length + 1)) (S ++ [.dic false (kvM (timesC f k)), mxO S.length]))
abbrev sp_Mixture_rmul (K : PySem.W.Frag) : Sp := lift K dsp_Mixture_rmul
def N_Mixture_rmul : List PySem.Str := ["self", "other"]
def t_Mixture_rmul (K : PySem.W.Frag) (W : WX) : TS := (tCut (tIfS (tNot (tB (tCB (rIsi K) (tCons (tVar 1) (tCons (tC (.ty "int")) tNil))))) tNever tNext)
    (tRet (Cl.tMakeSK0 (ga K "Mixture") 1 (spK_Mixture_init K) (WE W) (tCons (tCallS (sp_multiplied_counts K) (WE W) (tCons (Cl.tAtt [(ga K "Book", Cl.aFld "rows"), (ga K "Mixture", Cl.aFld "rows")] (tVar 0)) (tCons (tVar 1) (tCons (Cl.tAtt [(ga K "Clause", Cl.aCon "LIMIT" (.int 6)), (ga K "Turning", Cl.aCon "LIMIT" (.int 12)), (ga K "Book", Cl.aCon "LIMIT" (.int 24)), (ga K "Mixture", Cl.aCon "LIMIT" (.int 1000000))] (tVar 0)) tNil)))) tNil))))
def d_Mixture_rmul (WD : DW) : DS := (dCut (dIfS (dNot (dTest (dIsT "int" (dVar 1)))) dNever dNext)
    (dRet (dMakeK0 1 WD dsp_Mixture_init_k (dCons (dCall WD dsp_multiplied_counts (dCons (dAtt [("Book", .fld "rows"), ("Mixture", .fld "rows")] (dVar 0)) (dCons (dVar 1) (dCons (dAtt [("Clause", .con "LIMIT" (.int 6)), ("Turning", .con "LIMIT" (.int 12)), ("Book", .con "LIMIT" (.int 24)), ("Mixture", .con "LIMIT" (.int 1000000))] (dVar 0)) dNil)))) dNil))))
theorem sim_Mixture_rmul {K : PySem.W.Frag} (W : WX) (WD : DW) : SimS K W WD (t_Mixture_rmul K W) (d_Mixture_rmul WD) := by
  unfold t_Mixture_rmul d_Mixture_rmul
  exact (sim_cut (sim_ifS (sim_not (sim_tB (sim_isT sim_var))) sim_never sim_next)
      (sim_ret (sim_makeK0 (fun _ _ _ _ hm h => ad_Mixture_init_k hm h) (sim_cons (sim_callS (fun _ _ _ _ h => h) (sim_cons (sim_att (.cons (.fld "rows") (.cons (.fld "rows") .nil)) sim_var) (sim_cons sim_var (sim_cons (sim_att (.cons (.con "LIMIT" fun _ _ => .int _) (.cons (.con "LIMIT" fun _ _ => .int _) (.cons (.con "LIMIT" fun _ _ => .int _) (.cons (.con "LIMIT" fun _ _ => .int _) .nil)))) sim_var) sim_nil)))) sim_nil))))
theorem dpure_Mixture_rmul {ds : List D} {S : Sto} {Q : DQ} {E : DX} (h : dsp_Mixture_rmul ds S Q E) : d_Mixture_rmul (ExD S E) { nx := fun _ S' => RtD S Q .non S', rt := RtD S Q, b := S.length } (startD N_Mixture_rmul.length ds) S := by
  obtain ⟨x, y, rfl, n, m, f, k, rfl, rfl, M, of, e1, e2, hq⟩ := h
  show d_Mixture_rmul _ _ [some (.hdl n), some (.int k)] S
  unfold d_Mixture_rmul
  refine w_nocut ?_
  walk_at "dd"
  refine w_isT ?_
  walk_at "dd"
  refine ⟨_, true, rfl, by decide +kernel, ?_⟩
  walk_at "dd"
  refine s_itF rfl ?_
  walk_at "dd"
  refine att_fld "rows" (by walk_at "mem") (rs_h M.1) rfl ?_
  walk_at "dd"
  refine ⟨"Mixture", _, .con "LIMIT" (.int 1000000), rs_h M.1, by walk_at "mem", rfl, ?_⟩
  walk_at "dd"
  refine ⟨_, _, _, rfl, m, f, k, 1000000, rfl, rfl, rfl, M.2, of, by decide, fun h => ex_same lt_int (e1 h), fun h j hj => ex_same lt_int (e2 h j hj), fun h hk => ?_⟩
  walk_at "dd"
  refine ⟨rfl, _, _, rfl, .inr ⟨S.length, rfl, rfl, ?_⟩⟩
  rw [List.length_append, List.append_assoc]
  exact rt_all (hq h hk)
theorem len_Mixture_rmul {K : PySem.W.Frag} {vs : List V} {H : Hp} {Q : VK} {E : XK} (h : sp_Mixture_rmul K vs H Q E) : vs.length = 2 := lift_len (fun _ _ _ _ h => DSp2.len h) h
theorem pure_Mixture_rmul {K : PySem.W.Frag} {vs : List V} {H : Hp} {Q : VK} {E : XK} (h : sp_Mixture_rmul K vs H Q E) : t_Mixture_rmul K (fun cls d _ H => E cls d H) { nx := fun _ H' => Q .non H', rt := Q } (start N_Mixture_rmul vs) H := lift_def (N := N_Mixture_rmul) (fun W WD => sim_Mixture_rmul W WD) (fun _ _ _ _ h => dpure_Mixture_rmul h) _ _ _ _ h
def dsp_Mixture_total : DSp := DSp1 fun x S Q _ => ∃ (n m : Nat) (f : Cnt), x = .hdl n ∧ IsMx S n m f ∧ Q (.int (sumC f)) S
abbrev sp_Mixture_total (K : PySem.W.Frag) : Sp := lift K dsp_Mixture_total
def N_Mixture_total : List PySem.Str := ["self"]
def t_Mixture_total (K : PySem.W.Frag) (W : WX) : TS := (tRet (tCB (rSum K) (tCons (Cl.tListVals (Cl.tAtt [(ga K "Book", Cl.aFld "rows"), (ga K "Mixture", Cl.aFld "rows")] (tVar 0))) tNil)))
def d_Mixture_total (WD : DW) : DS := (dRet (dCB dSum (dCons (dListVals false (dAtt [("Book", .fld "rows"), ("Mixture", .fld "rows")] (dVar 0))) dNil)))
theorem sim_Mixture_total {K : PySem.W.Frag} (W : WX) (WD : DW) : SimS K W WD (t_Mixture_total K W) (d_Mixture_total WD) := by
  unfold t_Mixture_total d_Mixture_total
  exact (sim_ret (sim_cb cb_sum (sim_cons (sim_listVals (sim_att (.cons (.fld "rows") (.cons (.fld "rows") .nil)) sim_var)) sim_nil)))
theorem dpure_Mixture_total {ds : List D} {S : Sto} {Q : DQ} {E : DX} (h : dsp_Mixture_total ds S Q E) : d_Mixture_total (ExD S E) { nx := fun _ S' => RtD S Q .non S', rt := RtD S Q, b := S.length } (startD N_Mixture_total.length ds) S := by
  obtain ⟨x, rfl, n, m, f, rfl, M, hq⟩ := h
  show d_Mixture_total _ _ [some (.hdl n)] S
  unfold d_Mixture_total
  walk_at "dd"
  refine att_fld "rows" (by walk_at "mem") (rs_h M.1) rfl ?_
  walk_at "dd"
  refine ⟨m, kvM f, rfl, M.2, ?_⟩
  unfold newAt
  walk_at "dd"
  refine ⟨_, (keysM f).map f, rfl, ?_, rt_same lt_int hq⟩
  unfold kvM
  rw [kvC_vals]
  rfl
theorem len_Mixture_total {K : PySem.W.Frag} {vs : List V} {H : Hp} {Q : VK} {E : XK} (h : sp_Mixture_total K vs H Q E) : vs.length = 1 := lift_len (fun _ _ _ _ h => DSp1.len h) h
theorem pure_Mixture_total {K : PySem.W.Frag} {vs : List V} {H : Hp} {Q : VK} {E : XK} (h : sp_Mixture_total K vs H Q E) : t_Mixture_total K (fun cls d _ H => E cls d H) { nx := fun _ H' => Q .non H', rt := Q } (start N_Mixture_total vs) H := lift_def (N := N_Mixture_total) (fun W WD => sim_Mixture_total W WD) (fun _ _ _ _ h => dpure_Mixture_total h) _ _ _ _ h
def dsp_Mixture_contains : DSp := DSp2 fun x y S Q _ => ∃ (n m : Nat) (f : Cnt) (k : Int), x = .hdl n ∧ y = .int k ∧ IsMx S n m f ∧ Q (.bl (decide (k ∈ keysM f))) S
abbrev sp_Mixture_contains (K : PySem.W.Frag) : Sp := lift K dsp_Mixture_contains
def N_Mixture_contains : List PySem.Str := ["self", "number"]
def t_Mixture_contains (K : PySem.W.Frag) (W : WX) : TS := (tRet (tOp (rInP K false) (tVar 1) (Cl.tAtt [(ga K "Book", Cl.aFld "rows"), (ga K "Mixture", Cl.aFld "rows")] (tVar 0))))
def d_Mixture_contains (WD : DW) : DS := (dRet (dOp (dIn false) (dVar 1) (dAtt [("Book", .fld "rows"), ("Mixture", .fld "rows")] (dVar 0))))
theorem sim_Mixture_contains {K : PySem.W.Frag} (W : WX) (WD : DW) : SimS K W WD (t_Mixture_contains K W) (d_Mixture_contains WD) := by
  unfold t_Mixture_contains d_Mixture_contains
  exact (sim_ret (sim_op op_in sim_var (sim_att (.cons (.fld "rows") (.cons (.fld "rows") .nil)) sim_var)))
theorem dpure_Mixture_contains {ds : List D} {S : Sto} {Q : DQ} {E : DX} (h : dsp_Mixture_contains ds S Q E) : d_Mixture_contains (ExD S E) { nx := fun _ S' => RtD S Q .non S', rt := RtD S Q, b := S.length } (startD N_Mixture_contains.length ds) S := by
  obtain ⟨x, y, rfl, n, m, f, k, rfl, rfl, M, hq⟩ := h
  show d_Mixture_contains _ _ [some (.hdl n), some (.int k)] S
  unfold d_Mixture_contains
  walk_at "dd"
  refine att_fld "rows" (by walk_at "mem") (rs_h M.1) rfl ?_
  walk_at "dd"
  refine .dint (rs_h M.2) ?_
  unfold kvM
  rw [isC]
  exact rt_same lt_bl hq
theorem len_Mixture_contains {K : PySem.W.Frag} {vs : List V} {H : Hp} {Q : VK} {E : XK} (h : sp_Mixture_contains K vs H Q E) : vs.length = 2 := lift_len (fun _ _ _ _ h => DSp2.len h) h
theorem pure_Mixture_contains {K : PySem.W.Frag} {vs : List V} {H : Hp} {Q : VK} {E : XK} (h : sp_Mixture_contains K vs H Q E) : t_Mixture_contains K (fun cls d _ H => E cls d H) { nx := fun _ H' => Q .non H', rt := Q } (start N_Mixture_contains vs) H := lift_def (N := N_Mixture_contains) (fun W WD => sim_Mixture_contains W WD) (fun _ _ _ _ h => dpure_Mixture_contains h) _ _ _ _ h
def dsp_Mixture_eq : DSp := DSp2 fun x y S Q _ => ∃ (n m n2 m2 : Nat) (f g : Cnt), x = .hdl n ∧ y = .hdl n2 ∧ IsMx S n m f ∧ IsMx S n2 m2 g ∧ Q (.bl (Cl.eqI (kI f (keysM f)) (kI g (keysM g)))) S
abbrev sp_Mixture_eq (K : PySem.W.Frag) : Sp := lift K dsp_Mixture_eq
def N_Mixture_eq : List PySem.Str := ["self", "other"]
def t_Mixture_eq (K : PySem.W.Frag) (W : WX) : TS := (tRet (tAndV (tCB (rIsi K) (tCons (tVar 1) (tCons (tC (.ref (ga K "Mixture"))) tNil))) (tOp Cl.rEqKI (Cl.tAtt [(ga K "Book", Cl.aFld "rows"), (ga K "Mixture", Cl.aFld "rows")] (tVar 0)) (Cl.tAtt [(ga K "Book", Cl.aFld "rows"), (ga K "Mixture", Cl.aFld "rows")] (tVar 1)))))
def d_Mixture_eq (WD : DW) : DS := (dRet (dAndV (dIsO "Mixture" (dVar 1)) (dOp dEqKI (dAtt [("Book", .fld "rows"), ("Mixture", .fld "rows")] (dVar 0)) (dAtt [("Book", .fld "rows"), ("Mixture", .fld "rows")] (dVar 1)))))
theorem sim_Mixture_eq {K : PySem.W.Frag} (F : FxMx K) (W : WX) (WD : DW) : SimS K W WD (t_Mixture_eq K W) (d_Mixture_eq WD) := by
  unfold t_Mixture_eq d_Mixture_eq
  exact (sim_ret (sim_andV (sim_isO F.ik_Mixture F.cc_Mixture sim_var) (sim_op op_eqKI (sim_att (.cons (.fld "rows") (.cons (.fld "rows") .nil)) sim_var) (sim_att (.cons (.fld "rows") (.cons (.fld "rows") .nil)) sim_var))))
theorem dpure_Mixture_eq {ds : List D} {S : Sto} {Q : DQ} {E : DX} (h : dsp_Mixture_eq ds S Q E) : d_Mixture_eq (ExD S E) { nx := fun _ S' => RtD S Q .non S', rt := RtD S Q, b := S.length } (startD N_Mixture_eq.length ds) S := by
  obtain ⟨x, y, rfl, n, m, n2, m2, f, g, rfl, rfl, M, M2, hq⟩ := h
  show d_Mixture_eq _ _ [some (.hdl n), some (.hdl n2)] S
  unfold d_Mixture_eq
  walk_at "dd"
  refine w_isO ?_
  walk_at "dd"
  refine ⟨_, rs_h M2.1, ?_⟩
  walk_at "dd"
  refine s_itT rfl ?_
  walk_at "dd"
  refine att_fld "rows" (by walk_at "mem") (rs_h M.1) rfl ?_
  walk_at "dd"
  refine att_fld "rows" (by walk_at "mem") (rs_h M2.1) rfl ?_
  refine ⟨m, m2, kI f (keysM f), kI g (keysM g), rfl, rfl, ?_, ?_, rt_same lt_bl hq⟩
  · rw [← kvC_I]; exact M.2
  · rw [← kvC_I]; exact M2.2
theorem len_Mixture_eq {K : PySem.W.Frag} {vs : List V} {H : Hp} {Q : VK} {E : XK} (h : sp_Mixture_eq K vs H Q E) : vs.length = 2 := lift_len (fun _ _ _ _ h => DSp2.len h) h
theorem pure_Mixture_eq {K : PySem.W.Frag} (F : FxMx K) {vs : List V} {H : Hp} {Q : VK} {E : XK} (h : sp_Mixture_eq K vs H Q E) : t_Mixture_eq K (fun cls d _ H => E cls d H) { nx := fun _ H' => Q .non H', rt := Q } (start N_Mixture_eq vs) H := lift_def (N := N_Mixture_eq) (fun W WD => sim_Mixture_eq F W WD) (fun _ _ _ _ h => dpure_Mixture_eq h) _ _ _ _ h
end Rd
namespace Rd
open PySem PySem.Spec PyProof.Rows L2 He Px Dx
def dsp_law_mixed : DSp := DSp1 fun x S Q E => ∃ ns : List Int, rs S x = .lst (ns.map .int) ∧ ns.length ≤ 4 ∧ (∀ n, badM ns = some n → E "BadNumber" [("number", .int n)] S) ∧ (badM ns = none → Q (.hdl S.length) (S ++ [mxO (S.length + 1), .dic false (kvM (cntL ns))]))
abbrev sp_law_mixed (K : PySem.W.Frag) : Sp := lift K dsp_law_mixed
def N_law_mixed : List PySem.Str := ["_law_row"]
def t_law_mixed (K : PySem.W.Frag) (W : WX) : TS := (tCut (tIfS (tTest (tOp (rEqP K) (tCB (rLenP K) (tCons (tVar 0) tNil)) (tC (.int 0)))) (tRet (Cl.tMakeS (ga K "Mixture") (spV_Mixture_init K) (WE W) tNil)) tNext)
    (tCut (tIfS (tTest (tOp (rEqP K) (tCB (rLenP K) (tCons (tVar 0) tNil)) (tC (.int 1)))) (tRet (Cl.tMakeS (ga K "Mixture") (spV_Mixture_init K) (WE W) (tCons (tOp (rIxP K) (tVar 0) (tC (.int 0))) tNil))) tNext)
    (tCut (tIfS (tTest (tOp (rEqP K) (tCB (rLenP K) (tCons (tVar 0) tNil)) (tC (.int 2)))) (tRet (Cl.tMakeS (ga K "Mixture") (spV_Mixture_init K) (WE W) (tCons (tOp (rIxP K) (tVar 0) (tC (.int 0))) (tCons (tOp (rIxP K) (tVar 0) (tC (.int 1))) tNil)))) tNext)
    (tCut (tIfS (tTest (tOp (rEqP K) (tCB (rLenP K) (tCons (tVar 0) tNil)) (tC (.int 3)))) (tRet (Cl.tMakeS (ga K "Mixture") (spV_Mixture_init K) (WE W) (tCons (tOp (rIxP K) (tVar 0) (tC (.int 0))) (tCons (tOp (rIxP K) (tVar 0) (tC (.int 1))) (tCons (tOp (rIxP K) (tVar 0) (tC (.int 2))) tNil))))) tNext)
    (tRet (Cl.tMakeS (ga K "Mixture") (spV_Mixture_init K) (WE W) (tCons (tOp (rIxP K) (tVar 0) (tC (.int 0))) (tCons (tOp (rIxP K) (tVar 0) (tC (.int 1))) (tCons (tOp (rIxP K) (tVar 0) (tC (.int 2))) (tCons (tOp (rIxP K) (tVar 0) (tC (.int 3))) tNil))))))))))
def d_law_mixed (WD : DW) : DS := (dCut (dIfS (dTest (dOp dEq (dCB dLen (dCons (dVar 0) dNil)) (dC (.int 0)))) (dRet (dCall WD dsp_Mixture_init dNil)) dNext)
    (dCut (dIfS (dTest (dOp dEq (dCB dLen (dCons (dVar 0) dNil)) (dC (.int 1)))) (dRet (dCall WD dsp_Mixture_init (dCons (dOp dIx (dVar 0) (dC (.int 0))) dNil))) dNext)
    (dCut (dIfS (dTest (dOp dEq (dCB dLen (dCons (dVar 0) dNil)) (dC (.int 2)))) (dRet (dCall WD dsp_Mixture_init (dCons (dOp dIx (dVar 0) (dC (.int 0))) (dCons (dOp dIx (dVar 0) (dC (.int 1))) dNil)))) dNext)
    (dCut (dIfS (dTest (dOp dEq (dCB dLen (dCons (dVar 0) dNil)) (dC (.int 3)))) (dRet (dCall WD dsp_Mixture_init (dCons (dOp dIx (dVar 0) (dC (.int 0))) (dCons (dOp dIx (dVar 0) (dC (.int 1))) (dCons (dOp dIx (dVar 0) (dC (.int 2))) dNil))))) dNext)
    (dRet (dCall WD dsp_Mixture_init (dCons (dOp dIx (dVar 0) (dC (.int 0))) (dCons (dOp dIx (dVar 0) (dC (.int 1))) (dCons (dOp dIx (dVar 0) (dC (.int 2))) (dCons (dOp dIx (dVar 0) (dC (.int 3))) dNil))))))))))
theorem sim_law_mixed {K : PySem.W.Frag} (W : WX) (WD : DW) : SimS K W WD (t_law_mixed K W) (d_law_mixed WD) := by
  unfold t_law_mixed d_law_mixed
  exact (sim_cut (sim_ifS (sim_test (sim_op op_eq (sim_cb cb_len (sim_cons sim_var sim_nil)) (sim_c fun _ _ => .int _))) (sim_ret (sim_make (fun _ _ _ _ h => ad_Mixture_init h) sim_nil)) sim_next)
      (sim_cut (sim_ifS (sim_test (sim_op op_eq (sim_cb cb_len (sim_cons sim_var sim_nil)) (sim_c fun _ _ => .int _))) (sim_ret (sim_make (fun _ _ _ _ h => ad_Mixture_init h) (sim_cons (sim_op op_ix sim_var (sim_c fun _ _ => .int _)) sim_nil))) sim_next)
      (sim_cut (sim_ifS (sim_test (sim_op op_eq (sim_cb cb_len (sim_cons sim_var sim_nil)) (sim_c fun _ _ => .int _))) (sim_ret (sim_make (fun _ _ _ _ h => ad_Mixture_init h) (sim_cons (sim_op op_ix sim_var (sim_c fun _ _ => .int _)) (sim_cons (sim_op op_ix sim_var (sim_c fun _ _ => .int _)) sim_nil)))) sim_next)
      (sim_cut (sim_ifS (sim_test (sim_op op_eq (sim_cb cb_len (sim_cons sim_var sim_nil)) (sim_c fun _ _ => .int _))) (sim_ret (sim_make (fun _ _ _ _ h => ad_Mixture_init h) (sim_cons (sim_op op_ix sim_var (sim_c fun _ _ => .int _)) (sim_cons (sim_op op_ix sim_var (sim_c fun _ _ => .int _)) (sim_cons (sim_op op_ix sim_var (sim_c fun _ _ => .int _)) sim_nil))))) sim_next)
      (sim_ret (sim_make (fun _ _ _ _ h => ad_Mixture_init h) (sim_cons (sim_op op_ix sim_var (sim_c fun _ _ => .int _)) (sim_cons (sim_op op_ix sim_var (sim_c fun _ _ => .int _)) (sim_cons (sim_op op_ix sim_var (sim_c fun _ _ => .int _)) (sim_cons (sim_op op_ix sim_var (sim_c fun _ _ => .int _)) sim_nil))))))))))
theorem dpure_law_mixed {ds : List D} {S : Sto} {Q : DQ} {E : DX} (h : dsp_law_mixed ds S Q E) : d_law_mixed (ExD S E) { nx := fun _ S' => RtD S Q .non S', rt := RtD S Q, b := S.length } (startD N_law_mixed.length ds) S := by
  obtain ⟨x, rfl, ns, ex, hl, he, hq⟩ := h
  show d_law_mixed _ _ [some x] S
  unfold d_law_mixed
  have ln : ∀ {Q' : DQ}, Q' (.int ns.length) S → dLen [x] S Q' := fun {Q'} q => w_len (ds := ns.map .int) (.inl ex) (by rw [List.length_map]; exact q)
  have fin : ∀ ns' : List Int, ns' = ns → dsp_Mixture_init (ns'.map .int) S (RtD S Q) fun C gs S' => ExD S E C gs [some x] S' := fun ns' e => by
    subst e
    exact ⟨_, _, rfl, .inl ⟨ns', rfl, rfl, by omega, fun n hn => ex_same lt_int (he n hn), fun hn => rt_all (hq hn)⟩⟩
  have ix : ∀ {i : Nat} {n : Int} {Q' : DQ}, ns[i]? = some n → Q' (.int n) S → dIx x (.int (i : Int)) S Q' := fun {i n Q'} e q => w_ix (y := .int n) (.inl ex) (atI_nat (by rw [List.getElem?_map, e]; rfl)) q
  rcases ns with _ | ⟨a, _ | ⟨b, _ | ⟨c, _ | ⟨d, _ | ⟨e, r⟩⟩⟩⟩⟩
  · refine w_nocut ?_
    walk_at "dd"
    refine ln ?_
    walk_at "dd"
    refine s_itT rfl ?_
    walk_at "dd"
    exact fin [] rfl
  · refine w_nocut ?_
    walk_at "dd"
    refine ln ?_
    walk_at "dd"
    refine s_itF rfl ?_
    walk_at "dd"
    refine w_nocut ?_
    walk_at "dd"
    refine ln ?_
    walk_at "dd"
    refine s_itT rfl ?_
    walk_at "dd"
    refine ix (i := 0) rfl ?_
    walk_at "dd"
    exact fin [a] rfl
  · refine w_nocut ?_
    walk_at "dd"
    refine ln ?_
    walk_at "dd"
    refine s_itF rfl ?_
    walk_at "dd"
    refine w_nocut ?_
    walk_at "dd"
    refine ln ?_
    walk_at "dd"
    refine s_itF rfl ?_
    walk_at "dd"
    refine w_nocut ?_
    walk_at "dd"
    refine ln ?_
    walk_at "dd"
    refine s_itT rfl ?_
    walk_at "dd"
    refine ix (i := 0) rfl ?_
    walk_at "dd"
    refine ix (i := 1) rfl ?_
    walk_at "dd"
    exact fin [a, b] rfl
  · refine w_nocut ?_
    walk_at "dd"
    refine ln ?_
    walk_at "dd"
    refine s_itF rfl ?_
    walk_at "dd"
    refine w_nocut ?_
    walk_at "dd"
    refine ln ?_
    walk_at "dd"
    refine s_itF rfl ?_
    walk_at "dd"
    refine w_nocut ?_
    walk_at "dd"
    refine ln ?_
    walk_at "dd"
    refine s_itF rfl ?_
    walk_at "dd"
    refine w_nocut ?_
    walk_at "dd"
    refine ln ?_
    walk_at "dd"
    refine s_itT rfl ?_
    walk_at "dd"
    refine ix (i := 0) rfl ?_
    walk_at "dd"
    refine ix (i := 1) rfl ?_
    walk_at "dd"
    refine ix (i := 2) rfl ?_
    walk_at "dd"
    exact fin [a, b, c] rfl
  · refine w_nocut ?_
    walk_at "dd"
    refine ln ?_
    walk_at "dd"
    refine s_itF rfl ?_
    walk_at "dd"
    refine w_nocut ?_
    walk_at "dd"
    refine ln ?_
    walk_at "dd"
    refine s_itF rfl ?_
    walk_at "dd"
    refine w_nocut ?_
    walk_at "dd"
    refine ln ?_
    walk_at "dd"
    refine s_itF rfl ?_
    walk_at "dd"
    refine w_nocut ?_
    walk_at "dd"
    refine ln ?_
    walk_at "dd"
    refine s_itF rfl ?_
    walk_at "dd"
    refine ix (i := 0) rfl ?_
    walk_at "dd"
    refine ix (i := 1) rfl ?_
    walk_at "dd"
    refine ix (i := 2) rfl ?_
    walk_at "dd"
    refine ix (i := 3) rfl ?_
    walk_at "dd"
    exact fin [a, b, c, d] rfl
  · exact absurd hl (by simp)
theorem len_law_mixed {K : PySem.W.Frag} {vs : List V} {H : Hp} {Q : VK} {E : XK} (h : sp_law_mixed K vs H Q E) : vs.length = 1 := lift_len (fun _ _ _ _ h => DSp1.len h) h
theorem pure_law_mixed {K : PySem.W.Frag} {vs : List V} {H : Hp} {Q : VK} {E : XK} (h : sp_law_mixed K vs H Q E) : t_law_mixed K (fun cls d _ H => E cls d H) { nx := fun _ H' => Q .non H', rt := Q } (start N_law_mixed vs) H := lift_def (N := N_law_mixed) (fun W WD => sim_law_mixed W WD) (fun _ _ _ _ h => dpure_law_mixed h) _ _ _ _ h
def dsp_law_error : DSp := DSp4 fun x y w u S Q _ =>
  (∃ (ns : List Int) (k : Int), y = .int 0 ∧ rs S w = .lst (ns.map .int) ∧ ns.length ≤ 4 ∧ badM ns = some k ∧ Q (numE k) S) ∨
  ∃ (n m : Nat) (f : Cnt), x = .hdl n ∧ IsMx S n m f ∧ CntOk f ∧
    ((∃ k : Int, y = .int 1 ∧ w = .int k ∧ ¬ (1 ≤ k ∧ k ≤ 999) ∧ Q (numE k) S) ∨
     (∃ k c : Int, y = .int 2 ∧ w = .int k ∧ u = .int c ∧ (¬ (1 ≤ k ∧ k ≤ 999) → Q (numE k) S) ∧ (1 ≤ k ∧ k ≤ 999 → ¬ (0 ≤ c ∧ c ≤ 1000000) → Q (cntE c) S) ∧
       (1 ≤ k ∧ k ≤ 999 → 0 ≤ c ∧ c ≤ 1000000 → ∀ S' m', Stay S S' [n] → S.length ≤ m' → IsMx S' n m' (updC f k c) → Q (.lst [.bl true]) S')) ∨
     (∃ k : Int, (y = .int 3 ∨ y = .int 4) ∧ w = .int k ∧ ((k < 0 ∧ Q (cntE k) S) ∨ 0 ≤ k ∧ ∃ j, overM (timesC f k) 1000000 = some j ∧ Q (cntE (f j * k)) S)) ∨
     ∃ (n2 m2 : Nat) (g : Cnt) (j : Int), (y = .int 5 ∨ y = .int 6) ∧ w = .hdl n2 ∧ IsMx S n2 m2 g ∧ CntOk g ∧ overM (addC f g) 1000000 = some j ∧ Q (cntE (f j + g j)) S)
abbrev sp_law_error (K : PySem.W.Frag) : Sp := lift K dsp_law_error
def N_law_error : List PySem.Str := ["_law_mixture", "_law_way", "_law_one", "_law_two", "_law_told", "_law_wrong", "much"]
def t_law_error (K : PySem.W.Frag) (W : WX) : TS := (tSeq (tAsg (tC .non) (gName 4))
    (tCut (fun D σ H => (fun W1 => (tIfS (tTest (tOp (rEqP K) (tVar 1) (tC (.int 0)))) (tAsg (tCallS (sp_law_mixed K) (WE W1) (tCons (tVar 2) tNil)) (gName 4)) (tIfS (tTest (tOp (rEqP K) (tVar 1) (tC (.int 1)))) (tAsg (Cl.tOpS (Cl.rIxO [(ga K "Mixture", sp_Mixture_getitem K)] (WE W1) (rIxP K)) (tVar 0) (tVar 2)) (gName 4)) (tIfS (tTest (tOp (rEqP K) (tVar 1) (tC (.int 2)))) (tAsg (tVar 3) (Cl.gSubO (tVar 0) (tVar 2) (Cl.rSetO [(ga K "Mixture", sp_Mixture_setitem K)] (WE W1)))) (tIfS (tTest (tOp (rEqP K) (tVar 1) (tC (.int 3)))) (tAsg (Cl.tOpS (Cl.rMix [(ga K "Mixture", sp_Mixture_mul K, sp_Mixture_rmul K)] (WE W1) rMulP) (tVar 0) (tVar 2)) (gName 4)) (tIfS (tTest (tOp (rEqP K) (tVar 1) (tC (.int 4)))) (tAsg (Cl.tOpS (Cl.rMix [(ga K "Mixture", sp_Mixture_mul K, sp_Mixture_rmul K)] (WE W1) rMulP) (tVar 2) (tVar 0)) (gName 4)) (tIfS (tTest (tOp (rEqP K) (tVar 1) (tC (.int 5)))) (tAsg (Cl.tOpS (Cl.rOwn2 [(ga K "Mixture", sp_Mixture_add K)] (WE W1) (rAddP K)) (tVar 0) (tVar 2)) (gName 4)) (Cl.tAugO 0 (tVar 2) (Cl.rInp [(ga K "Mixture", sp_Mixture_iadd K)] (WE W1) (rIn0 fun i j => .int (i + j))))))))))) (L2N.wList K W D [((.ref (ga K "BadNumber"), 5, fun a_ cls_ d_ => (tRet (tLst (tCons (tC (.str "number")) (tCons (tErrF (ga K "BadNumber") "number" a_ cls_ d_ (tVar 5)) (tCons (tAndV (tCB (rIsEE K a_ cls_ d_) (tCons (tVar 5) (tCons (tC (.ref (ga K "HornError"))) tNil))) (tNotV (tCB (rIsEE K a_ cls_ d_) (tCons (tVar 5) (tCons (tC (.ref (ga K "NoClause"))) tNil))))) tNil)))))) : L2N.Cla), ((.ref (ga K "BadCount"), 6, fun a_ cls_ d_ => (tRet (tLst (tCons (tC (.str "count")) (tCons (tErrF (ga K "BadCount") "count" a_ cls_ d_ (tVar 6)) (tCons (tCB (rIsEE K a_ cls_ d_) (tCons (tVar 6) (tCons (tC (.ref (ga K "HornError"))) tNil))) tNil)))))) : L2N.Cla)]) D σ H)
    (tRet (tLst (tCons (tOp (rIsP false) (tVar 4) (tC .non)) tNil)))))
def cl_law_error (K : PySem.W.Frag) (W : WX) : List L2N.Cla := [((.ref (ga K "BadNumber"), 5, fun a_ cls_ d_ => (tRet (tLst (tCons (tC (.str "number")) (tCons (tErrF (ga K "BadNumber") "number" a_ cls_ d_ (tVar 5)) (tCons (tAndV (tCB (rIsEE K a_ cls_ d_) (tCons (tVar 5) (tCons (tC (.ref (ga K "HornError"))) tNil))) (tNotV (tCB (rIsEE K a_ cls_ d_) (tCons (tVar 5) (tCons (tC (.ref (ga K "NoClause"))) tNil))))) tNil)))))) : L2N.Cla),
  ((.ref (ga K "BadCount"), 6, fun a_ cls_ d_ => (tRet (tLst (tCons (tC (.str "count")) (tCons (tErrF (ga K "BadCount") "count" a_ cls_ d_ (tVar 6)) (tCons (tCB (rIsEE K a_ cls_ d_) (tCons (tVar 6) (tCons (tC (.ref (ga K "HornError"))) tNil))) tNil)))))) : L2N.Cla)]
structure Fx_law_error (K : PySem.W.Frag) : Prop where
  nn : PySem.W.exmOne K (.ref (ga K "BadNumber")) (.ref (ga K "BadNumber")) = some true
  xn : ExcC K (ga K "BadNumber")
  nh : PySem.W.kitOne K (.ref (ga K "BadNumber")) (.ref (ga K "HornError")) = some true
  nc : PySem.W.kitOne K (.ref (ga K "BadNumber")) (.ref (ga K "NoClause")) = some false
  cn : PySem.W.exmOne K (.ref (ga K "BadCount")) (.ref (ga K "BadNumber")) = some false
  cc : PySem.W.exmOne K (.ref (ga K "BadCount")) (.ref (ga K "BadCount")) = some true
  xc : ExcC K (ga K "BadCount")
  ch : PySem.W.kitOne K (.ref (ga K "BadCount")) (.ref (ga K "HornError")) = some true
inductive hd_law_error : Str → List (Str × D) → DS
  | c0 {z : Int} {F : DEnds} {ρ : Rho} {S : Sto} : 6 < ρ.length → F.rt (numE z) S → hd_law_error "BadNumber" [("number", .int z)] F ρ S
  | c1 {z : Int} {F : DEnds} {ρ : Rho} {S : Sto} : 6 < ρ.length → F.rt (cntE z) S → hd_law_error "BadCount" [("count", .int z)] F ρ S
theorem hs_law_error {K : PySem.W.Frag} (Fx : Fx_law_error K) (W : WX) (WD : DW) : HandSim K W WD (cl_law_error K W) hd_law_error := by
  intro H0 A0 hW E F e σ ρ A S H C gs fs d x hd tf h
  have hlen := x.r.len
  cases h with
  | c0 h6 ok =>
    rename_i z
    cases tf with | cons t tf =>
      cases tf
      cases t
      refine ⟨true, Fx.nn, fun _ a ha => ?_, fun e => by cases e⟩
      have e5 : (σ.set 5 (some (.ref a)))[5]? = some (some (V.ref a)) := List.getElem?_set_self (by omega)
      walk_at "ss"
      refine s_var e5 ?_
      refine ⟨rfl, rfl, d, _, rfl, hd, ?_⟩
      walk_at "ss"
      refine s_var e5 ?_
      walk_at "ss"
      refine ⟨_, _, _, true, rfl, Fx.xn, .inr ⟨d, _, rfl, hd⟩, rfl, fun u r => r, Fx.nh, ?_⟩
      refine ⟨true, rfl, ?_⟩
      refine s_itT rfl ?_
      walk_at "ss"
      refine s_var e5 ?_
      walk_at "ss"
      refine ⟨_, _, _, false, rfl, Fx.xn, .inr ⟨d, _, rfl, hd⟩, rfl, fun u r => r, Fx.nc, ?_⟩
      walk_at "ss"
      refine ⟨three_leM, fun q hq => ?_⟩
      obtain ⟨C', l⟩ := x.c.same (same_new hq)
      exact e.rt _ _ _ _ _ _ _ (x.go l C') (.lst upd_same (x.c.out hq) (.cons (.str _) (.cons (.int _) (.cons (.bl _) .nil)))) ok
  | c1 h6 ok =>
    rename_i z
    cases tf with | cons t tf =>
      cases tf
      cases t
      refine ⟨false, Fx.cn, fun e => by (cases e), fun _ => ⟨true, Fx.cc, fun _ a ha => ?_, fun e => by cases e⟩⟩
      have e5 : (σ.set 6 (some (.ref a)))[6]? = some (some (V.ref a)) := List.getElem?_set_self (by omega)
      walk_at "ss"
      refine s_var e5 ?_
      refine ⟨rfl, rfl, d, _, rfl, hd, ?_⟩
      walk_at "ss"
      refine s_var e5 ?_
      walk_at "ss"
      refine ⟨_, _, _, true, rfl, Fx.xc, .inr ⟨d, _, rfl, hd⟩, rfl, fun u r => r, Fx.ch, ?_⟩
      walk_at "ss"
      refine ⟨three_leM, fun q hq => ?_⟩
      obtain ⟨C', l⟩ := x.c.same (same_new hq)
      exact e.rt _ _ _ _ _ _ _ (x.go l C') (.lst upd_same (x.c.out hq) (.cons (.str _) (.cons (.int _) (.cons (.bl _) .nil)))) ok
def d_law_error (WD : DW) : DS := (dSeq (dAsg (dC .non) (dgName 4))
    (dCut (dTry (fun WD1 => (dIfS (dTest (dOp dEq (dVar 1) (dC (.int 0)))) (dAsg (dCall WD1 dsp_law_mixed (dCons (dVar 2) dNil)) (dgName 4)) (dIfS (dTest (dOp dEq (dVar 1) (dC (.int 1)))) (dAsg (dOpS (dIxO (edW WD1) [("Mixture", dsp_Mixture_getitem)]) (dVar 0) (dVar 2)) (dgName 4)) (dIfS (dTest (dOp dEq (dVar 1) (dC (.int 2)))) (dAsg (dVar 3) (dgSubO (edW WD1) [("Mixture", dsp_Mixture_setitem)] (dVar 0) (dVar 2))) (dIfS (dTest (dOp dEq (dVar 1) (dC (.int 3)))) (dAsg (dOpS (dMix (edW WD1) [("Mixture", dsp_Mixture_mul, dsp_Mixture_rmul)] dMul) (dVar 0) (dVar 2)) (dgName 4)) (dIfS (dTest (dOp dEq (dVar 1) (dC (.int 4)))) (dAsg (dOpS (dMix (edW WD1) [("Mixture", dsp_Mixture_mul, dsp_Mixture_rmul)] dMul) (dVar 2) (dVar 0)) (dgName 4)) (dIfS (dTest (dOp dEq (dVar 1) (dC (.int 5)))) (dAsg (dOpS (dOwn2 (edW WD1) [("Mixture", dsp_Mixture_add)] (dAdd false)) (dVar 0) (dVar 2)) (dgName 4)) (dAug 0 (dVar 2) (dInp (edW WD1) [("Mixture", dsp_Mixture_iadd)] dAddI))))))))) hd_law_error)
    (dRet (dLst false (dCons (dOp (dIs false) (dVar 4) (dC .non)) dNil)))))
theorem sim_law_error {K : PySem.W.Frag} (F : Fx_law_error K) (W : WX) (WD : DW) : SimS K W WD (t_law_error K W) (d_law_error WD) := by
  unfold t_law_error d_law_error
  exact (sim_seq (sim_asg (sim_c fun _ _ => .non) sim_gname)
      (sim_cut (sim_try (fun W1 WD1 => (sim_ifS (sim_test (sim_op op_eq sim_var (sim_c fun _ _ => .int _))) (sim_asg (sim_callS (fun _ _ _ _ h => h) (sim_cons sim_var sim_nil)) sim_gname) (sim_ifS (sim_test (sim_op op_eq sim_var (sim_c fun _ _ => .int _))) (sim_asg (sim_opS (ops_ixO (.cons (fun _ _ _ _ h => h) .nil) eo_w) sim_var sim_var) sim_gname) (sim_ifS (sim_test (sim_op op_eq sim_var (sim_c fun _ _ => .int _))) (sim_asg sim_var (sim_gsubO (.cons (fun _ _ _ _ h => h) .nil) eo_w sim_var sim_var)) (sim_ifS (sim_test (sim_op op_eq sim_var (sim_c fun _ _ => .int _))) (sim_asg (sim_opS (ops_mix (.cons (fun _ _ _ _ h => h) (fun _ _ _ _ h => h) .nil) eo_w op_mul) sim_var sim_var) sim_gname) (sim_ifS (sim_test (sim_op op_eq sim_var (sim_c fun _ _ => .int _))) (sim_asg (sim_opS (ops_mix (.cons (fun _ _ _ _ h => h) (fun _ _ _ _ h => h) .nil) eo_w op_mul) sim_var sim_var) sim_gname) (sim_ifS (sim_test (sim_op op_eq sim_var (sim_c fun _ _ => .int _))) (sim_asg (sim_opS (ops_own2 (.cons (fun _ _ _ _ h => h) .nil) eo_w op_add) sim_var sim_var) sim_gname) (sim_aug sim_var (ops_inp (.cons (fun _ _ _ _ h => h) .nil) eo_w op_addI)))))))))
      (hs_law_error F W WD))
      (sim_ret (sim_lst (sim_cons (sim_op op_is sim_var (sim_c fun _ _ => .non)) sim_nil)))))
theorem dpure_law_error {ds : List D} {S : Sto} {Q : DQ} {E : DX} (h : dsp_law_error ds S Q E) : d_law_error (ExD S E) { nx := fun _ S' => RtD S Q .non S', rt := RtD S Q, b := S.length } (startD N_law_error.length ds) S := by
  obtain ⟨x, y, w, u, rfl, h⟩ := h
  show d_law_error _ _ [some x, some y, some w, some u, none, none, none] S
  unfold d_law_error
  have six : ∀ {a b c d e f g : Option D}, 6 < [a, b, c, d, e, f, g].length := Nat.lt_succ_self 6
  rcases h with ⟨ns, k, rfl, ew, hl, hb, hq⟩ | ⟨n, m, f, rfl, M, ok, h⟩
  · walk_at "dd"
    refine w_nocut ?_
    refine w_try ?_
    walk_at "dd"
    refine s_itT rfl ?_
    walk_at "dd"
    refine ⟨_, rfl, ns, ew, hl, fun j hj => ?_, fun hn => ?_⟩
    · rw [hb] at hj
      cases hj
      exact .c0 six (rt_all hq)
    · rw [hb] at hn
      cases hn
  rcases h with ⟨k, rfl, rfl, hk, hq⟩ | ⟨k, c, rfl, rfl, rfl, h1, h2, hq⟩ | ⟨k, hy, rfl, h⟩ | ⟨n2, m2, g, j, hy, rfl, M2, ok2, hj, hq⟩
  · walk_at "dd"
    refine w_nocut ?_
    refine w_try ?_
    walk_at "dd"
    refine s_itF rfl ?_
    walk_at "dd"
    refine s_itT rfl ?_
    walk_at "dd"
    refine .inr ⟨_, _, dsp_Mixture_getitem, rs_h M.1, by walk_at "mem", ?_⟩
    exact ⟨_, _, rfl, n, m, f, k, rfl, rfl, M, ok, fun h => absurd h hk, fun _ => .c0 six (rt_all hq)⟩
  · walk_at "dd"
    refine w_nocut ?_
    refine w_try ?_
    walk_at "dd"
    refine s_itF rfl ?_
    walk_at "dd"
    refine s_itF rfl ?_
    walk_at "dd"
    refine s_itT rfl ?_
    walk_at "dd"
    refine .inr ⟨_, _, dsp_Mixture_setitem, rs_h M.1, by walk_at "mem", ?_⟩
    refine ⟨_, _, _, rfl, n, m, f, k, c, rfl, rfl, rfl, M, ok, fun h => .c0 six (rt_all (h1 h)), fun h h' => .c1 six (rt_all (h2 h h')), fun a b S' m' st hm M' => ?_⟩
    walk_at "dd"
    exact ⟨one_leM, rt_all (hq a b S' m' st hm M')⟩
  · rcases hy with rfl | rfl
    · walk_at "dd"
      refine w_nocut ?_
      refine w_try ?_
      walk_at "dd"
      refine s_itF rfl ?_
      walk_at "dd"
      refine s_itF rfl ?_
      walk_at "dd"
      refine s_itF rfl ?_
      walk_at "dd"
      refine s_itT rfl ?_
      walk_at "dd"
      refine .inr ⟨"Mixture", dsp_Mixture_mul, dsp_Mixture_rmul, List.mem_cons_self, .inl ⟨_, rs_h M.1, .inr ⟨k, rfl⟩, ?_⟩⟩
      refine ⟨_, _, rfl, n, m, f, k, rfl, rfl, M, ok, fun h0 => ?_, fun h0 j hj => ?_, fun h0 hn => ?_⟩
      · rcases h with ⟨_, q⟩ | ⟨h1, _⟩
        · exact .c1 six (rt_all q)
        · omega
      · rcases h with ⟨h1, _⟩ | ⟨_, j', hj', q⟩
        · omega
        · rw [hj] at hj'
          cases hj'
          exact .c1 six (rt_all q)
      · rcases h with ⟨h1, _⟩ | ⟨_, j', hj', q⟩
        · omega
        · rw [hn] at hj'
          cases hj'
    · walk_at "dd"
      refine w_nocut ?_
      refine w_try ?_
      walk_at "dd"
      refine s_itF rfl ?_
      walk_at "dd"
      refine s_itF rfl ?_
      walk_at "dd"
      refine s_itF rfl ?_
      walk_at "dd"
      refine s_itF rfl ?_
      walk_at "dd"
      refine s_itT rfl ?_
      walk_at "dd"
      refine .inr ⟨"Mixture", dsp_Mixture_mul, dsp_Mixture_rmul, List.mem_cons_self, .inr ⟨k, _, rfl, rs_h M.1, ?_⟩⟩
      refine ⟨_, _, rfl, n, m, f, k, rfl, rfl, M, ok, fun h0 => ?_, fun h0 j hj => ?_, fun h0 hn => ?_⟩
      · rcases h with ⟨_, q⟩ | ⟨h1, _⟩
        · exact .c1 six (rt_all q)
        · omega
      · rcases h with ⟨h1, _⟩ | ⟨_, j', hj', q⟩
        · omega
        · rw [hj] at hj'
          cases hj'
          exact .c1 six (rt_all q)
      · rcases h with ⟨h1, _⟩ | ⟨_, j', hj', q⟩
        · omega
        · rw [hn] at hj'
          cases hj'
  · rcases hy with rfl | rfl
    · walk_at "dd"
      refine w_nocut ?_
      refine w_try ?_
      walk_at "dd"
      refine s_itF rfl ?_
      walk_at "dd"
      refine s_itF rfl ?_
      walk_at "dd"
      refine s_itF rfl ?_
      walk_at "dd"
      refine s_itF rfl ?_
      walk_at "dd"
      refine s_itF rfl ?_
      walk_at "dd"
      refine s_itT rfl ?_
      walk_at "dd"
      refine .inr ⟨"Mixture", _, _, dsp_Mixture_add, rs_h M.1, rs_h M2.1, List.mem_cons_self, ?_⟩
      refine ⟨_, _, rfl, n, m, n2, m2, f, g, rfl, rfl, M, M2, ok, ok2, fun k hk => ?_, fun hn => ?_⟩
      · rw [hj] at hk
        cases hk
        exact .c1 six (rt_all hq)
      · rw [hj] at hn
        cases hn
    · walk_at "dd"
      refine w_nocut ?_
      refine w_try ?_
      walk_at "dd"
      refine s_itF rfl ?_
      walk_at "dd"
      refine s_itF rfl ?_
      walk_at "dd"
      refine s_itF rfl ?_
      walk_at "dd"
      refine s_itF rfl ?_
      walk_at "dd"
      refine s_itF rfl ?_
      walk_at "dd"
      refine s_itF rfl ?_
      walk_at "dd"
      refine .inr ⟨_, _, dsp_Mixture_iadd, rs_h M.1, by walk_at "mem", ?_⟩
      refine ⟨_, _, rfl, n, m, n2, m2, f, g, rfl, rfl, M, M2, ok, ok2, fun k hk => ?_, fun hn => ?_⟩
      · rw [hj] at hk
        cases hk
        exact .c1 six (rt_all hq)
      · rw [hj] at hn
        cases hn
theorem len_law_error {K : PySem.W.Frag} {vs : List V} {H : Hp} {Q : VK} {E : XK} (h : sp_law_error K vs H Q E) : vs.length = 4 := lift_len (fun _ _ _ _ h => DSp4.len h) h
theorem pure_law_error {K : PySem.W.Frag} (F : Fx_law_error K) {vs : List V} {H : Hp} {Q : VK} {E : XK} (h : sp_law_error K vs H Q E) : t_law_error K (fun cls d _ H => E cls d H) { nx := fun _ H' => Q .non H', rt := Q } (start N_law_error vs) H := lift_def (N := N_law_error) (fun W WD => sim_law_error F W WD) (fun _ _ _ _ h => dpure_law_error h) _ _ _ _ h
def dsp_law_are : DSp := DSp2 fun x y S Q _ => ∃ (n m t : Nat) (f : Cnt), x = .hdl n ∧ y = .hdl t ∧ IsMx S n m f ∧ IsTb S t f ∧ CntOk f ∧ Q (.bl true) S
abbrev sp_law_are (K : PySem.W.Frag) : Sp := lift K dsp_law_are
def N_law_are : List PySem.Str := ["_law_mixture", "_law_table", "_law_numbers", "_law_total", "_law_number", "_law_each"]
def t_law_are (K : PySem.W.Frag) (W : WX) : TS := (tSeq (tAsg (tCB (rSortAny K) (tCons (tLc (iAnyP K (tCB rListD (tCons (tVar 1) tNil))) (gName 4) tYes (tCB rIntP (tCons (tVar 4) tNil)) [4]) tNil)) (gName 2))
    (tCut (tIfS (tOr (tNot (tB (tCB (rIsi K) (tCons (tVar 0) (tCons (tC (.ref (ga K "Mixture"))) tNil))))) (tNot (tB (tCallS (sp_law_same K) (WE W) (tCons (tCB (Cl.rListK K [(ga K "Mixture", "rows")]) (tCons (tVar 0) tNil)) (tCons (tVar 2) tNil)))))) (tRet (tC (.bl false))) tNext)
    (tSeq (tAsg (tCB (rSum K) (tCons (tLc (iAnyP K (tVar 2)) (gName 4) tYes (tDGet (tVar 1) (tVar 4)) [4]) tNil)) (gName 3))
    (tCut (tIfS (tOr (tNot (tB (tCallS (sp_law_same K) (WE W) (tCons (tCB (Cl.rLenK K [(ga K "Mixture", "rows")]) (tCons (tVar 0) tNil)) (tCons (tCB (Cl.rLenK K [(ga K "Mixture", "rows")]) (tCons (tVar 2) tNil)) tNil))))) (tNot (tB (tCallS (sp_law_same K) (WE W) (tCons (Cl.tAtt [(ga K "Mixture", Cl.aProp (sp_Mixture_total K))] (tVar 0)) (tCons (tVar 3) tNil)))))) (tRet (tC (.bl false))) tNext)
    (tCut (tFor (iAnyP K (tVar 2)) (gName 4) (tIfS (tOr (tTest (Cl.tOpS (Cl.rOwnI [(ga K "Mixture", sp_Mixture_contains K)] (WE W) true (rInP K true)) (tVar 4) (tVar 0))) (tNot (tB (tCallS (sp_law_same K) (WE W) (tCons (Cl.tOpS (Cl.rIxO [(ga K "Mixture", sp_Mixture_getitem K)] (WE W) (rIxP K)) (tVar 0) (tVar 4)) (tCons (tDGet (tVar 1) (tVar 4)) tNil)))))) (tRet (tC (.bl false))) tNext))
    (tCut (tFor (iAnyP K (tOp (rAddP K) (tLst (tCons (tC (.int 1)) (tCons (tC (.int 2)) (tCons (tC (.int 500)) (tCons (tC (.int 999)) tNil))))) (tLc (iAnyP K (tVar 2)) (gName 5) (tTest (tOp rLtP (tVar 5) (tC (.int 999)))) (tOp (rAddP K) (tVar 5) (tC (.int 1))) [5]))) (gName 4) (tIfS (tAnd (tTest (Cl.tOpS (Cl.rOwnI [(ga K "Mixture", sp_Mixture_contains K)] (WE W) true (rInP K true)) (tVar 4) (tVar 1))) (tOr (tTest (Cl.tOpS (Cl.rOwnI [(ga K "Mixture", sp_Mixture_contains K)] (WE W) false (rInP K false)) (tVar 4) (tVar 0))) (tNot (tB (tCallS (sp_law_same K) (WE W) (tCons (Cl.tOpS (Cl.rIxO [(ga K "Mixture", sp_Mixture_getitem K)] (WE W) (rIxP K)) (tVar 0) (tVar 4)) (tCons (tC (.int 0)) tNil))))))) (tRet (tC (.bl false))) tNext))
    (tRet (tC (.bl true)))))))))
def d_law_are (WD : DW) : DS := (dSeq (dAsg (dCB (dSortI false) (dCons (dLc false (dAny (dCB (dListK0 false) (dCons (dVar 1) dNil))) (dgName 4) dYes (dCB dInt (dCons (dVar 4) dNil)) [4]) dNil)) (dgName 2))
    (dCut (dIfS (dOr (dNot (dTest (dIsO "Mixture" (dVar 0)))) (dNot (dTest (dCall WD dsp_law_same (dCons (dCB (dListK false [("Mixture", "rows")]) (dCons (dVar 0) dNil)) (dCons (dVar 2) dNil)))))) (dRet (dC (.bl false))) dNext)
    (dSeq (dAsg (dCB dSum (dCons (dLc false (dAny (dVar 2)) (dgName 4) dYes (dDGet (dVar 1) (dVar 4)) [4]) dNil)) (dgName 3))
    (dCut (dIfS (dOr (dNot (dTest (dCall WD dsp_law_same (dCons (dCB (dLenK [("Mixture", "rows")]) (dCons (dVar 0) dNil)) (dCons (dCB (dLenK [("Mixture", "rows")]) (dCons (dVar 2) dNil)) dNil))))) (dNot (dTest (dCall WD dsp_law_same (dCons (dAtt [("Mixture", .prop dsp_Mixture_total)] (dVar 0)) (dCons (dVar 3) dNil)))))) (dRet (dC (.bl false))) dNext)
    (dCut (dFor (dAny (dVar 2)) (dgName 4) (dIfS (dOr (dTest (dOpS (dInO true (edW WD) [("Mixture", dsp_Mixture_contains)]) (dVar 4) (dVar 0))) (dNot (dTest (dCall WD dsp_law_same (dCons (dOpS (dIxO (edW WD) [("Mixture", dsp_Mixture_getitem)]) (dVar 0) (dVar 4)) (dCons (dDGet (dVar 1) (dVar 4)) dNil)))))) (dRet (dC (.bl false))) dNext))
    (dCut (dFor (dAny (dOp (dAdd false) (dLst false (dCons (dC (.int 1)) (dCons (dC (.int 2)) (dCons (dC (.int 500)) (dCons (dC (.int 999)) dNil))))) (dLc false (dAny (dVar 2)) (dgName 5) (dTest (dOp dLt (dVar 5) (dC (.int 999)))) (dOp (dAdd false) (dVar 5) (dC (.int 1))) [5]))) (dgName 4) (dIfS (dAnd (dTest (dOpS (dInO true (edW WD) [("Mixture", dsp_Mixture_contains)]) (dVar 4) (dVar 1))) (dOr (dTest (dOpS (dInO false (edW WD) [("Mixture", dsp_Mixture_contains)]) (dVar 4) (dVar 0))) (dNot (dTest (dCall WD dsp_law_same (dCons (dOpS (dIxO (edW WD) [("Mixture", dsp_Mixture_getitem)]) (dVar 0) (dVar 4)) (dCons (dC (.int 0)) dNil))))))) (dRet (dC (.bl false))) dNext))
    (dRet (dC (.bl true)))))))))
theorem sim_law_are {K : PySem.W.Frag} (F : FxMx K) (W : WX) (WD : DW) : SimS K W WD (t_law_are K W) (d_law_are WD) := by
  unfold t_law_are d_law_are
  exact (sim_seq (sim_asg (sim_cb cb_sortI (sim_cons (sim_lc (sim_any (sim_cb cb_listK0 (sim_cons sim_var sim_nil))) (simv_gname (by decide)) sim_yes (sim_cb cb_int (sim_cons sim_var sim_nil))) sim_nil)) sim_gname)
      (sim_cut (sim_ifS (sim_or (sim_not (sim_tB (sim_isO F.ik_Mixture F.cc_Mixture sim_var))) (sim_not (sim_tB (sim_callS (fun _ _ _ _ h => ad_law_same h) (sim_cons (sim_cb (cb_listK (.cons .nil)) (sim_cons sim_var sim_nil)) (sim_cons sim_var sim_nil)))))) (sim_ret (sim_c fun _ _ => .bl _)) sim_next)
      (sim_seq (sim_asg (sim_cb cb_sum (sim_cons (sim_lc (sim_any sim_var) (simv_gname (by decide)) sim_yes (sim_dget sim_var sim_var)) sim_nil)) sim_gname)
      (sim_cut (sim_ifS (sim_or (sim_not (sim_tB (sim_callS (fun _ _ _ _ h => ad_law_same h) (sim_cons (sim_cb (cb_lenK (.cons .nil)) (sim_cons sim_var sim_nil)) (sim_cons (sim_cb (cb_lenK (.cons .nil)) (sim_cons sim_var sim_nil)) sim_nil))))) (sim_not (sim_tB (sim_callS (fun _ _ _ _ h => ad_law_same h) (sim_cons (sim_att (.cons (.prop (fun _ _ _ _ h => h)) .nil) sim_var) (sim_cons sim_var sim_nil)))))) (sim_ret (sim_c fun _ _ => .bl _)) sim_next)
      (sim_cut (sim_for (sim_any sim_var) sim_gname (sim_ifS (sim_or (sim_test (sim_opS (ops_inO (.cons (fun _ _ _ _ h => h) .nil) eo_w) sim_var sim_var)) (sim_not (sim_tB (sim_callS (fun _ _ _ _ h => ad_law_same h) (sim_cons (sim_opS (ops_ixO (.cons (fun _ _ _ _ h => h) .nil) eo_w) sim_var sim_var) (sim_cons (sim_dget sim_var sim_var) sim_nil)))))) (sim_ret (sim_c fun _ _ => .bl _)) sim_next))
      (sim_cut (sim_for (sim_any (sim_op op_add (sim_lst (sim_cons (sim_c fun _ _ => .int _) (sim_cons (sim_c fun _ _ => .int _) (sim_cons (sim_c fun _ _ => .int _) (sim_cons (sim_c fun _ _ => .int _) sim_nil))))) (sim_lc (sim_any sim_var) (simv_gname (by decide)) (sim_test (sim_op op_lt sim_var (sim_c fun _ _ => .int _))) (sim_op op_add sim_var (sim_c fun _ _ => .int _))))) sim_gname (sim_ifS (sim_and (sim_test (sim_opS (ops_inO (.cons (fun _ _ _ _ h => h) .nil) eo_w) sim_var sim_var)) (sim_or (sim_test (sim_opS (ops_inO (.cons (fun _ _ _ _ h => h) .nil) eo_w) sim_var sim_var)) (sim_not (sim_tB (sim_callS (fun _ _ _ _ h => ad_law_same h) (sim_cons (sim_opS (ops_ixO (.cons (fun _ _ _ _ h => h) .nil) eo_w) sim_var sim_var) (sim_cons (sim_c fun _ _ => .int _) sim_nil))))))) (sim_ret (sim_c fun _ _ => .bl _)) sim_next))
      (sim_ret (sim_c fun _ _ => .bl _))))))))
theorem dpure_law_are {ds : List D} {S : Sto} {Q : DQ} {E : DX} (h : dsp_law_are ds S Q E) : d_law_are (ExD S E) { nx := fun _ S' => RtD S Q .non S', rt := RtD S Q, b := S.length } (startD N_law_are.length ds) S := by
  obtain ⟨x, y, rfl, n, m, t, f, rfl, rfl, M, ⟨L, ht, nL, hL⟩, ok, hq⟩ := h
  show d_law_are _ _ [some (.hdl n), some (.hdl t), none, none, none, none] S
  unfold d_law_are
  have lL := tb_len nL hL
  have lk := keysM_len f
  have hget : ∀ {k}, k ∈ keysM f → getK (kvC f L) (.inl k) = some (.int (f k)) := fun {k} hk => by rw [getC, if_pos ((hL k).mpr hk)]
  walk_at "dd"
  refine ⟨t, _, rfl, ht, ?_⟩
  rw [kvC_keys]
  unfold newAt
  walk_at "dd"
  refine .seq (ds := L.map .int) sq_l ?_
  refine lcd_map L .int .int rfl (by omega) sq_l (fun n hn Q2 q2 => ?_) ?_
  · walk_at "dd"
    exact q2
  walk_at "dd"
  refine ⟨_, L, rfl, rfl, fun ys hp hs => ?_⟩
  have ey := sort_keys hp hs nL hL
  subst ey
  unfold newAt
  walk_at "dd"
  refine w_nocut ?_
  walk_at "dd"
  refine w_isO ?_
  walk_at "dd"
  refine ⟨_, rs_h M.1, ?_⟩
  walk_at "dd"
  refine s_itF rfl ?_
  walk_at "dd"
  refine .inr ⟨_, _, rfl, own_mx M (by walk_at "mem"), ?_⟩
  rw [kvM_keys]
  unfold newAt
  walk_at "dd"
  refine same_d rfl rfl (plain_lst (plain_map fun _ => plain_int)) (fit_intsM (by omega)) ?_
  walk_at "dd"
  refine s_itF rfl ?_
  walk_at "dd"
  refine .seq (ds := (keysM f).map .int) sq_l ?_
  refine lcd_map (keysM f) .int (fun k => .int (f k)) rfl (by omega) sq_l (fun k hk Q2 q2 => ?_) ?_
  · walk_at "dd"
    exact ⟨false, kvC f L, .inl k, .int (f k), rs_h ht, rfl, hget hk, q2⟩
  walk_at "dd"
  refine ⟨_, (keysM f).map f, rfl, by rw [List.map_map]; rfl, ?_⟩
  walk_at "dd"
  refine w_nocut ?_
  walk_at "dd"
  refine .inr ⟨_, _, rfl, own_mx M (by walk_at "mem"), ?_⟩
  walk_at "dd"
  refine .inl (w_len (ds := (keysM f).map .int) sq_l ?_)
  rw [List.length_map]
  walk_at "dd"
  refine same_d (d := .int (keysM f).length) (by unfold kvM; rw [kvC_len]; rfl) rfl plain_int trivial ?_
  walk_at "dd"
  refine s_itF rfl ?_
  walk_at "dd"
  refine att_prop dsp_Mixture_total (by walk_at "mem") (rs_h M.1) ?_
  refine ⟨_, rfl, n, m, f, rfl, M, ?_⟩
  walk_at "dd"
  refine same_d rfl rfl plain_int trivial ?_
  walk_at "dd"
  refine s_itF rfl ?_
  walk_at "dd"
  refine w_cut (fun ρ' S' => S = S' ∧ ∃ u v, ρ' = [some (.hdl n), some (.hdl t), some (.lst ((keysM f).map .int)), some (.int ((keysM f).map f).sum), u, v]) ?_ ?_
  · walk_at "dd"
    refine .seq (ds := (keysM f).map .int) sq_l ?_
    refine ⟨fun i ρ' S' => S = S' ∧ ∃ u v, ρ' = [some (.hdl n), some (.hdl t), some (.lst ((keysM f).map .int)), some (.int ((keysM f).map f).sum), u, v], ⟨rfl, none, none, rfl⟩, fun _ _ _ _ _ => sq_l, ?_, fun ρ' S' h => h⟩
    rintro i d ρ' S' hd ⟨rfl, u, v, rfl⟩
    obtain ⟨k, ek, rfl⟩ := map_at (show ((keysM f).map D.int)[i]? = some d from hd)
    have hk := List.mem_of_getElem? ek
    walk_at "dd"
    refine .inr ⟨_, _, dsp_Mixture_contains, rs_h M.1, by walk_at "mem", ?_⟩
    refine ⟨_, _, rfl, n, m, f, k, rfl, rfl, M, ?_⟩
    rw [decide_eq_true hk]
    walk_at "dd"
    refine s_itF rfl ?_
    walk_at "dd"
    refine .inr ⟨_, _, dsp_Mixture_getitem, rs_h M.1, by walk_at "mem", ?_⟩
    refine ⟨_, _, rfl, n, m, f, k, rfl, rfl, M, ok, fun _ => ?_, fun h => absurd (mem_keysM.mp hk).1 h⟩
    walk_at "dd"
    refine ⟨false, kvC f L, .inl k, .int (f k), rs_h ht, rfl, hget hk, ?_⟩
    walk_at "dd"
    refine same_d rfl rfl plain_int trivial ?_
    walk_at "dd"
    refine s_itF rfl ?_
    walk_at "dd"
    exact ⟨rfl, _, _, rfl⟩
  rintro ρ' S' ⟨rfl, u, v, rfl⟩
  refine w_cut (fun ρ' S' => S = S' ∧ ∃ u v, ρ' = [some (.hdl n), some (.hdl t), some (.lst ((keysM f).map .int)), some (.int ((keysM f).map f).sum), u, v]) ?_ ?_
  · walk_at "dd"
    refine ⟨by rw [sizeLine_eq]; decide, ?_⟩
    walk_at "dd"
    refine .seq (ds := (keysM f).map .int) sq_l ?_
    refine lcd_filt (keysM f) .int (fun k => .int (k + 1)) (fun k => decide (k < 999)) rfl (by omega) sq_l (fun k hk QF QT qF qT => ?_) ?_
    · walk_at "dd"
      by_cases h : k < 999
      · refine s_itT (decide_eq_true h) ?_
        walk_at "dd"
        exact qT (decide_eq_true h)
      · exact s_itF (decide_eq_false h) (qF (decide_eq_false h))
    obtain ⟨X, eX, lX, hX⟩ : ∃ X : List Int, [D.int 1, D.int 2, D.int 500, D.int 999] ++ ((keysM f).filter fun k => decide (k < 999)).map (fun k => D.int (k + 1)) = X.map .int ∧ X.length ≤ 1003 ∧ ∀ k ∈ X, 1 ≤ k ∧ k ≤ 999 := by
      refine ⟨[1, 2, 500, 999] ++ ((keysM f).filter fun k => decide (k < 999)).map (· + 1), ?_, ?_, fun k hk => ?_⟩
      · rw [List.map_append, List.map_map]; rfl
      · rw [List.length_append, List.length_map]
        have := List.length_filter_le (fun k => decide (k < 999)) (keysM f)
        simp
        omega
      · rcases List.mem_append.mp hk with h | h
        · simp only [List.mem_cons, List.not_mem_nil, or_false] at h
          omega
        · obtain ⟨q, hq, rfl⟩ := List.mem_map.mp h
          obtain ⟨h1, h2⟩ := List.mem_filter.mp hq
          have := (mem_keysM.mp h1).1
          have := of_decide_eq_true h2
          omega
    refine .lst (ds := [D.int 1, D.int 2, D.int 500, D.int 999]) (es := ((keysM f).filter fun k => decide (k < 999)).map (fun k => D.int (k + 1))) rfl rfl (by
      have h1 := congrArg List.length eX
      rw [List.length_append, List.length_map (f := D.int)] at h1
      rw [sizeLine_eq]
      omega) ?_
    rw [eX]
    unfold newAt
    refine .seq (ds := X.map .int) sq_l ?_
    refine ⟨fun i ρ' S' => S = S' ∧ ∃ u v, ρ' = [some (.hdl n), some (.hdl t), some (.lst ((keysM f).map .int)), some (.int ((keysM f).map f).sum), u, v], ⟨rfl, _, _, rfl⟩, fun _ _ _ _ _ => sq_l, ?_, fun ρ' S' h => h⟩
    rintro i d ρ' S' hd ⟨rfl, u, v, rfl⟩
    obtain ⟨k, ek, rfl⟩ := map_at (show (X.map D.int)[i]? = some d from hd)
    have hk := hX k (List.mem_of_getElem? ek)
    walk_at "dd"
    refine .inl (.dint (rs_h ht) ?_)
    rw [isC]
    walk_at "dd"
    by_cases hin : k ∈ L
    · refine s_itF (by rw [decide_eq_true hin]; rfl) ?_
      refine s_itF rfl ?_
      walk_at "dd"
      exact ⟨rfl, _, _, rfl⟩
    refine s_itT (by rw [decide_eq_false hin]; rfl) ?_
    have hnk : k ∉ keysM f := fun h => hin ((hL k).mpr h)
    walk_at "dd"
    refine .inr ⟨_, _, dsp_Mixture_contains, rs_h M.1, by walk_at "mem", ?_⟩
    refine ⟨_, _, rfl, n, m, f, k, rfl, rfl, M, ?_⟩
    rw [decide_eq_false hnk]
    walk_at "dd"
    refine s_itF rfl ?_
    walk_at "dd"
    refine .inr ⟨_, _, dsp_Mixture_getitem, rs_h M.1, by walk_at "mem", ?_⟩
    refine ⟨_, _, rfl, n, m, f, k, rfl, rfl, M, ok, fun _ => ?_, fun h => absurd hk h⟩
    rw [ok.zero hnk]
    walk_at "dd"
    refine same_d rfl rfl plain_int trivial ?_
    walk_at "dd"
    refine s_itF rfl ?_
    walk_at "dd"
    exact ⟨rfl, _, _, rfl⟩
  rintro ρ' S' ⟨rfl, u, v, rfl⟩
  walk_at "dd"
  exact rt_same lt_bl hq
theorem len_law_are {K : PySem.W.Frag} {vs : List V} {H : Hp} {Q : VK} {E : XK} (h : sp_law_are K vs H Q E) : vs.length = 2 := lift_len (fun _ _ _ _ h => DSp2.len h) h
theorem pure_law_are {K : PySem.W.Frag} (F : FxMx K) {vs : List V} {H : Hp} {Q : VK} {E : XK} (h : sp_law_are K vs H Q E) : t_law_are K (fun cls d _ H => E cls d H) { nx := fun _ H' => Q .non H', rt := Q } (start N_law_are vs) H := lift_def (N := N_law_are) (fun W WD => sim_law_are F W WD) (fun _ _ _ _ h => dpure_law_are h) _ _ _ _ h
def dsp_law_drawn : DSp := DSp2 fun x y S Q _ => ∃ s t : Nat, x = .hdl s ∧ y = .hdl t ∧ IsSrc S s ∧ S[t]? = some (.dic false []) ∧ s ≠ t ∧ ∀ S' r ns, Stay S S' [s, t] → IsSrc S' s → S'[r]? = some (.lst (ns.map .int)) → S.length ≤ r → ns.length ≤ 4 → (∀ n ∈ ns, 1 ≤ n ∧ n ≤ 999) → IsTb S' t (cntL ns) → Q (.hdl r) S'
abbrev sp_law_drawn (K : PySem.W.Frag) : Sp := lift K dsp_law_drawn
def N_law_drawn : List PySem.Str := ["_law_source_here", "_law_table", "_law_row", "_law_k", "_law_number"]
def t_law_drawn (K : PySem.W.Frag) (W : WX) : TS := (tSeq (tAsg (tLst tNil) (gName 2))
    (tCut (tFor (iRng1 (tCons (tCallS (sp_law_take K) (WE W) (tCons (tVar 0) (tCons (tC (.int 5)) tNil))) tNil)) (gName 3) (tSeq (tAsg (tOp (rAddP K) (tC (.int 1)) (tCallS (sp_law_take K) (WE W) (tCons (tVar 0) (tCons (tC (.int 999)) tNil)))) (gName 4))
    (tCut (tIfS (tAnd (tTest (tOp rGtP (tVar 3) (tC (.int 0)))) (tTest (tOp (rEqP K) (tCallS (sp_law_take K) (WE W) (tCons (tVar 0) (tCons (tC (.int 3)) tNil))) (tC (.int 0))))) (tAsg (tOp (rIxP K) (tVar 2) (tC (.int 0))) (gName 4)) tNext)
    (tSeq (tDrop (tBM K "list" rAppend (tVar 2) (tCons (tVar 4) tNil)))
    (tAsg (tOp (rAddP K) (tDGet2 (tVar 1) (tVar 4) (tC (.int 0))) (tC (.int 1))) (gSub (tVar 1) (tVar 4) rSetP))))))
    (tRet (tVar 2))))
def d_law_drawn (WD : DW) : DS := (dSeq (dAsg (dLst true dNil) (dgName 2))
    (dCut (dFor (dRng1 (dCons (dCall WD dsp_law_take (dCons (dVar 0) (dCons (dC (.int 5)) dNil))) dNil)) (dgName 3) (dSeq (dAsg (dOp (dAdd false) (dC (.int 1)) (dCall WD dsp_law_take (dCons (dVar 0) (dCons (dC (.int 999)) dNil)))) (dgName 4))
    (dCut (dIfS (dAnd (dTest (dOp dGt (dVar 3) (dC (.int 0)))) (dTest (dOp dEq (dCall WD dsp_law_take (dCons (dVar 0) (dCons (dC (.int 3)) dNil))) (dC (.int 0))))) (dAsg (dOp dIx (dVar 2) (dC (.int 0))) (dgName 4)) dNext)
    (dSeq (dDrop (dApp (dVar 2) (dCons (dVar 4) dNil)))
    (dAsg (dOp (dAdd false) (dDGet2 (dVar 1) (dVar 4) (dC (.int 0))) (dC (.int 1))) (dgSub (dVar 1) (dVar 4)))))))
    (dRet (dVar 2))))
theorem sim_law_drawn {K : PySem.W.Frag} (W : WX) (WD : DW) : SimS K W WD (t_law_drawn K W) (d_law_drawn WD) := by
  unfold t_law_drawn d_law_drawn
  exact (sim_seq (sim_asg (sim_lst sim_nil) sim_gname)
      (sim_cut (sim_for (sim_rng1 (sim_cons (sim_callS (fun _ _ _ _ h => ad_law_take h) (sim_cons sim_var (sim_cons (sim_c fun _ _ => .int _) sim_nil))) sim_nil)) sim_gname (sim_seq (sim_asg (sim_op op_add (sim_c fun _ _ => .int _) (sim_callS (fun _ _ _ _ h => ad_law_take h) (sim_cons sim_var (sim_cons (sim_c fun _ _ => .int _) sim_nil)))) sim_gname)
      (sim_cut (sim_ifS (sim_and (sim_test (sim_op op_gt sim_var (sim_c fun _ _ => .int _))) (sim_test (sim_op op_eq (sim_callS (fun _ _ _ _ h => ad_law_take h) (sim_cons sim_var (sim_cons (sim_c fun _ _ => .int _) sim_nil))) (sim_c fun _ _ => .int _)))) (sim_asg (sim_op op_ix sim_var (sim_c fun _ _ => .int _)) sim_gname) sim_next)
      (sim_seq (sim_drop (sim_app sim_var (sim_cons sim_var sim_nil)))
      (sim_asg (sim_op op_add (sim_dget2 sim_var sim_var (sim_c fun _ _ => .int _)) (sim_c fun _ _ => .int _)) (sim_gsub sim_var sim_var))))))
      (sim_ret sim_var)))
theorem dpure_law_drawn {ds : List D} {S : Sto} {Q : DQ} {E : DX} (h : dsp_law_drawn ds S Q E) : d_law_drawn (ExD S E) { nx := fun _ S' => RtD S Q .non S', rt := RtD S Q, b := S.length } (startD N_law_drawn.length ds) S := by
  obtain ⟨x, y, rfl, s, t, rfl, rfl, hs, ht, hst, hq⟩ := h
  show d_law_drawn _ _ [some (.hdl s), some (.hdl t), none, none, none] S
  unfold d_law_drawn
  have ls := hs.lt
  have lt := lt_of_at ht
  walk_at "dd"
  refine ⟨Nat.zero_le _, ?_⟩
  walk_at "dd"
  refine w_cut (fun ρ' S' => ∃ u v ns, ρ' = [some (.hdl s), some (.hdl t), some (.hdl S.length), u, v] ∧ Stay S S' [s, t] ∧ IsSrc S' s ∧ S'[S.length]? = some (.lst (ns.map .int)) ∧ ns.length ≤ 4 ∧ (∀ n ∈ ns, 1 ≤ n ∧ n ≤ 999) ∧ IsTb S' t (cntL ns)) ?_ ?_
  rotate_left
  · rintro ρ' S' ⟨u, v, ns, rfl, st, hs', hr, hl, hb, htb⟩
    walk_at "dd"
    exact rt_all (hq S' _ ns st hs' hr (Nat.le_refl _) hl hb htb)
  have hs1 : IsSrc (S ++ [D.lst []]) s := src_stay hs ((Stay.refl S).app _) (by simp)
  walk_at "dd"
  refine take_d hs1 (by decide) (by decide) fun c1 k ic1 k0 k4 => ?_
  refine ⟨k, rfl, by omega, by omega, ?_⟩
  refine ⟨fun i ρ' S' => ∃ u v ns, ρ' = [some (.hdl s), some (.hdl t), some (.hdl S.length), u, v] ∧ Stay S S' [s, t] ∧ IsSrc S' s ∧ S'[S.length]? = some (.lst (ns.map .int)) ∧ ns.length = i ∧ (∀ n ∈ ns, 1 ≤ n ∧ n ≤ 999) ∧ IsTb S' t (cntL ns), ?_, fun _ _ _ _ _ => trivial, ?_, ?_⟩
  · exact ⟨none, none, [], rfl, (((Stay.refl S).app _).mono (k := [s, t]) fun x h => by cases h).set List.mem_cons_self, ⟨c1, by rw [List.getElem?_set_self (by rw [List.length_append]; omega)], ic1⟩, by rw [List.getElem?_set_ne (by omega)]; exact atL, rfl, fun n h => by (cases h), [], by rw [List.getElem?_set_ne hst, List.getElem?_append_left lt]; exact ht, List.nodup_nil, fun n => by rw [keysM_zero (f := cntL []) fun n => rfl]⟩
  · rintro i d ρ' S' hd ⟨u, v, ns, rfl, st, hs', hr, hl, hb, htb⟩
    obtain ⟨hi, hd2⟩ := rngD_at hd
    rw [Int.zero_add] at hd2
    subst hd2
    walk_at "dd"
    refine take_d hs' (by decide) (by decide) fun c2 a ic2 a0 a1 => ?_
    walk_at "dd"
    refine w_cut (fun ρ' S'' => ∃ (z : Int) (c : D), ρ' = [some (.hdl s), some (.hdl t), some (.hdl S.length), some (.int i), some (.int z)] ∧ 1 ≤ z ∧ z ≤ 999 ∧ IsSrcD c ∧ S'' = S'.set s c) ?_ ?_
    · walk_at "dd"
      by_cases h0 : (i : Int) > 0
      · refine s_itT (decide_eq_true h0) ?_
        walk_at "dd"
        refine take_d (hs'.set ic2) (by decide) (by decide) fun c3 b ic3 b0 b1 => ?_
        rw [List.set_set]
        walk_at "dd"
        by_cases h1 : b = 0
        · refine s_itT (decide_eq_true h1) ?_
          obtain ⟨z, ez⟩ : ∃ z, ns[0]? = some z := ⟨_, List.getElem?_eq_getElem (show 0 < ns.length by omega)⟩
          walk_at "dd"
          have hr3 : (S'.set s c3)[S.length]? = some (.lst (ns.map .int)) := by rw [List.getElem?_set_ne (by omega)]; exact hr
          refine w_ix (y := .int z) (ds := ns.map .int) (.inl (rs_h hr3)) (show atI (ns.map D.int) ((0 : Nat) : Int) = _ from atI_nat (by rw [List.getElem?_map, ez]; rfl)) ?_
          walk_at "dd"
          have hz := hb z (List.mem_of_getElem? ez)
          exact ⟨z, c3, rfl, hz.1, hz.2, ic3, rfl⟩
        · refine s_itF (decide_eq_false h1) ?_
          walk_at "dd"
          exact ⟨1 + a, c3, rfl, by omega, by omega, ic3, rfl⟩
      · refine s_itF (decide_eq_false h0) ?_
        refine s_itF rfl ?_
        walk_at "dd"
        exact ⟨1 + a, c2, rfl, by omega, by omega, ic2, rfl⟩
    rintro ρ' S'' ⟨z, c, rfl, z1, z9, ic, rfl⟩
    have hr2 : (S'.set s c)[S.length]? = some (.lst (ns.map .int)) := by rw [List.getElem?_set_ne (by omega)]; exact hr
    obtain ⟨L, hT, nL, hL⟩ := htb
    have hT2 : (S'.set s c)[t]? = some (.dic false (kvC (cntL ns) L)) := by rw [List.getElem?_set_ne hst]; exact hT
    have lL := tb_len nL hL
    have lS := st.1
    walk_at "dd"
    refine ⟨_, rfl, ⟨_, hr2⟩, ?_⟩
    walk_at "dd"
    refine ⟨_, _, rfl, hr2, by rw [List.length_map]; omega, ?_⟩
    rw [show ns.map D.int ++ [D.int z] = (ns ++ [z]).map .int by rw [List.map_append]; rfl]
    have hT3 : ∀ {d : D}, ((S'.set s c).set S.length d)[t]? = some (.dic false (kvC (cntL ns) L)) := fun {d} => by rw [List.getElem?_set_ne (by omega)]; exact hT2
    have lt2 := lt_of_at (hT3 (d := .non))
    walk_at "dd"
    refine ⟨⟨_, _, rs_h hT3⟩, ?_⟩
    walk_at "dd"
    refine ⟨_, _, .inl z, rs_h hT3, rfl, ?_⟩
    rw [getC_D fun h => by
      have h1 : ¬ 0 < cntL ns z := fun hp => h ((hL z).mpr (mem_keysM.mpr ⟨⟨z1, z9⟩, hp⟩))
      have h2 : 0 ≤ cntL ns z := Int.natCast_nonneg _
      omega]
    walk_at "dd"
    refine .dic (key := .inl z) hT3 rfl (by rw [kvC_len, sizeLine_eq]; omega) ?_
    refine ⟨_, _, ns ++ [z], rfl, ?_, ?_, ?_, by rw [List.length_append, hl]; rfl, fun n hn => ?_, ?_⟩
    · exact ((st.set (c := c) List.mem_cons_self).setY (Nat.le_refl _)).set (List.mem_cons_of_mem _ List.mem_cons_self)
    · exact ⟨c, by rw [List.getElem?_set_ne (Ne.symm hst), List.getElem?_set_ne (by omega), List.getElem?_set_self (by have := hs'.lt; omega)], ic⟩
    · rw [List.getElem?_set_ne (by omega), List.getElem?_set_self (lt_of_at hr2)]
    · rcases List.mem_append.mp hn with h | h
      · exact hb n h
      · rw [List.mem_singleton.mp h]; exact ⟨z1, z9⟩
    · rw [cnt_snoc]
      exact tb_put nL hL (by have : 0 ≤ cntL ns z := Int.natCast_nonneg _; omega) z1 z9 (List.getElem?_set_self (lt_of_at hT3))
  · rintro ρ' S' ⟨u, v, ns, rfl, st, hs', hr, hl, hb, htb⟩
    refine ⟨u, v, ns, rfl, st, hs', hr, ?_, hb, htb⟩
    rw [hl]
    show (rngD 0 k.toNat).length ≤ 4
    unfold rngD
    rw [List.length_map, List.length_range]
    omega
theorem len_law_drawn {K : PySem.W.Frag} {vs : List V} {H : Hp} {Q : VK} {E : XK} (h : sp_law_drawn K vs H Q E) : vs.length = 2 := lift_len (fun _ _ _ _ h => DSp2.len h) h
theorem pure_law_drawn {K : PySem.W.Frag} {vs : List V} {H : Hp} {Q : VK} {E : XK} (h : sp_law_drawn K vs H Q E) : t_law_drawn K (fun cls d _ H => E cls d H) { nx := fun _ H' => Q .non H', rt := Q } (start N_law_drawn vs) H := lift_def (N := N_law_drawn) (fun W WD => sim_law_drawn W WD) (fun _ _ _ _ h => dpure_law_drawn h) _ _ _ _ h
def dsp_law_outside : DSp := DSp1 fun x S Q _ => ∃ s : Nat, x = .hdl s ∧ IsSrc S s ∧ ∀ c (z : Int), IsSrcD c → ¬ (1 ≤ z ∧ z ≤ 999) → Q (.int z) (S.set s c)
abbrev sp_law_outside (K : PySem.W.Frag) : Sp := lift K dsp_law_outside
def N_law_outside : List PySem.Str := ["_law_source_here"]
def t_law_outside (K : PySem.W.Frag) (W : WX) : TS := (tRet (tOp (rIxP K) (tLst (tCons (tC (.int 0)) (tCons (tOp rSubP (tUn (rU fun i => .int (-i)) (tC (.int 1))) (tCallS (sp_law_take K) (WE W) (tCons (tVar 0) (tCons (tC (.int 1000)) tNil)))) (tCons (tC (.int 1000)) (tCons (tOp (rAddP K) (tC (.int 1001)) (tCallS (sp_law_take K) (WE W) (tCons (tVar 0) (tCons (tOp rPowP (tC (.int 10)) (tC (.int 9))) tNil)))) tNil))))) (tCallS (sp_law_take K) (WE W) (tCons (tVar 0) (tCons (tC (.int 4)) tNil)))))
def d_law_outside (WD : DW) : DS := (dRet (dOp dIx (dLst false (dCons (dC (.int 0)) (dCons (dOp dSub (dUn dNeg (dC (.int 1))) (dCall WD dsp_law_take (dCons (dVar 0) (dCons (dC (.int 1000)) dNil)))) (dCons (dC (.int 1000)) (dCons (dOp (dAdd false) (dC (.int 1001)) (dCall WD dsp_law_take (dCons (dVar 0) (dCons (dOp dPow (dC (.int 10)) (dC (.int 9))) dNil)))) dNil))))) (dCall WD dsp_law_take (dCons (dVar 0) (dCons (dC (.int 4)) dNil)))))
theorem sim_law_outside {K : PySem.W.Frag} (W : WX) (WD : DW) : SimS K W WD (t_law_outside K W) (d_law_outside WD) := by
  unfold t_law_outside d_law_outside
  exact (sim_ret (sim_op op_ix (sim_lst (sim_cons (sim_c fun _ _ => .int _) (sim_cons (sim_op op_sub (sim_neg (sim_c fun _ _ => .int _)) (sim_callS (fun _ _ _ _ h => ad_law_take h) (sim_cons sim_var (sim_cons (sim_c fun _ _ => .int _) sim_nil)))) (sim_cons (sim_c fun _ _ => .int _) (sim_cons (sim_op op_add (sim_c fun _ _ => .int _) (sim_callS (fun _ _ _ _ h => ad_law_take h) (sim_cons sim_var (sim_cons (sim_op op_pow (sim_c fun _ _ => .int _) (sim_c fun _ _ => .int _)) sim_nil)))) sim_nil))))) (sim_callS (fun _ _ _ _ h => ad_law_take h) (sim_cons sim_var (sim_cons (sim_c fun _ _ => .int _) sim_nil)))))
theorem dpure_law_outside {ds : List D} {S : Sto} {Q : DQ} {E : DX} (h : dsp_law_outside ds S Q E) : d_law_outside (ExD S E) { nx := fun _ S' => RtD S Q .non S', rt := RtD S Q, b := S.length } (startD N_law_outside.length ds) S := by
  obtain ⟨x, rfl, s, rfl, hs, hq⟩ := h
  show d_law_outside _ _ [some (.hdl s)] S
  unfold d_law_outside
  walk_at "dd"
  refine take_d hs (by decide) (by decide) fun c1 a ic1 a0 a1 => ?_
  walk_at "dd"
  refine ⟨_, _, rfl, rfl, ⟨by decide, by decide, by decide⟩, ?_⟩
  walk_at "dd"
  refine take_d (hs.set ic1) (by decide) (by decide) fun c2 b ic2 b0 b1 => ?_
  rw [List.set_set]
  walk_at "dd"
  refine ⟨by rw [sizeLine_eq]; simp, ?_⟩
  walk_at "dd"
  refine take_d (hs.set ic2) (by decide) (by decide) fun c3 k ic3 k0 k1 => ?_
  rw [List.set_set]
  obtain ⟨z, hz, hb⟩ : ∃ z : Int, atI [D.int 0, D.int (-1 - a), D.int 1000, D.int (1001 + b)] k = some (.int z) ∧ ¬ (1 ≤ z ∧ z ≤ 999) := by
    rcases (by omega : k = 0 ∨ k = 1 ∨ k = 2 ∨ k = 3) with rfl | rfl | rfl | rfl
    · exact ⟨_, rfl, by omega⟩
    · exact ⟨_, rfl, by omega⟩
    · exact ⟨_, rfl, by omega⟩
    · exact ⟨_, rfl, by omega⟩
  refine w_ix (y := .int z) (ds := [D.int 0, D.int (-1 - a), D.int 1000, D.int (1001 + b)]) (.inl rfl) hz ?_
  exact rt_all (hq _ z ic3 hb)
theorem len_law_outside {K : PySem.W.Frag} {vs : List V} {H : Hp} {Q : VK} {E : XK} (h : sp_law_outside K vs H Q E) : vs.length = 1 := lift_len (fun _ _ _ _ h => DSp1.len h) h
theorem pure_law_outside {K : PySem.W.Frag} {vs : List V} {H : Hp} {Q : VK} {E : XK} (h : sp_law_outside K vs H Q E) : t_law_outside K (fun cls d _ H => E cls d H) { nx := fun _ H' => Q .non H', rt := Q } (start N_law_outside vs) H := lift_def (N := N_law_outside) (fun W WD => sim_law_outside W WD) (fun _ _ _ _ h => dpure_law_outside h) _ _ _ _ h
structure StM (S S' : Sto) (s n m t m' : Nat) (f g : Cnt) : Prop where
  st : Stay S S' [s, n, t]
  src : IsSrc S' s
  mx : IsMx S' n m' f
  tb : IsTb S' t g
  ok : CntOk f
  sep : m' = m ∨ S.length ≤ m'
def dsp_law_settings : DSp := DSp3 fun x y w S Q _ => ∃ (s n m t : Nat) (f : Cnt), x = .hdl s ∧ y = .hdl n ∧ w = .hdl t ∧ IsSrc S s ∧ IsMx S n m f ∧ IsTb S t f ∧ CntOk f ∧ s ≠ n ∧ s ≠ m ∧ s ≠ t ∧ n ≠ t ∧ m ≠ t ∧ n ≠ m ∧ ∀ S' m' f', StM S S' s n m t m' f' f' → Q (.bl true) S'
abbrev sp_law_settings (K : PySem.W.Frag) : Sp := lift K dsp_law_settings
def N_law_settings : List PySem.Str := ["_law_source_here", "_law_mixture", "_law_table", "_law_k", "_law_number", "_law_count", "_law_counts", "_law_due"]
def t_law_settings (K : PySem.W.Frag) (W : WX) : TS := (tCut (tFor (iRng1 (tCons (tCallS (sp_law_take K) (WE W) (tCons (tVar 0) (tCons (tC (.int 9)) tNil))) tNil)) (gName 3) (tSeq (tAsg (tOp (rAddP K) (tC (.int 1)) (tCallS (sp_law_take K) (WE W) (tCons (tVar 0) (tCons (tC (.int 999)) tNil)))) (gName 4))
    (tCut (tIfS (tAnd (tTest (tOp rGtP (tCB (Cl.rLenR K) (tCons (tVar 2) tNil)) (tC (.int 0)))) (tTest (tOp (rEqP K) (tCallS (sp_law_take K) (WE W) (tCons (tVar 0) (tCons (tC (.int 2)) tNil))) (tC (.int 1))))) (tAsg (tOp (rIxP K) (tCB rListD (tCons (tVar 2) tNil)) (tCallS (sp_law_take K) (WE W) (tCons (tVar 0) (tCons (tCB (Cl.rLenR K) (tCons (tVar 2) tNil)) tNil)))) (gName 4)) tNext)
    (tSeq (tAsg (tCallS (sp_law_take K) (WE W) (tCons (tVar 0) (tCons (tC (.int 6)) tNil))) (gName 5))
    (tCut (tIfS (tTest (tOp (rEqP K) (tCallS (sp_law_take K) (WE W) (tCons (tVar 0) (tCons (tC (.int 2)) tNil))) (tC (.int 1)))) (tSeq (tAsg (tLst (tCons (tC (.int 1)) (tCons (tC (.int 1000000)) (tCons (tC (.int 999999)) (tCons (tOp (rAddP K) (tC (.int 1000001)) (tVar 5)) (tCons (tOp rSubP (tUn (rU fun i => .int (-i)) (tC (.int 1))) (tVar 5)) tNil)))))) (gName 6))
    (tAsg (tOp (rIxP K) (tVar 6) (tCallS (sp_law_take K) (WE W) (tCons (tVar 0) (tCons (tC (.int 5)) tNil)))) (gName 5))) tNext)
    (tCut (tIfS (tTest (tOp (rEqP K) (tCallS (sp_law_take K) (WE W) (tCons (tVar 0) (tCons (tC (.int 6)) tNil))) (tC (.int 5)))) (tSeq (tAsg (tCallS (sp_law_outside K) (WE W) (tCons (tVar 0) tNil)) (gName 4))
    (tAsg (tLst (tCons (tC (.str "number")) (tCons (tVar 4) (tCons (tC (.bl true)) tNil)))) (gName 7))) (tIfS (tOr (tTest (tOp rLtP (tVar 5) (tC (.int 0)))) (tTest (tOp rGtP (tVar 5) (tC (.int 1000000))))) (tAsg (tLst (tCons (tC (.str "count")) (tCons (tVar 5) (tCons (tC (.bl true)) tNil)))) (gName 7)) (tSeq (tAsg (tLst (tCons (tC (.bl true)) tNil)) (gName 7))
    (tSeq (tAsg (tVar 5) (gSub (tVar 2) (tVar 4) rSetP))
    (tIfS (tTest (tOp (rEqP K) (tVar 5) (tC (.int 0)))) (tDrop (tDPop1 (tVar 2) (tVar 4))) tNext)))))
    (tIfS (tOr (tNot (tB (tCallS (sp_law_same K) (WE W) (tCons (tCallS (sp_law_error K) (WE W) (tCons (tVar 1) (tCons (tC (.int 2)) (tCons (tVar 4) (tCons (tVar 5) tNil))))) (tCons (tVar 7) tNil))))) (tNot (tB (tCallS (sp_law_are K) (WE W) (tCons (tVar 1) (tCons (tVar 2) tNil)))))) (tRet (tC (.bl false))) tNext)))))))
    (tRet (tC (.bl true))))
def d_law_settings (WD : DW) : DS := (dCut (dFor (dRng1 (dCons (dCall WD dsp_law_take (dCons (dVar 0) (dCons (dC (.int 9)) dNil))) dNil)) (dgName 3) (dSeq (dAsg (dOp (dAdd false) (dC (.int 1)) (dCall WD dsp_law_take (dCons (dVar 0) (dCons (dC (.int 999)) dNil)))) (dgName 4))
    (dCut (dIfS (dAnd (dTest (dOp dGt (dCB dLenR (dCons (dVar 2) dNil)) (dC (.int 0)))) (dTest (dOp dEq (dCall WD dsp_law_take (dCons (dVar 0) (dCons (dC (.int 2)) dNil))) (dC (.int 1))))) (dAsg (dOp dIx (dCB (dListK0 false) (dCons (dVar 2) dNil)) (dCall WD dsp_law_take (dCons (dVar 0) (dCons (dCB dLenR (dCons (dVar 2) dNil)) dNil)))) (dgName 4)) dNext)
    (dSeq (dAsg (dCall WD dsp_law_take (dCons (dVar 0) (dCons (dC (.int 6)) dNil))) (dgName 5))
    (dCut (dIfS (dTest (dOp dEq (dCall WD dsp_law_take (dCons (dVar 0) (dCons (dC (.int 2)) dNil))) (dC (.int 1)))) (dSeq (dAsg (dLst false (dCons (dC (.int 1)) (dCons (dC (.int 1000000)) (dCons (dC (.int 999999)) (dCons (dOp (dAdd false) (dC (.int 1000001)) (dVar 5)) (dCons (dOp dSub (dUn dNeg (dC (.int 1))) (dVar 5)) dNil)))))) (dgName 6))
    (dAsg (dOp dIx (dVar 6) (dCall WD dsp_law_take (dCons (dVar 0) (dCons (dC (.int 5)) dNil)))) (dgName 5))) dNext)
    (dCut (dIfS (dTest (dOp dEq (dCall WD dsp_law_take (dCons (dVar 0) (dCons (dC (.int 6)) dNil))) (dC (.int 5)))) (dSeq (dAsg (dCall WD dsp_law_outside (dCons (dVar 0) dNil)) (dgName 4))
    (dAsg (dLst false (dCons (dC (.str "number")) (dCons (dVar 4) (dCons (dC (.bl true)) dNil)))) (dgName 7))) (dIfS (dOr (dTest (dOp dLt (dVar 5) (dC (.int 0)))) (dTest (dOp dGt (dVar 5) (dC (.int 1000000))))) (dAsg (dLst false (dCons (dC (.str "count")) (dCons (dVar 5) (dCons (dC (.bl true)) dNil)))) (dgName 7)) (dSeq (dAsg (dLst false (dCons (dC (.bl true)) dNil)) (dgName 7))
    (dSeq (dAsg (dVar 5) (dgSub (dVar 2) (dVar 4)))
    (dIfS (dTest (dOp dEq (dVar 5) (dC (.int 0)))) (dDrop (dDPop1 (dVar 2) (dVar 4))) dNext)))))
    (dIfS (dOr (dNot (dTest (dCall WD dsp_law_same (dCons (dCall WD dsp_law_error (dCons (dVar 1) (dCons (dC (.int 2)) (dCons (dVar 4) (dCons (dVar 5) dNil))))) (dCons (dVar 7) dNil))))) (dNot (dTest (dCall WD dsp_law_are (dCons (dVar 1) (dCons (dVar 2) dNil)))))) (dRet (dC (.bl false))) dNext)))))))
    (dRet (dC (.bl true))))
theorem sim_law_settings {K : PySem.W.Frag} (W : WX) (WD : DW) : SimS K W WD (t_law_settings K W) (d_law_settings WD) := by
  unfold t_law_settings d_law_settings
  exact (sim_cut (sim_for (sim_rng1 (sim_cons (sim_callS (fun _ _ _ _ h => ad_law_take h) (sim_cons sim_var (sim_cons (sim_c fun _ _ => .int _) sim_nil))) sim_nil)) sim_gname (sim_seq (sim_asg (sim_op op_add (sim_c fun _ _ => .int _) (sim_callS (fun _ _ _ _ h => ad_law_take h) (sim_cons sim_var (sim_cons (sim_c fun _ _ => .int _) sim_nil)))) sim_gname)
      (sim_cut (sim_ifS (sim_and (sim_test (sim_op op_gt (sim_cb cb_lenR (sim_cons sim_var sim_nil)) (sim_c fun _ _ => .int _))) (sim_test (sim_op op_eq (sim_callS (fun _ _ _ _ h => ad_law_take h) (sim_cons sim_var (sim_cons (sim_c fun _ _ => .int _) sim_nil))) (sim_c fun _ _ => .int _)))) (sim_asg (sim_op op_ix (sim_cb cb_listK0 (sim_cons sim_var sim_nil)) (sim_callS (fun _ _ _ _ h => ad_law_take h) (sim_cons sim_var (sim_cons (sim_cb cb_lenR (sim_cons sim_var sim_nil)) sim_nil)))) sim_gname) sim_next)
      (sim_seq (sim_asg (sim_callS (fun _ _ _ _ h => ad_law_take h) (sim_cons sim_var (sim_cons (sim_c fun _ _ => .int _) sim_nil))) sim_gname)
      (sim_cut (sim_ifS (sim_test (sim_op op_eq (sim_callS (fun _ _ _ _ h => ad_law_take h) (sim_cons sim_var (sim_cons (sim_c fun _ _ => .int _) sim_nil))) (sim_c fun _ _ => .int _))) (sim_seq (sim_asg (sim_lst (sim_cons (sim_c fun _ _ => .int _) (sim_cons (sim_c fun _ _ => .int _) (sim_cons (sim_c fun _ _ => .int _) (sim_cons (sim_op op_add (sim_c fun _ _ => .int _) sim_var) (sim_cons (sim_op op_sub (sim_neg (sim_c fun _ _ => .int _)) sim_var) sim_nil)))))) sim_gname)
      (sim_asg (sim_op op_ix sim_var (sim_callS (fun _ _ _ _ h => ad_law_take h) (sim_cons sim_var (sim_cons (sim_c fun _ _ => .int _) sim_nil)))) sim_gname)) sim_next)
      (sim_cut (sim_ifS (sim_test (sim_op op_eq (sim_callS (fun _ _ _ _ h => ad_law_take h) (sim_cons sim_var (sim_cons (sim_c fun _ _ => .int _) sim_nil))) (sim_c fun _ _ => .int _))) (sim_seq (sim_asg (sim_callS (fun _ _ _ _ h => h) (sim_cons sim_var sim_nil)) sim_gname)
      (sim_asg (sim_lst (sim_cons (sim_c fun _ _ => .str _) (sim_cons sim_var (sim_cons (sim_c fun _ _ => .bl _) sim_nil)))) sim_gname)) (sim_ifS (sim_or (sim_test (sim_op op_lt sim_var (sim_c fun _ _ => .int _))) (sim_test (sim_op op_gt sim_var (sim_c fun _ _ => .int _)))) (sim_asg (sim_lst (sim_cons (sim_c fun _ _ => .str _) (sim_cons sim_var (sim_cons (sim_c fun _ _ => .bl _) sim_nil)))) sim_gname) (sim_seq (sim_asg (sim_lst (sim_cons (sim_c fun _ _ => .bl _) sim_nil)) sim_gname)
      (sim_seq (sim_asg sim_var (sim_gsub sim_var sim_var))
      (sim_ifS (sim_test (sim_op op_eq sim_var (sim_c fun _ _ => .int _))) (sim_drop (sim_dpop1 sim_var sim_var)) sim_next)))))
      (sim_ifS (sim_or (sim_not (sim_tB (sim_callS (fun _ _ _ _ h => ad_law_same h) (sim_cons (sim_callS (fun _ _ _ _ h => h) (sim_cons sim_var (sim_cons (sim_c fun _ _ => .int _) (sim_cons sim_var (sim_cons sim_var sim_nil))))) (sim_cons sim_var sim_nil))))) (sim_not (sim_tB (sim_callS (fun _ _ _ _ h => h) (sim_cons sim_var (sim_cons sim_var sim_nil)))))) (sim_ret (sim_c fun _ _ => .bl _)) sim_next)))))))
      (sim_ret (sim_c fun _ _ => .bl _)))
theorem StM.setS {S S' : Sto} {s n m t m' : Nat} {f g : Cnt} (h : StM S S' s n m t m' f g) {c : D} (ic : IsSrcD c) (h1 : s ≠ n) (h2 : s ≠ m') (h3 : s ≠ t) : StM S (S'.set s c) s n m t m' f g := by
  have st : Stay S' (S'.set s c) [s] := (Stay.refl S').mono (k := [s]) (fun x h => by cases h) |>.set List.mem_cons_self
  exact ⟨h.st.set List.mem_cons_self, h.src.set ic, h.mx.stay st (by simpa using Ne.symm h1) (by simpa using Ne.symm h2), h.tb.stay st (by simpa using Ne.symm h3), h.ok, h.sep⟩
theorem dpure_law_settings {ds : List D} {S : Sto} {Q : DQ} {E : DX} (h : dsp_law_settings ds S Q E) : d_law_settings (ExD S E) { nx := fun _ S' => RtD S Q .non S', rt := RtD S Q, b := S.length } (startD N_law_settings.length ds) S := by
  obtain ⟨x, y, w, rfl, s, n, m, t, f, rfl, rfl, rfl, hs, M, T, of, d1, d2, d3, d4, d5, d6, hq⟩ := h
  show d_law_settings _ _ [some (.hdl s), some (.hdl n), some (.hdl t), none, none, none, none, none] S
  unfold d_law_settings
  have ls := hs.lt
  have ln := lt_of_at M.1
  obtain ⟨L0, hT0, _⟩ := id T
  have lt := lt_of_at hT0
  have b0 : StM S S s n m t m f f := ⟨(Stay.refl S).mono fun x h => (by cases h), hs, M, T, of, .inl rfl⟩
  refine w_cut (fun ρ' S' => ∃ m' f', StM S S' s n m t m' f' f') ?_ ?_
  rotate_left
  · rintro ρ' S' ⟨m', f', h⟩
    walk_at "dd"
    exact rt_all (hq S' m' f' h)
  walk_at "dd"
  refine take_d hs (by decide) (by decide) fun c1 k ic1 k0 k9 => ?_
  refine ⟨k, rfl, by omega, by omega, ?_⟩
  refine ⟨fun i ρ' S' => ∃ (u4 u5 u6 u7 u3 : Option D) (m' : Nat) (f' : Cnt), ρ' = [some (.hdl s), some (.hdl n), some (.hdl t), u3, u4, u5, u6, u7] ∧ StM S S' s n m t m' f' f', ⟨none, none, none, none, none, m, f, rfl, b0.setS ic1 d1 d2 d3⟩, fun _ _ _ _ _ => trivial, ?_, fun ρ' S' ⟨_, _, _, _, _, m', f', _, h⟩ => ⟨m', f', h⟩⟩
  rintro i d ρ' S' hd ⟨u4, u5, u6, u7, u3, m', f', rfl, B⟩
  have d2 : s ≠ m' := by rcases B.sep with e | e <;> omega
  have d5 : m' ≠ t := by rcases B.sep with e | e <;> omega
  have d6 : n ≠ m' := by rcases B.sep with e | e <;> omega
  walk_at "dd"
  refine take_d B.src (by decide) (by decide) fun c2 a ic2 a0 a1 => ?_
  walk_at "dd"
  refine w_cut (fun ρ' S' => ∃ (z : Int) (u3 : Option D), ρ' = [some (.hdl s), some (.hdl n), some (.hdl t), u3, some (.int z), u5, u6, u7] ∧ 1 ≤ z ∧ z ≤ 999 ∧ StM S S' s n m t m' f' f') ?_ ?_
  · have B := B.setS ic2 d1 d2 d3
    obtain ⟨L, hT, nL, hL⟩ := B.tb
    walk_at "dd"
    refine .inr ⟨_, false, kvC f' L, rfl, rs_h hT, ?_⟩
    rw [kvC_len]
    walk_at "dd"
    by_cases h0 : ((L.length : Nat) : Int) > 0
    rotate_left
    · refine s_itF (decide_eq_false h0) ?_
      refine s_itF rfl ?_
      walk_at "dd"
      exact ⟨_, _, rfl, by omega, by omega, B⟩
    refine s_itT (decide_eq_true h0) ?_
    walk_at "dd"
    refine take_d B.src (by decide) (by decide) fun c8 b ic8 b0 b1 => ?_
    have B := B.setS ic8 d1 d2 d3
    have hT2 : ((S'.set s c2).set s c8)[t]? = some (.dic false (kvC f' L)) := by rw [List.getElem?_set_ne d3]; exact hT
    walk_at "dd"
    by_cases hb : b = 1
    rotate_left
    · refine s_itF (decide_eq_false hb) ?_
      walk_at "dd"
      exact ⟨_, _, rfl, by omega, by omega, B⟩
    refine s_itT (decide_eq_true hb) ?_
    walk_at "dd"
    refine ⟨t, _, rfl, hT2, ?_⟩
    rw [kvC_keys]
    unfold newAt
    walk_at "dd"
    refine .inr ⟨_, false, kvC f' L, rfl, rs_h hT2, ?_⟩
    rw [kvC_len]
    walk_at "dd"
    have lL := tb_len nL hL
    refine take_d B.src (by omega) (by omega) fun c9 j ic9 j0 j1 => ?_
    have B := B.setS ic9 d1 d2 d3
    obtain ⟨jn, rfl⟩ : ∃ q : Nat, j = (q : Int) := ⟨j.toNat, by omega⟩
    obtain ⟨z, ez⟩ : ∃ z, L[jn]? = some z := ⟨_, List.getElem?_eq_getElem (show jn < L.length by omega)⟩
    have hz := (mem_keysM.mp ((hL z).mp (List.mem_of_getElem? ez))).1
    refine w_ix (y := .int z) (ds := L.map .int) sq_l (atI_nat (by rw [List.getElem?_map, ez]; rfl)) ?_
    walk_at "dd"
    exact ⟨_, _, rfl, hz.1, hz.2, B⟩
  rintro ρ' S' ⟨z, u3, rfl, z1, z9, B⟩
  walk_at "dd"
  refine take_d B.src (by decide) (by decide) fun c3 cnt ic3 n0 n6 => ?_
  have B := B.setS ic3 d1 d2 d3
  walk_at "dd"
  refine w_cut (fun ρ' S' => ∃ (cnt : Int) (u6 : Option D), ρ' = [some (.hdl s), some (.hdl n), some (.hdl t), u3, some (.int z), some (.int cnt), u6, u7] ∧ StM S S' s n m t m' f' f') ?_ ?_
  · walk_at "dd"
    refine take_d B.src (by decide) (by decide) fun c4 b ic4 b0 b1 => ?_
    have B := B.setS ic4 d1 d2 d3
    walk_at "dd"
    by_cases hb : b = 1
    rotate_left
    · refine s_itF (decide_eq_false hb) ?_
      walk_at "dd"
      exact ⟨_, _, rfl, B⟩
    refine s_itT (decide_eq_true hb) ?_
    walk_at "dd"
    refine ⟨by rw [sizeLine_eq]; simp, ?_⟩
    walk_at "dd"
    refine take_d B.src (by decide) (by decide) fun c5 j ic5 j0 j5 => ?_
    have B := B.setS ic5 d1 d2 d3
    obtain ⟨y, hy⟩ : ∃ y : Int, atI [D.int 1, D.int 1000000, D.int 999999, D.int (1000001 + cnt), D.int (-1 - cnt)] j = some (.int y) := by
      rcases (by omega : j = 0 ∨ j = 1 ∨ j = 2 ∨ j = 3 ∨ j = 4) with rfl | rfl | rfl | rfl | rfl
      · exact ⟨_, rfl⟩
      · exact ⟨_, rfl⟩
      · exact ⟨_, rfl⟩
      · exact ⟨_, rfl⟩
      · exact ⟨_, rfl⟩
    refine w_ix (y := .int y) (ds := [D.int 1, D.int 1000000, D.int 999999, D.int (1000001 + cnt), D.int (-1 - cnt)]) (.inl rfl) hy ?_
    walk_at "dd"
    exact ⟨_, _, rfl, B⟩
  rintro ρ' S' ⟨cnt, u6, rfl, B⟩
  refine w_cut (fun ρ' S' => ∃ (z cnt : Int) (u6 : Option D) (due : D) (g : Cnt), ρ' = [some (.hdl s), some (.hdl n), some (.hdl t), u3, some (.int z), some (.int cnt), u6, some due] ∧ StM S S' s n m t m' f' g ∧ ((¬ (1 ≤ z ∧ z ≤ 999) ∧ due = numE z ∧ g = f') ∨ ((1 ≤ z ∧ z ≤ 999) ∧ ¬ (0 ≤ cnt ∧ cnt ≤ 1000000) ∧ due = cntE cnt ∧ g = f') ∨ ((1 ≤ z ∧ z ≤ 999) ∧ (0 ≤ cnt ∧ cnt ≤ 1000000) ∧ due = .lst [.bl true] ∧ g = updC f' z cnt))) ?_ ?_
  · walk_at "dd"
    refine take_d B.src (by decide) (by decide) fun c6 b ic6 b0 b6 => ?_
    have B := B.setS ic6 d1 d2 d3
    walk_at "dd"
    by_cases hb : b = 5
    · refine s_itT (decide_eq_true hb) ?_
      walk_at "dd"
      refine ⟨_, rfl, s, rfl, B.src, fun c7 z' ic7 hz' => ?_⟩
      have B := B.setS ic7 d1 d2 d3
      walk_at "dd"
      refine ⟨three_leM, ?_⟩
      walk_at "dd"
      exact ⟨_, _, _, _, f', rfl, B, .inl ⟨hz', rfl, rfl⟩⟩
    refine s_itF (decide_eq_false hb) ?_
    walk_at "dd"
    by_cases h1 : cnt < 0
    · refine s_itT (decide_eq_true h1) ?_
      refine s_itT rfl ?_
      walk_at "dd"
      refine ⟨three_leM, ?_⟩
      walk_at "dd"
      exact ⟨z, cnt, u6, cntE cnt, f', rfl, B, .inr (.inl ⟨⟨z1, z9⟩, by omega, rfl, rfl⟩)⟩
    refine s_itF (decide_eq_false h1) ?_
    walk_at "dd"
    by_cases h2 : cnt > 1000000
    · refine s_itT (decide_eq_true h2) ?_
      walk_at "dd"
      refine ⟨three_leM, ?_⟩
      walk_at "dd"
      exact ⟨z, cnt, u6, cntE cnt, f', rfl, B, .inr (.inl ⟨⟨z1, z9⟩, by omega, rfl, rfl⟩)⟩
    refine s_itF (decide_eq_false h2) ?_
    walk_at "dd"
    refine ⟨one_leM, ?_⟩
    walk_at "dd"
    obtain ⟨L, hT, nL, hL⟩ := B.tb
    have lL := tb_len nL hL
    refine .dic (key := .inl z) hT rfl (by rw [kvC_len, sizeLine_eq]; omega) ?_
    walk_at "dd"
    have hT1 : ∀ {d : D}, (S'.set s c6).length = ((S'.set s c6).set t d).length := fun {d} => (List.length_set ..).symm
    have lt2 := lt_of_at hT
    have up : ∀ {X : Sto} {g : Cnt}, (∀ i, i ≠ t → X[i]? = (S'.set s c6)[i]?) → X.length = (S'.set s c6).length → IsTb X t g → StM S X s n m t m' f' g := fun {X g} hX hl Tg => ⟨⟨by have := B.st.1; omega, fun i c e hi => by
      have it : i ≠ t := fun e => hi (by rw [e]; simp)
      rw [hX i it]
      exact B.st.2 i c e hi⟩, by
      obtain ⟨c, h1, h2⟩ := B.src
      exact ⟨c, by rw [hX s d3]; exact h1, h2⟩, ⟨by rw [hX n d4]; exact B.mx.1, by rw [hX m' d5]; exact B.mx.2⟩, Tg, B.ok, B.sep⟩
    by_cases h3 : cnt = 0
    · refine s_itT (decide_eq_true h3) ?_
      walk_at "dd"
      refine ⟨t, rfl, ⟨_, List.getElem?_set_self lt2⟩, ?_⟩
      walk_at "dd"
      refine ⟨_, .inl z, .int cnt, List.getElem?_set_self lt2, rfl, ?_, ?_⟩
      · rw [putC, getC, updC_at, if_pos]
        split
        · rename_i h; exact h
        · exact List.mem_append_right _ List.mem_cons_self
      rw [List.set_set]
      refine ⟨z, cnt, u6, .lst [.bl true], updC f' z cnt, rfl, up (fun i hi => List.getElem?_set_ne (Ne.symm hi)) (List.length_set ..) ?_, .inr (.inr ⟨⟨z1, z9⟩, ⟨by omega, by omega⟩, rfl, rfl⟩)⟩
      subst h3
      exact tb_drop nL hL (List.getElem?_set_self lt2)
    · refine s_itF (decide_eq_false h3) ?_
      walk_at "dd"
      exact ⟨z, cnt, u6, .lst [.bl true], updC f' z cnt, rfl, up (fun i hi => List.getElem?_set_ne (Ne.symm hi)) (List.length_set ..) (tb_put nL hL (by omega) z1 z9 (List.getElem?_set_self lt2)), .inr (.inr ⟨⟨z1, z9⟩, ⟨by omega, by omega⟩, rfl, rfl⟩)⟩
  rintro ρ' S' ⟨z, cnt, u6, due, g, rfl, B, hdue⟩
  walk_at "dd"
  refine ⟨_, _, _, _, rfl, .inr ⟨n, m', f', rfl, B.mx, B.ok, .inr (.inl ⟨z, cnt, rfl, rfl, rfl, fun h => ?_, fun h h2 => ?_, fun h h1 S2 m2 st2 hm2 M2 => ?_⟩)⟩⟩
  · rcases hdue with ⟨_, rfl, rfl⟩ | ⟨h2, _⟩ | ⟨h2, _⟩
    · walk_at "dd"
      refine same_d rfl rfl plain_numE fit_numE ?_
      walk_at "dd"
      refine s_itF rfl ?_
      walk_at "dd"
      refine ⟨_, _, rfl, n, m', t, g, rfl, rfl, B.mx, B.tb, B.ok, ?_⟩
      walk_at "dd"
      refine s_itF rfl ?_
      walk_at "dd"
      exact ⟨_, _, _, _, _, m', g, rfl, B⟩
    · exact absurd h2 h
    · exact absurd h2 h
  · rcases hdue with ⟨h1, _⟩ | ⟨_, _, rfl, rfl⟩ | ⟨_, h1, _⟩
    · exact absurd h h1
    · walk_at "dd"
      refine same_d rfl rfl plain_cntE fit_cntE ?_
      walk_at "dd"
      refine s_itF rfl ?_
      walk_at "dd"
      refine ⟨_, _, rfl, n, m', t, g, rfl, rfl, B.mx, B.tb, B.ok, ?_⟩
      walk_at "dd"
      refine s_itF rfl ?_
      walk_at "dd"
      exact ⟨_, _, _, _, _, m', g, rfl, B⟩
    · exact absurd h1 h2
  · rcases hdue with ⟨h2, _⟩ | ⟨_, h2, _⟩ | ⟨_, _, rfl, rfl⟩
    · exact absurd h h2
    · exact absurd h1 h2
    · have okU := B.ok.upd h.1 h.2 h1.1 h1.2
      have lS := B.st.1
      have B2 : StM S S2 s n m t m2 (updC f' z cnt) (updC f' z cnt) := ⟨(B.st).trans (st2.mono fun x hx => .inl (by rw [List.mem_singleton.mp hx]; simp)), src_stay B.src st2 (by simpa using d1), M2, B.tb.stay st2 (by simpa using Ne.symm d4), okU, .inr (by omega)⟩
      walk_at "dd"
      refine same_d rfl rfl (plain_lst (plain_cons plain_bl plain_nil)) ⟨by simp, fun e he => by rw [List.mem_singleton.mp he]; trivial⟩ ?_
      walk_at "dd"
      refine s_itF rfl ?_
      walk_at "dd"
      refine ⟨_, _, rfl, n, m2, t, updC f' z cnt, rfl, rfl, B2.mx, B2.tb, B2.ok, ?_⟩
      walk_at "dd"
      refine s_itF rfl ?_
      walk_at "dd"
      exact ⟨_, _, _, _, _, m2, _, rfl, B2⟩
theorem len_law_settings {K : PySem.W.Frag} {vs : List V} {H : Hp} {Q : VK} {E : XK} (h : sp_law_settings K vs H Q E) : vs.length = 3 := lift_len (fun _ _ _ _ h => DSp3.len h) h
theorem pure_law_settings {K : PySem.W.Frag} {vs : List V} {H : Hp} {Q : VK} {E : XK} (h : sp_law_settings K vs H Q E) : t_law_settings K (fun cls d _ H => E cls d H) { nx := fun _ H' => Q .non H', rt := Q } (start N_law_settings vs) H := lift_def (N := N_law_settings) (fun W WD => sim_law_settings W WD) (fun _ _ _ _ h => dpure_law_settings h) _ _ _ _ h
def dsp_law_sum : DSp := DSp2 fun x y S Q _ => ∃ (a b : Nat) (f g : Cnt), x = .hdl a ∧ y = .hdl b ∧ IsTb S a f ∧ IsTb S b g ∧ CntW f ∧ CntW g ∧ ∀ c, IsTb (S ++ [c]) S.length (addC f g) → Q (.hdl S.length) (S ++ [c])
abbrev sp_law_sum (K : PySem.W.Frag) : Sp := lift K dsp_law_sum
def N_law_sum : List PySem.Str := ["_law_one", "_law_two", "_law_table", "_law_number"]
def t_law_sum (K : PySem.W.Frag) (W : WX) : TS := (tSeq (tAsg tDNewK (gName 2))
    (tCut (tFor (iAnyP K (tOp (rAddP K) (tCB rListD (tCons (tVar 0) tNil)) (tCB rListD (tCons (tVar 1) tNil)))) (gName 3) (tAsg (tOp (rAddP K) (tDGet2 (tVar 0) (tVar 3) (tC (.int 0))) (tDGet2 (tVar 1) (tVar 3) (tC (.int 0)))) (gSub (tVar 2) (tVar 3) rSetP)))
    (tRet (tVar 2))))
def d_law_sum (WD : DW) : DS := (dSeq (dAsg dNewK (dgName 2))
    (dCut (dFor (dAny (dOp (dAdd false) (dCB (dListK0 false) (dCons (dVar 0) dNil)) (dCB (dListK0 false) (dCons (dVar 1) dNil)))) (dgName 3) (dAsg (dOp (dAdd false) (dDGet2 (dVar 0) (dVar 3) (dC (.int 0))) (dDGet2 (dVar 1) (dVar 3) (dC (.int 0)))) (dgSub (dVar 2) (dVar 3))))
    (dRet (dVar 2))))
theorem sim_law_sum {K : PySem.W.Frag} (W : WX) (WD : DW) : SimS K W WD (t_law_sum K W) (d_law_sum WD) := by
  unfold t_law_sum d_law_sum
  exact (sim_seq (sim_asg sim_newK sim_gname)
      (sim_cut (sim_for (sim_any (sim_op op_add (sim_cb cb_listK0 (sim_cons sim_var sim_nil)) (sim_cb cb_listK0 (sim_cons sim_var sim_nil)))) sim_gname (sim_asg (sim_op op_add (sim_dget2 sim_var sim_var (sim_c fun _ _ => .int _)) (sim_dget2 sim_var sim_var (sim_c fun _ _ => .int _))) (sim_gsub sim_var sim_var)))
      (sim_ret sim_var)))
theorem dpure_law_sum {ds : List D} {S : Sto} {Q : DQ} {E : DX} (h : dsp_law_sum ds S Q E) : d_law_sum (ExD S E) { nx := fun _ S' => RtD S Q .non S', rt := RtD S Q, b := S.length } (startD N_law_sum.length ds) S := by
  obtain ⟨x, y, rfl, a, b, f, g, rfl, rfl, ⟨L, ha, nL, hL⟩, ⟨P, hb, nP, hP⟩, of, og, hq⟩ := h
  show d_law_sum _ _ [some (.hdl a), some (.hdl b), none, none] S
  unfold d_law_sum
  have la := lt_of_at ha
  have lb := lt_of_at hb
  have lL := tb_len nL hL
  have lP := tb_len nP hP
  have ha2 : ∀ {d : D}, (S ++ [d])[a]? = some (.dic false (kvC f L)) := fun {d} => by rw [List.getElem?_append_left la]; exact ha
  have hb2 : ∀ {d : D}, (S ++ [d])[b]? = some (.dic false (kvC g P)) := fun {d} => by rw [List.getElem?_append_left lb]; exact hb
  have mem : ∀ n, n ∈ keysM (addC f g) ↔ n ∈ L ++ P := fun n => by
    rw [List.mem_append, hL, hP, mem_keysM, mem_keysM, mem_keysM]
    have := of.pos n
    have := og.pos n
    show _ ∧ 0 < f n + g n ↔ _
    omega
  walk_at "dd"
  refine w_cut (fun ρ' S' => (∃ u, ρ' = [some (.hdl a), some (.hdl b), some (.hdl S.length), u]) ∧ ∃ N : List Int, N.Nodup ∧ (∀ n, n ∈ N ↔ n ∈ L ++ P) ∧ S' = S ++ [.dic false (kvC (addC f g) N)]) ?_ ?_
  rotate_left
  · rintro ρ' S' ⟨⟨u, rfl⟩, N, nN, hN, rfl⟩
    walk_at "dd"
    exact rt_all (hq _ ⟨N, atL, nN, fun n => by rw [hN, mem]⟩)
  walk_at "dd"
  refine ⟨a, _, rfl, ha2, ?_⟩
  rw [kvC_keys]
  unfold newAt
  walk_at "dd"
  refine ⟨b, _, rfl, hb2, ?_⟩
  rw [kvC_keys]
  unfold newAt
  walk_at "dd"
  refine .lst (ds := L.map .int) (es := P.map .int) rfl rfl (by rw [List.length_map, List.length_map, sizeLine_eq]; omega) ?_
  rw [← List.map_append]
  unfold newAt
  refine .seq (ds := (L ++ P).map .int) sq_l ?_
  refine ⟨fun i ρ' S' => (∃ u, ρ' = [some (.hdl a), some (.hdl b), some (.hdl S.length), u]) ∧ ∃ N : List Int, N.Nodup ∧ (∀ n, n ∈ N ↔ n ∈ (L ++ P).take i) ∧ N.length ≤ i ∧ S' = S ++ [.dic false (kvC (addC f g) N)], ⟨⟨none, rfl⟩, [], List.nodup_nil, fun n => Iff.rfl, Nat.le_refl _, rfl⟩, fun _ _ _ _ _ => sq_l, ?_, ?_⟩
  · rintro i d ρ' S' hd ⟨⟨u, rfl⟩, N, nN, hN, lN, rfl⟩
    obtain ⟨n, en, rfl⟩ := map_at (show ((L ++ P).map D.int)[i]? = some d from hd)
    have hi := (List.getElem?_eq_some_iff.mp en).1
    rw [List.length_append] at hi
    walk_at "dd"
    refine ⟨⟨_, _, rs_h ha2⟩, ?_⟩
    walk_at "dd"
    refine ⟨_, _, .inl n, rs_h ha2, rfl, ?_⟩
    rw [getC_D fun h => of.zero fun q => h ((hL n).mpr q)]
    walk_at "dd"
    refine ⟨⟨_, _, rs_h hb2⟩, ?_⟩
    walk_at "dd"
    refine ⟨_, _, .inl n, rs_h hb2, rfl, ?_⟩
    rw [getC_D fun h => og.zero fun q => h ((hP n).mpr q)]
    walk_at "dd"
    refine .dic (key := .inl n) atL rfl (by rw [kvC_len, sizeLine_eq]; omega) ?_
    refine ⟨⟨_, rfl⟩, if n ∈ N then N else N ++ [n], ?_, fun x => ?_, ?_, ?_⟩
    · split
      · exact nN
      · rename_i h
        rw [List.nodup_append]
        exact ⟨nN, List.pairwise_singleton _ _, fun x hx y hy e => h (by rw [← List.mem_singleton.mp hy, ← e]; exact hx)⟩
    · rw [take_at en, List.mem_append, ← hN, List.mem_singleton]
      split
      · rename_i h
        exact ⟨.inl, fun e => e.elim id fun e => by rw [e]; exact h⟩
      · rw [List.mem_append, List.mem_singleton]
    · split
      · omega
      · rw [List.length_append]; simp; omega
    · rw [setL, putC]
      congr 3
      exact kvC_congr fun x _ => by
        by_cases e : x = n
        · subst e; exact updC_at
        · exact updC_ne e
  · rintro ρ' S' ⟨hr, N, nN, hN, _, rfl⟩
    rw [show (⟨(L ++ P).map D.int, fun S' => Sq S' (D.lst ((L ++ P).map D.int)) ((L ++ P).map D.int)⟩ : IS).items.length = (L ++ P).length from List.length_map .., List.take_length] at hN
    exact ⟨hr, N, nN, hN, rfl⟩
theorem len_law_sum {K : PySem.W.Frag} {vs : List V} {H : Hp} {Q : VK} {E : XK} (h : sp_law_sum K vs H Q E) : vs.length = 2 := lift_len (fun _ _ _ _ h => DSp2.len h) h
theorem pure_law_sum {K : PySem.W.Frag} {vs : List V} {H : Hp} {Q : VK} {E : XK} (h : sp_law_sum K vs H Q E) : t_law_sum K (fun cls d _ H => E cls d H) { nx := fun _ H' => Q .non H', rt := Q } (start N_law_sum vs) H := lift_def (N := N_law_sum) (fun W WD => sim_law_sum W WD) (fun _ _ _ _ h => dpure_law_sum h) _ _ _ _ h
def dsp_law_times : DSp := DSp2 fun x y S Q _ => ∃ (a : Nat) (f : Cnt) (k : Int), x = .hdl a ∧ y = .int k ∧ IsTb S a f ∧ CntOk f ∧ (∀ c, 0 ≤ k → IsTb (S ++ [c]) S.length (timesC f k) → Q (.hdl S.length) (S ++ [c])) ∧ (k < 0 → Q (.hdl S.length) (S ++ [.dic false []]))
abbrev sp_law_times (K : PySem.W.Frag) : Sp := lift K dsp_law_times
def N_law_times : List PySem.Str := ["_law_table", "_law_factor", "_law_result", "_law_number"]
def t_law_times (K : PySem.W.Frag) (W : WX) : TS := (tSeq (tAsg tDNewK (gName 2))
    (tCut (tIfS (tTest (tOp rGtP (tVar 1) (tC (.int 0)))) (tFor (iAnyP K (tCB rListD (tCons (tVar 0) tNil))) (gName 3) (tAsg (tOp rMulP (tDGet (tVar 0) (tVar 3)) (tVar 1)) (gSub (tVar 2) (tVar 3) rSetP))) tNext)
    (tRet (tVar 2))))
def d_law_times (WD : DW) : DS := (dSeq (dAsg dNewK (dgName 2))
    (dCut (dIfS (dTest (dOp dGt (dVar 1) (dC (.int 0)))) (dFor (dAny (dCB (dListK0 false) (dCons (dVar 0) dNil))) (dgName 3) (dAsg (dOp dMul (dDGet (dVar 0) (dVar 3)) (dVar 1)) (dgSub (dVar 2) (dVar 3)))) dNext)
    (dRet (dVar 2))))
theorem sim_law_times {K : PySem.W.Frag} (W : WX) (WD : DW) : SimS K W WD (t_law_times K W) (d_law_times WD) := by
  unfold t_law_times d_law_times
  exact (sim_seq (sim_asg sim_newK sim_gname)
      (sim_cut (sim_ifS (sim_test (sim_op op_gt sim_var (sim_c fun _ _ => .int _))) (sim_for (sim_any (sim_cb cb_listK0 (sim_cons sim_var sim_nil))) sim_gname (sim_asg (sim_op op_mul (sim_dget sim_var sim_var) sim_var) (sim_gsub sim_var sim_var))) sim_next)
      (sim_ret sim_var)))
theorem dpure_law_times {ds : List D} {S : Sto} {Q : DQ} {E : DX} (h : dsp_law_times ds S Q E) : d_law_times (ExD S E) { nx := fun _ S' => RtD S Q .non S', rt := RtD S Q, b := S.length } (startD N_law_times.length ds) S := by
  obtain ⟨x, y, rfl, a, f, k, rfl, rfl, ⟨L, ha, nL, hL⟩, of, hq, h0⟩ := h
  show d_law_times _ _ [some (.hdl a), some (.int k), none, none] S
  unfold d_law_times
  have la := lt_of_at ha
  have lL := tb_len nL hL
  have ha2 : ∀ {d : D}, (S ++ [d])[a]? = some (.dic false (kvC f L)) := fun {d} => by rw [List.getElem?_append_left la]; exact ha
  walk_at "dd"
  by_cases hk : k > 0
  rotate_left
  · refine w_nocut ?_
    walk_at "dd"
    refine s_itF (decide_eq_false hk) ?_
    walk_at "dd"
    by_cases hn : k < 0
    · exact rt_all (h0 hn)
    · have e : k = 0 := by omega
      subst e
      exact rt_all (hq _ (Int.le_refl _) ⟨[], atL, List.nodup_nil, fun n => by
        rw [keysM_zero (f := timesC f 0) fun n => Int.mul_zero _]⟩)
  refine w_cut (fun ρ' S' => (∃ u, ρ' = [some (.hdl a), some (.int k), some (.hdl S.length), u]) ∧ S' = S ++ [.dic false (kvC (timesC f k) L)]) ?_ ?_
  rotate_left
  · rintro ρ' S' ⟨⟨u, rfl⟩, rfl⟩
    walk_at "dd"
    refine rt_all (hq _ (by omega) ⟨L, atL, nL, fun n => ?_⟩)
    rw [hL, mem_keysM, mem_keysM]
    have h1 := of.pos n
    have h2 : timesC f k n = f n * k := rfl
    rw [h2]
    constructor
    · rintro ⟨h, h3⟩
      exact ⟨h, Int.mul_pos h3 hk⟩
    · rintro ⟨h, h3⟩
      refine ⟨h, ?_⟩
      by_cases e : f n = 0
      · rw [e, Int.zero_mul] at h3; omega
      · omega
  walk_at "dd"
  refine s_itT (decide_eq_true hk) ?_
  walk_at "dd"
  refine ⟨a, _, rfl, ha2, ?_⟩
  rw [kvC_keys]
  unfold newAt
  refine .seq (ds := L.map .int) sq_l ?_
  refine ⟨fun i ρ' S' => (∃ u, ρ' = [some (.hdl a), some (.int k), some (.hdl S.length), u]) ∧ S' = S ++ [.dic false (kvC (timesC f k) (L.take i))], ⟨⟨none, rfl⟩, rfl⟩, fun _ _ _ _ _ => sq_l, ?_, ?_⟩
  · rintro i d ρ' S' hd ⟨⟨u, rfl⟩, rfl⟩
    obtain ⟨n, en, rfl⟩ := map_at (show (L.map D.int)[i]? = some d from hd)
    have hn := List.mem_of_getElem? en
    walk_at "dd"
    refine ⟨false, kvC f L, .inl n, .int (f n), rs_h ha2, rfl, by rw [getC, if_pos hn], ?_⟩
    walk_at "dd"
    refine ⟨_, _, rfl, rfl, .inl (.inl ⟨by have := of.pos n; omega, by have := of.le n; omega⟩), ?_⟩
    walk_at "dd"
    refine .dic (key := .inl n) atL rfl (by rw [kvC_len, sizeLine_eq]; have := List.length_take_le' i L; omega) ?_
    refine ⟨⟨_, rfl⟩, ?_⟩
    rw [setL, take_at en]
    congr 3
    exact putC_self (g := timesC f k) (nd_take nL en)
  · rintro ρ' S' ⟨hr, rfl⟩
    rw [show (⟨L.map D.int, fun S' => Sq S' (D.lst (L.map D.int)) (L.map D.int)⟩ : IS).items.length = L.length from List.length_map .., List.take_length]
    exact ⟨hr, rfl⟩
theorem len_law_times {K : PySem.W.Frag} {vs : List V} {H : Hp} {Q : VK} {E : XK} (h : sp_law_times K vs H Q E) : vs.length = 2 := lift_len (fun _ _ _ _ h => DSp2.len h) h
theorem pure_law_times {K : PySem.W.Frag} {vs : List V} {H : Hp} {Q : VK} {E : XK} (h : sp_law_times K vs H Q E) : t_law_times K (fun cls d _ H => E cls d H) { nx := fun _ H' => Q .non H', rt := Q } (start N_law_times vs) H := lift_def (N := N_law_times) (fun W WD => sim_law_times W WD) (fun _ _ _ _ h => dpure_law_times h) _ _ _ _ h
def dsp_law_over : DSp := DSp1 fun x S Q _ => ∃ (a : Nat) (f : Cnt), x = .hdl a ∧ IsTb S a f ∧ Q (.int (overV f)) S
abbrev sp_law_over (K : PySem.W.Frag) : Sp := lift K dsp_law_over
def N_law_over : List PySem.Str := ["_law_table", "_law_number", "_law_each"]
def t_law_over (K : PySem.W.Frag) (W : WX) : TS := (tCut (tFor (iAnyP K (tCB (rSortAny K) (tCons (tLc (iAnyP K (tCB rListD (tCons (tVar 0) tNil))) (gName 2) tYes (tCB rIntP (tCons (tVar 2) tNil)) [2]) tNil))) (gName 1) (tIfS (tTest (tOp rGtP (tDGet (tVar 0) (tVar 1)) (tC (.int 1000000)))) (tRet (tDGet (tVar 0) (tVar 1))) tNext))
    (tRet (tC (.int 0))))
def d_law_over (WD : DW) : DS := (dCut (dFor (dAny (dCB (dSortI false) (dCons (dLc false (dAny (dCB (dListK0 false) (dCons (dVar 0) dNil))) (dgName 2) dYes (dCB dInt (dCons (dVar 2) dNil)) [2]) dNil))) (dgName 1) (dIfS (dTest (dOp dGt (dDGet (dVar 0) (dVar 1)) (dC (.int 1000000)))) (dRet (dDGet (dVar 0) (dVar 1))) dNext))
    (dRet (dC (.int 0))))
theorem sim_law_over {K : PySem.W.Frag} (W : WX) (WD : DW) : SimS K W WD (t_law_over K W) (d_law_over WD) := by
  unfold t_law_over d_law_over
  exact (sim_cut (sim_for (sim_any (sim_cb cb_sortI (sim_cons (sim_lc (sim_any (sim_cb cb_listK0 (sim_cons sim_var sim_nil))) (simv_gname (by decide)) sim_yes (sim_cb cb_int (sim_cons sim_var sim_nil))) sim_nil))) sim_gname (sim_ifS (sim_test (sim_op op_gt (sim_dget sim_var sim_var) (sim_c fun _ _ => .int _))) (sim_ret (sim_dget sim_var sim_var)) sim_next))
      (sim_ret (sim_c fun _ _ => .int _)))
theorem dpure_law_over {ds : List D} {S : Sto} {Q : DQ} {E : DX} (h : dsp_law_over ds S Q E) : d_law_over (ExD S E) { nx := fun _ S' => RtD S Q .non S', rt := RtD S Q, b := S.length } (startD N_law_over.length ds) S := by
  obtain ⟨x, rfl, a, f, rfl, ⟨L, ha, nL, hL⟩, hq⟩ := h
  show d_law_over _ _ [some (.hdl a), none, none] S
  unfold d_law_over
  have lL := tb_len nL hL
  refine w_cut (fun ρ' S' => S = S' ∧ overM f 1000000 = none) ?_ ?_
  rotate_left
  · rintro ρ' S' ⟨rfl, hn⟩
    walk_at "dd"
    unfold overV at hq
    rw [hn] at hq
    exact rt_same lt_int hq
  walk_at "dd"
  refine ⟨a, _, rfl, ha, ?_⟩
  rw [kvC_keys]
  unfold newAt
  walk_at "dd"
  refine .seq (ds := L.map .int) sq_l ?_
  refine lcd_map L .int .int rfl (by omega) sq_l (fun n hn Q2 q2 => ?_) ?_
  · walk_at "dd"
    exact q2
  walk_at "dd"
  refine ⟨_, L, rfl, rfl, fun ys hp hs => ?_⟩
  have ey := sort_keys hp hs nL hL
  subst ey
  unfold newAt
  refine .seq (ds := (keysM f).map .int) sq_l ?_
  refine ⟨fun i ρ' S' => (∃ u, ρ' = [some (.hdl a), u, none]) ∧ S = S' ∧ ((keysM f).take i).find? (fun n => decide (1000000 < f n)) = none, ⟨⟨none, rfl⟩, rfl, rfl⟩, fun _ _ _ _ _ => sq_l, ?_, ?_⟩
  · rintro i d ρ' S' hd ⟨⟨u, rfl⟩, rfl, hn⟩
    obtain ⟨n, en, rfl⟩ := map_at (show ((keysM f).map D.int)[i]? = some d from hd)
    obtain ⟨f1, f2⟩ := find_snoc en hn
    have hget : getK (kvC f L) (.inl n) = some (.int (f n)) := by rw [getC, if_pos ((hL n).mpr (List.mem_of_getElem? en))]
    walk_at "dd"
    refine ⟨false, kvC f L, .inl n, .int (f n), rs_h ha, rfl, hget, ?_⟩
    walk_at "dd"
    by_cases h : f n > 1000000
    · refine s_itT (decide_eq_true h) ?_
      walk_at "dd"
      refine ⟨false, kvC f L, .inl n, .int (f n), rs_h ha, rfl, hget, ?_⟩
      unfold overV overM at hq
      rw [f1 (decide_eq_true h)] at hq
      exact rt_same lt_int hq
    · refine s_itF (decide_eq_false h) ?_
      walk_at "dd"
      exact ⟨⟨_, rfl⟩, rfl, f2 (decide_eq_false h)⟩
  · rintro ρ' S' ⟨_, rfl, hn⟩
    rw [show (⟨(keysM f).map D.int, fun S' => Sq S' (D.lst ((keysM f).map D.int)) ((keysM f).map D.int)⟩ : IS).items.length = (keysM f).length from List.length_map .., List.take_length] at hn
    exact ⟨rfl, hn⟩
theorem len_law_over {K : PySem.W.Frag} {vs : List V} {H : Hp} {Q : VK} {E : XK} (h : sp_law_over K vs H Q E) : vs.length = 1 := lift_len (fun _ _ _ _ h => DSp1.len h) h
theorem pure_law_over {K : PySem.W.Frag} {vs : List V} {H : Hp} {Q : VK} {E : XK} (h : sp_law_over K vs H Q E) : t_law_over K (fun cls d _ H => E cls d H) { nx := fun _ H' => Q .non H', rt := Q } (start N_law_over vs) H := lift_def (N := N_law_over) (fun W WD => sim_law_over W WD) (fun _ _ _ _ h => dpure_law_over h) _ _ _ _ h
def dsp_law_added : DSp := DSp4 fun x y w u S Q _ => ∃ (n m t n2 m2 t2 : Nat) (f g : Cnt), x = .hdl n ∧ y = .hdl t ∧ w = .hdl n2 ∧ u = .hdl t2 ∧ IsMx S n m f ∧ IsTb S t f ∧ IsMx S n2 m2 g ∧ IsTb S t2 g ∧ CntOk f ∧ CntOk g ∧ ∀ S', Stay S S' [] → Q (.bl true) S'
abbrev sp_law_added (K : PySem.W.Frag) : Sp := lift K dsp_law_added
def N_law_added : List PySem.Str := ["_law_mixture", "_law_table", "_law_other", "_law_two", "_law_due", "_law_over_here", "_law_way"]
def t_law_added (K : PySem.W.Frag) (W : WX) : TS := (tSeq (tAsg (tCallS (sp_law_sum K) (WE W) (tCons (tVar 1) (tCons (tVar 3) tNil))) (gName 4))
    (tSeq (tAsg (tCallS (sp_law_over K) (WE W) (tCons (tVar 4) tNil)) (gName 5))
    (tCut (tIfS (tTest (tOp rGtP (tVar 5) (tC (.int 0)))) (tFor (iAnyP K (tLst (tCons (tC (.int 5)) (tCons (tC (.int 6)) tNil)))) (gName 6) (tIfS (tNot (tB (tCallS (sp_law_same K) (WE W) (tCons (tCallS (sp_law_error K) (WE W) (tCons (tVar 0) (tCons (tVar 6) (tCons (tVar 2) (tCons (tC (.int 0)) tNil))))) (tCons (tLst (tCons (tC (.str "count")) (tCons (tVar 5) (tCons (tC (.bl true)) tNil)))) tNil))))) (tRet (tC (.bl false))) tNext)) (tIfS (tNot (tB (tCallS (sp_law_are K) (WE W) (tCons (Cl.tOpS (Cl.rOwn2 [(ga K "Mixture", sp_Mixture_add K)] (WE W) (rAddP K)) (tVar 0) (tVar 2)) (tCons (tVar 4) tNil))))) (tRet (tC (.bl false))) tNext))
    (tRet (tAndV (tCallS (sp_law_are K) (WE W) (tCons (tVar 0) (tCons (tVar 1) tNil))) (tCallS (sp_law_are K) (WE W) (tCons (tVar 2) (tCons (tVar 3) tNil))))))))
def d_law_added (WD : DW) : DS := (dSeq (dAsg (dCall WD dsp_law_sum (dCons (dVar 1) (dCons (dVar 3) dNil))) (dgName 4))
    (dSeq (dAsg (dCall WD dsp_law_over (dCons (dVar 4) dNil)) (dgName 5))
    (dCut (dIfS (dTest (dOp dGt (dVar 5) (dC (.int 0)))) (dFor (dAny (dLst false (dCons (dC (.int 5)) (dCons (dC (.int 6)) dNil)))) (dgName 6) (dIfS (dNot (dTest (dCall WD dsp_law_same (dCons (dCall WD dsp_law_error (dCons (dVar 0) (dCons (dVar 6) (dCons (dVar 2) (dCons (dC (.int 0)) dNil))))) (dCons (dLst false (dCons (dC (.str "count")) (dCons (dVar 5) (dCons (dC (.bl true)) dNil)))) dNil))))) (dRet (dC (.bl false))) dNext)) (dIfS (dNot (dTest (dCall WD dsp_law_are (dCons (dOpS (dOwn2 (edW WD) [("Mixture", dsp_Mixture_add)] (dAdd false)) (dVar 0) (dVar 2)) (dCons (dVar 4) dNil))))) (dRet (dC (.bl false))) dNext))
    (dRet (dAndV (dCall WD dsp_law_are (dCons (dVar 0) (dCons (dVar 1) dNil))) (dCall WD dsp_law_are (dCons (dVar 2) (dCons (dVar 3) dNil))))))))
theorem sim_law_added {K : PySem.W.Frag} (W : WX) (WD : DW) : SimS K W WD (t_law_added K W) (d_law_added WD) := by
  unfold t_law_added d_law_added
  exact (sim_seq (sim_asg (sim_callS (fun _ _ _ _ h => h) (sim_cons sim_var (sim_cons sim_var sim_nil))) sim_gname)
      (sim_seq (sim_asg (sim_callS (fun _ _ _ _ h => h) (sim_cons sim_var sim_nil)) sim_gname)
      (sim_cut (sim_ifS (sim_test (sim_op op_gt sim_var (sim_c fun _ _ => .int _))) (sim_for (sim_any (sim_lst (sim_cons (sim_c fun _ _ => .int _) (sim_cons (sim_c fun _ _ => .int _) sim_nil)))) sim_gname (sim_ifS (sim_not (sim_tB (sim_callS (fun _ _ _ _ h => ad_law_same h) (sim_cons (sim_callS (fun _ _ _ _ h => h) (sim_cons sim_var (sim_cons sim_var (sim_cons sim_var (sim_cons (sim_c fun _ _ => .int _) sim_nil))))) (sim_cons (sim_lst (sim_cons (sim_c fun _ _ => .str _) (sim_cons sim_var (sim_cons (sim_c fun _ _ => .bl _) sim_nil)))) sim_nil))))) (sim_ret (sim_c fun _ _ => .bl _)) sim_next)) (sim_ifS (sim_not (sim_tB (sim_callS (fun _ _ _ _ h => h) (sim_cons (sim_opS (ops_own2 (.cons (fun _ _ _ _ h => h) .nil) eo_w op_add) sim_var sim_var) (sim_cons sim_var sim_nil))))) (sim_ret (sim_c fun _ _ => .bl _)) sim_next))
      (sim_ret (sim_andV (sim_callS (fun _ _ _ _ h => h) (sim_cons sim_var (sim_cons sim_var sim_nil))) (sim_callS (fun _ _ _ _ h => h) (sim_cons sim_var (sim_cons sim_var sim_nil))))))))
theorem dpure_law_added {ds : List D} {S : Sto} {Q : DQ} {E : DX} (h : dsp_law_added ds S Q E) : d_law_added (ExD S E) { nx := fun _ S' => RtD S Q .non S', rt := RtD S Q, b := S.length } (startD N_law_added.length ds) S := by
  obtain ⟨x, y, w, u, rfl, n, m, t, n2, m2, t2, f, g, rfl, rfl, rfl, rfl, M, T, M2, T2, of, og, hq⟩ := h
  show d_law_added _ _ [some (.hdl n), some (.hdl t), some (.hdl n2), some (.hdl t2), none, none, none] S
  unfold d_law_added
  walk_at "dd"
  refine ⟨_, _, rfl, t, t2, f, g, rfl, rfl, T, T2, of.w, og.w, fun c Td => ?_⟩
  have st : Stay S (S ++ [c]) [] := (Stay.refl S).app _
  have M := M.stay st (by simp) (by simp)
  have T := T.stay st (by simp)
  have M2 := M2.stay st (by simp) (by simp)
  have T2 := T2.stay st (by simp)
  have fin : ∀ {S'}, Stay S S' [] → RtD S Q (.bl true) S' := fun st => rt_all (hq _ st)
  generalize S ++ [c] = S1 at st M T M2 T2 Td ⊢
  generalize S.length = r at Td ⊢
  walk_at "dd"
  refine ⟨_, rfl, r, _, rfl, Td, ?_⟩
  walk_at "dd"
  have same : ∀ {S' : Sto} {ρ : Rho}, Stay S S' [] → IsMx S' n m f → IsTb S' t f → IsMx S' n2 m2 g → IsTb S' t2 g → ρ = [some (.hdl n), some (.hdl t), some (.hdl n2), some (.hdl t2), some (.hdl r), some (.int (overV (addC f g))), ρ.getD 6 none] → dRet (dAndV (dCall (ExD S E) dsp_law_are (dCons (dVar 0) (dCons (dVar 1) dNil))) (dCall (ExD S E) dsp_law_are (dCons (dVar 2) (dCons (dVar 3) dNil)))) { nx := fun _ S' => RtD S Q .non S', rt := RtD S Q, b := S.length } ρ S' := fun {S' ρ} st M T M2 T2 e => by
    rw [e]
    walk_at "dd"
    refine ⟨_, _, rfl, n, m, t, f, rfl, rfl, M, T, of, ?_⟩
    walk_at "dd"
    refine ⟨_, rfl, ?_⟩
    walk_at "dd"
    exact ⟨_, _, rfl, n2, m2, t2, g, rfl, rfl, M2, T2, og, fin st⟩
  cases ho : overM (addC f g) 1000000 with
  | some k =>
    have hk := over_gt ho
    have ev : overV (addC f g) = f k + g k := by unfold overV; rw [ho]; rfl
    have hk : (1000000 : Int) < f k + g k := hk
    refine w_cut (fun ρ' S' => S1 = S' ∧ ∃ v, ρ' = [some (.hdl n), some (.hdl t), some (.hdl n2), some (.hdl t2), some (.hdl r), some (.int (overV (addC f g))), v]) ?_ ?_
    rotate_left
    · rintro ρ' S' ⟨rfl, v, rfl⟩
      exact same st M T M2 T2 rfl
    walk_at "dd"
    refine s_itT (decide_eq_true (by rw [ev]; omega)) ?_
    walk_at "dd"
    refine ⟨two_leM, ?_⟩
    walk_at "dd"
    refine .seq (ds := [5, 6].map .int) sq_l ?_
    refine ⟨fun i ρ' S' => S1 = S' ∧ ∃ v, ρ' = [some (.hdl n), some (.hdl t), some (.hdl n2), some (.hdl t2), some (.hdl r), some (.int (overV (addC f g))), v], ⟨rfl, _, rfl⟩, fun _ _ _ _ _ => sq_l, ?_, fun ρ' S' h => h⟩
    rintro i d ρ' S' hd ⟨rfl, v, rfl⟩
    obtain ⟨way, ew, rfl⟩ := map_at (show ([5, 6].map D.int)[i]? = some d from hd)
    have hw := List.mem_of_getElem? ew
    simp only [List.mem_cons, List.not_mem_nil, or_false] at hw
    walk_at "dd"
    refine ⟨_, _, _, _, rfl, .inr ⟨n, m, f, rfl, M, of, .inr (.inr (.inr ⟨n2, m2, g, k, ?_, rfl, M2, og, ho, ?_⟩))⟩⟩
    · rcases hw with rfl | rfl
      · exact .inl rfl
      · exact .inr rfl
    rw [ev]
    walk_at "dd"
    refine ⟨three_leM, ?_⟩
    walk_at "dd"
    refine same_d rfl rfl plain_cntE fit_cntE ?_
    walk_at "dd"
    refine s_itF rfl ?_
    walk_at "dd"
    exact ⟨rfl, _, rfl⟩
  | none =>
    have ev : overV (addC f g) = 0 := by unfold overV; rw [ho]
    refine w_cut (fun ρ' S' => Stay S S' [] ∧ IsMx S' n m f ∧ IsTb S' t f ∧ IsMx S' n2 m2 g ∧ IsTb S' t2 g ∧ ∃ v, ρ' = [some (.hdl n), some (.hdl t), some (.hdl n2), some (.hdl t2), some (.hdl r), some (.int (overV (addC f g))), v]) ?_ ?_
    rotate_left
    · rintro ρ' S' ⟨st, M, T, M2, T2, v, rfl⟩
      exact same st M T M2 T2 rfl
    walk_at "dd"
    refine s_itF (decide_eq_false (by rw [ev]; decide)) ?_
    walk_at "dd"
    refine .inr ⟨"Mixture", _, _, dsp_Mixture_add, rs_h M.1, rs_h M2.1, List.mem_cons_self, ?_⟩
    refine ⟨_, _, rfl, n, m, n2, m2, f, g, rfl, rfl, M, M2, of, og, fun k hk => (by rw [ho] at hk; cases hk), fun _ => ?_⟩
    have st2 : Stay S1 (S1 ++ [.dic false (kvM (addC f g)), mxO S1.length]) [] := (Stay.refl S1).app _
    have Ma : IsMx (S1 ++ [.dic false (kvM (addC f g)), mxO S1.length]) (S1.length + 1) S1.length (addC f g) := ⟨at2_1, at2_0⟩
    have Td := Td.stay st2 (by simp)
    have M := M.stay st2 (by simp) (by simp)
    have T := T.stay st2 (by simp)
    have M2 := M2.stay st2 (by simp) (by simp)
    have T2 := T2.stay st2 (by simp)
    have st := st.trans st2
    generalize S1 ++ [.dic false (kvM (addC f g)), mxO S1.length] = S2 at Ma Td M T M2 T2 st ⊢
    walk_at "dd"
    refine ⟨_, _, rfl, _, _, r, addC f g, rfl, rfl, Ma, Td, add_ok of.w og.w ho, ?_⟩
    walk_at "dd"
    refine s_itF rfl ?_
    walk_at "dd"
    exact ⟨st, M, T, M2, T2, _, rfl⟩
theorem len_law_added {K : PySem.W.Frag} {vs : List V} {H : Hp} {Q : VK} {E : XK} (h : sp_law_added K vs H Q E) : vs.length = 4 := lift_len (fun _ _ _ _ h => DSp4.len h) h
theorem pure_law_added {K : PySem.W.Frag} {vs : List V} {H : Hp} {Q : VK} {E : XK} (h : sp_law_added K vs H Q E) : t_law_added K (fun cls d _ H => E cls d H) { nx := fun _ H' => Q .non H', rt := Q } (start N_law_added vs) H := lift_def (N := N_law_added) (fun W WD => sim_law_added W WD) (fun _ _ _ _ h => dpure_law_added h) _ _ _ _ h
def dsp_law_multiplied : DSp := DSp3 fun x y w S Q _ => ∃ (n m t : Nat) (f : Cnt) (k : Int), x = .hdl n ∧ y = .hdl t ∧ w = .int k ∧ IsMx S n m f ∧ IsTb S t f ∧ CntOk f ∧ ∀ S', Stay S S' [] → Q (.bl true) S'
abbrev sp_law_multiplied (K : PySem.W.Frag) : Sp := lift K dsp_law_multiplied
def N_law_multiplied : List PySem.Str := ["_law_mixture", "_law_table", "_law_factor", "_law_due", "_law_over_here", "_law_way"]
def t_law_multiplied (K : PySem.W.Frag) (W : WX) : TS := (tSeq (tAsg (tCallS (sp_law_times K) (WE W) (tCons (tVar 1) (tCons (tVar 2) tNil))) (gName 3))
    (tSeq (tAsg (tCallS (sp_law_over K) (WE W) (tCons (tVar 3) tNil)) (gName 4))
    (tCut (tIfS (tTest (tOp rLtP (tVar 2) (tC (.int 0)))) (tAsg (tVar 2) (gName 4)) tNext)
    (tCut (tIfS (tTest (tOp (rNeP K) (tVar 4) (tC (.int 0)))) (tFor (iAnyP K (tLst (tCons (tC (.int 3)) (tCons (tC (.int 4)) tNil)))) (gName 5) (tIfS (tNot (tB (tCallS (sp_law_same K) (WE W) (tCons (tCallS (sp_law_error K) (WE W) (tCons (tVar 0) (tCons (tVar 5) (tCons (tVar 2) (tCons (tC (.int 0)) tNil))))) (tCons (tLst (tCons (tC (.str "count")) (tCons (tVar 4) (tCons (tC (.bl true)) tNil)))) tNil))))) (tRet (tC (.bl false))) tNext)) (tIfS (tOr (tNot (tB (tCallS (sp_law_are K) (WE W) (tCons (Cl.tOpS (Cl.rMix [(ga K "Mixture", sp_Mixture_mul K, sp_Mixture_rmul K)] (WE W) rMulP) (tVar 0) (tVar 2)) (tCons (tVar 3) tNil))))) (tNot (tB (tCallS (sp_law_are K) (WE W) (tCons (Cl.tOpS (Cl.rMix [(ga K "Mixture", sp_Mixture_mul K, sp_Mixture_rmul K)] (WE W) rMulP) (tVar 2) (tVar 0)) (tCons (tVar 3) tNil)))))) (tRet (tC (.bl false))) tNext))
    (tRet (tCallS (sp_law_are K) (WE W) (tCons (tVar 0) (tCons (tVar 1) tNil))))))))
def d_law_multiplied (WD : DW) : DS := (dSeq (dAsg (dCall WD dsp_law_times (dCons (dVar 1) (dCons (dVar 2) dNil))) (dgName 3))
    (dSeq (dAsg (dCall WD dsp_law_over (dCons (dVar 3) dNil)) (dgName 4))
    (dCut (dIfS (dTest (dOp dLt (dVar 2) (dC (.int 0)))) (dAsg (dVar 2) (dgName 4)) dNext)
    (dCut (dIfS (dTest (dOp dNe (dVar 4) (dC (.int 0)))) (dFor (dAny (dLst false (dCons (dC (.int 3)) (dCons (dC (.int 4)) dNil)))) (dgName 5) (dIfS (dNot (dTest (dCall WD dsp_law_same (dCons (dCall WD dsp_law_error (dCons (dVar 0) (dCons (dVar 5) (dCons (dVar 2) (dCons (dC (.int 0)) dNil))))) (dCons (dLst false (dCons (dC (.str "count")) (dCons (dVar 4) (dCons (dC (.bl true)) dNil)))) dNil))))) (dRet (dC (.bl false))) dNext)) (dIfS (dOr (dNot (dTest (dCall WD dsp_law_are (dCons (dOpS (dMix (edW WD) [("Mixture", dsp_Mixture_mul, dsp_Mixture_rmul)] dMul) (dVar 0) (dVar 2)) (dCons (dVar 3) dNil))))) (dNot (dTest (dCall WD dsp_law_are (dCons (dOpS (dMix (edW WD) [("Mixture", dsp_Mixture_mul, dsp_Mixture_rmul)] dMul) (dVar 2) (dVar 0)) (dCons (dVar 3) dNil)))))) (dRet (dC (.bl false))) dNext))
    (dRet (dCall WD dsp_law_are (dCons (dVar 0) (dCons (dVar 1) dNil))))))))
theorem sim_law_multiplied {K : PySem.W.Frag} (W : WX) (WD : DW) : SimS K W WD (t_law_multiplied K W) (d_law_multiplied WD) := by
  unfold t_law_multiplied d_law_multiplied
  exact (sim_seq (sim_asg (sim_callS (fun _ _ _ _ h => h) (sim_cons sim_var (sim_cons sim_var sim_nil))) sim_gname)
      (sim_seq (sim_asg (sim_callS (fun _ _ _ _ h => h) (sim_cons sim_var sim_nil)) sim_gname)
      (sim_cut (sim_ifS (sim_test (sim_op op_lt sim_var (sim_c fun _ _ => .int _))) (sim_asg sim_var sim_gname) sim_next)
      (sim_cut (sim_ifS (sim_test (sim_op op_ne sim_var (sim_c fun _ _ => .int _))) (sim_for (sim_any (sim_lst (sim_cons (sim_c fun _ _ => .int _) (sim_cons (sim_c fun _ _ => .int _) sim_nil)))) sim_gname (sim_ifS (sim_not (sim_tB (sim_callS (fun _ _ _ _ h => ad_law_same h) (sim_cons (sim_callS (fun _ _ _ _ h => h) (sim_cons sim_var (sim_cons sim_var (sim_cons sim_var (sim_cons (sim_c fun _ _ => .int _) sim_nil))))) (sim_cons (sim_lst (sim_cons (sim_c fun _ _ => .str _) (sim_cons sim_var (sim_cons (sim_c fun _ _ => .bl _) sim_nil)))) sim_nil))))) (sim_ret (sim_c fun _ _ => .bl _)) sim_next)) (sim_ifS (sim_or (sim_not (sim_tB (sim_callS (fun _ _ _ _ h => h) (sim_cons (sim_opS (ops_mix (.cons (fun _ _ _ _ h => h) (fun _ _ _ _ h => h) .nil) eo_w op_mul) sim_var sim_var) (sim_cons sim_var sim_nil))))) (sim_not (sim_tB (sim_callS (fun _ _ _ _ h => h) (sim_cons (sim_opS (ops_mix (.cons (fun _ _ _ _ h => h) (fun _ _ _ _ h => h) .nil) eo_w op_mul) sim_var sim_var) (sim_cons sim_var sim_nil)))))) (sim_ret (sim_c fun _ _ => .bl _)) sim_next))
      (sim_ret (sim_callS (fun _ _ _ _ h => h) (sim_cons sim_var (sim_cons sim_var sim_nil))))))))
theorem dpure_law_multiplied {ds : List D} {S : Sto} {Q : DQ} {E : DX} (h : dsp_law_multiplied ds S Q E) : d_law_multiplied (ExD S E) { nx := fun _ S' => RtD S Q .non S', rt := RtD S Q, b := S.length } (startD N_law_multiplied.length ds) S := by
  obtain ⟨x, y, w, rfl, n, m, t, f, k, rfl, rfl, rfl, M, T, of, hq⟩ := h
  show d_law_multiplied _ _ [some (.hdl n), some (.hdl t), some (.int k), none, none, none] S
  unfold d_law_multiplied
  have fin : ∀ {S'}, Stay S S' [] → RtD S Q (.bl true) S' := fun st => rt_all (hq _ st)
  have same : ∀ {S' : Sto} {a b c : Option D}, Stay S S' [] → IsMx S' n m f → IsTb S' t f → dRet (dCall (ExD S E) dsp_law_are (dCons (dVar 0) (dCons (dVar 1) dNil))) { nx := fun _ S' => RtD S Q .non S', rt := RtD S Q, b := S.length } [some (.hdl n), some (.hdl t), some (.int k), a, b, c] S' := fun {S' a b c} st M T => by
    walk_at "dd"
    exact ⟨_, _, rfl, n, m, t, f, rfl, rfl, M, T, of, fin st⟩
  have bad : ∀ {S1 : Sto} {r : Nat} {v : Int} {E' : DEnds} (_ : ∀ S' c, S1 = S' → E'.nx [some (.hdl n), some (.hdl t), some (.int k), some (.hdl r), some (.int v), c] S'), IsMx S1 n m f → ((k < 0 ∧ v = k) ∨ 0 ≤ k ∧ ∃ j, overM (timesC f k) 1000000 = some j ∧ v = f j * k) → dFor (dAny (dLst false (dCons (dC (.int 3)) (dCons (dC (.int 4)) dNil)))) (dgName 5) (dIfS (dNot (dTest (dCall (ExD S E) dsp_law_same (dCons (dCall (ExD S E) dsp_law_error (dCons (dVar 0) (dCons (dVar 5) (dCons (dVar 2) (dCons (dC (.int 0)) dNil))))) (dCons (dLst false (dCons (dC (.str "count")) (dCons (dVar 4) (dCons (dC (.bl true)) dNil)))) dNil))))) (dRet (dC (.bl false))) dNext) E' [some (.hdl n), some (.hdl t), some (.int k), some (.hdl r), some (.int v), none] S1 := fun {S1 r v E'} nx M hv => by
    walk_at "dd"
    refine ⟨two_leM, ?_⟩
    walk_at "dd"
    refine .seq (ds := [3, 4].map .int) sq_l ?_
    refine ⟨fun i ρ' S' => S1 = S' ∧ ∃ c, ρ' = [some (.hdl n), some (.hdl t), some (.int k), some (.hdl r), some (.int v), c], ⟨rfl, _, rfl⟩, fun _ _ _ _ _ => sq_l, ?_, fun ρ' S' ⟨e, c, e2⟩ => by rw [e2]; exact nx _ _ e⟩
    rintro i d ρ' S' hd ⟨rfl, c, rfl⟩
    obtain ⟨way, ew, rfl⟩ := map_at (show ([3, 4].map D.int)[i]? = some d from hd)
    have hw := List.mem_of_getElem? ew
    simp only [List.mem_cons, List.not_mem_nil, or_false] at hw
    walk_at "dd"
    have go : ∀ {Q' : DQ} {E'' : DX}, Q' (cntE v) S1 → dsp_law_error [.hdl n, .int way, .int k, .int 0] S1 Q' E'' := fun {Q' E''} q => ⟨_, _, _, _, rfl, .inr ⟨n, m, f, rfl, M, of, .inr (.inr (.inl ⟨k, by
      rcases hw with rfl | rfl
      · exact .inl rfl
      · exact .inr rfl, rfl, by
      rcases hv with ⟨h1, rfl⟩ | ⟨h1, j, h2, rfl⟩
      · exact .inl ⟨h1, q⟩
      · exact .inr ⟨h1, j, h2, q⟩⟩))⟩⟩
    refine go ?_
    walk_at "dd"
    refine ⟨three_leM, ?_⟩
    walk_at "dd"
    refine same_d rfl rfl plain_cntE fit_cntE ?_
    walk_at "dd"
    refine s_itF rfl ?_
    walk_at "dd"
    exact ⟨rfl, _, rfl⟩
  walk_at "dd"
  refine ⟨_, _, rfl, t, f, k, rfl, rfl, T, of, fun c k0 Td => ?_, fun kn => ?_⟩
  · have st : Stay S (S ++ [c]) [] := (Stay.refl S).app _
    have M := M.stay st (by simp) (by simp)
    have T := T.stay st (by simp)
    generalize S ++ [c] = S1 at st M T Td ⊢
    generalize S.length = r at Td ⊢
    walk_at "dd"
    refine ⟨_, rfl, r, _, rfl, Td, ?_⟩
    walk_at "dd"
    refine w_nocut ?_
    walk_at "dd"
    refine s_itF (decide_eq_false (by omega)) ?_
    walk_at "dd"
    cases ho : overM (timesC f k) 1000000 with
    | some j =>
      have hk := over_gt ho
      have ev : overV (timesC f k) = f j * k := by unfold overV; rw [ho]; rfl
      have hk : (1000000 : Int) < f j * k := hk
      rw [ev]
      refine w_nocut ?_
      walk_at "dd"
      refine s_itT (by rw [decide_eq_false (by omega)]; rfl) ?_
      refine bad (fun S' c e => ?_) M (.inr ⟨k0, j, ho, rfl⟩)
      subst e
      exact same st M T
    | none =>
      have ev : overV (timesC f k) = 0 := by unfold overV; rw [ho]
      rw [ev]
      have tok := times_ok of.w k0 ho
      refine w_nocut ?_
      walk_at "dd"
      refine s_itF rfl ?_
      walk_at "dd"
      have mulG : ∀ {S1 : Sto} {Q' : DQ} {E' : DX}, IsMx S1 n m f → Q' (.hdl (S1.length + 1)) (S1 ++ [.dic false (kvM (timesC f k)), mxO S1.length]) → dsp_Mixture_mul [.hdl n, .int k] S1 Q' E' := fun {S1 Q' E'} M q => ⟨_, _, rfl, n, m, f, k, rfl, rfl, M, of, fun h => absurd h (by omega), fun _ j hj => (by rw [ho] at hj; cases hj), fun _ _ => q⟩
      have rmulG : ∀ {S1 : Sto} {Q' : DQ} {E' : DX}, IsMx S1 n m f → Q' (.hdl (S1.length + 1)) (S1 ++ [.dic false (kvM (timesC f k)), mxO S1.length]) → dsp_Mixture_rmul [.hdl n, .int k] S1 Q' E' := fun {S1 Q' E'} M q => ⟨_, _, rfl, n, m, f, k, rfl, rfl, M, of, fun h => absurd h (by omega), fun _ j hj => (by rw [ho] at hj; cases hj), fun _ _ => q⟩
      refine .inr ⟨"Mixture", dsp_Mixture_mul, dsp_Mixture_rmul, List.mem_cons_self, .inl ⟨_, rs_h M.1, .inr ⟨k, rfl⟩, ?_⟩⟩
      refine mulG M ?_
      have st2 : Stay S1 (S1 ++ [.dic false (kvM (timesC f k)), mxO S1.length]) [] := (Stay.refl S1).app _
      have Ma : IsMx (S1 ++ [.dic false (kvM (timesC f k)), mxO S1.length]) (S1.length + 1) S1.length (timesC f k) := ⟨at2_1, at2_0⟩
      have Td := Td.stay st2 (by simp)
      have M := M.stay st2 (by simp) (by simp)
      have T := T.stay st2 (by simp)
      have st := st.trans st2
      generalize S1 ++ [.dic false (kvM (timesC f k)), mxO S1.length] = S2 at Ma Td M T st ⊢
      walk_at "dd"
      refine ⟨_, _, rfl, _, _, r, timesC f k, rfl, rfl, Ma, Td, tok, ?_⟩
      walk_at "dd"
      refine s_itF rfl ?_
      walk_at "dd"
      refine .inr ⟨"Mixture", dsp_Mixture_mul, dsp_Mixture_rmul, List.mem_cons_self, .inr ⟨k, _, rfl, rs_h M.1, ?_⟩⟩
      refine rmulG M ?_
      have st2 : Stay S2 (S2 ++ [.dic false (kvM (timesC f k)), mxO S2.length]) [] := (Stay.refl S2).app _
      have Ma : IsMx (S2 ++ [.dic false (kvM (timesC f k)), mxO S2.length]) (S2.length + 1) S2.length (timesC f k) := ⟨at2_1, at2_0⟩
      have Td := Td.stay st2 (by simp)
      have M := M.stay st2 (by simp) (by simp)
      have T := T.stay st2 (by simp)
      have st := st.trans st2
      generalize S2 ++ [.dic false (kvM (timesC f k)), mxO S2.length] = S3 at Ma Td M T st ⊢
      walk_at "dd"
      refine ⟨_, _, rfl, _, _, r, timesC f k, rfl, rfl, Ma, Td, tok, ?_⟩
      walk_at "dd"
      refine s_itF rfl ?_
      walk_at "dd"
      exact ⟨_, _, rfl, n, m, t, f, rfl, rfl, M, T, of, fin st⟩
  · have st : Stay S (S ++ [.dic false []]) [] := (Stay.refl S).app _
    have M := M.stay st (by simp) (by simp)
    have T := T.stay st (by simp)
    have Td : IsTb (S ++ [.dic false []]) S.length (fun _ => 0) := tb_zero atL fun _ => rfl
    generalize S ++ [.dic false []] = S1 at st M T Td ⊢
    generalize S.length = r at Td ⊢
    have ev : overV (fun _ => 0) = 0 := by
      unfold overV overM
      rw [keysM_zero fun _ => rfl]
      rfl
    walk_at "dd"
    refine ⟨_, rfl, r, _, rfl, Td, ?_⟩
    rw [ev]
    walk_at "dd"
    refine w_nocut ?_
    walk_at "dd"
    refine s_itT (decide_eq_true kn) ?_
    walk_at "dd"
    refine w_nocut ?_
    walk_at "dd"
    refine s_itT (by rw [decide_eq_false (by omega)]; rfl) ?_
    refine bad (fun S' c e => ?_) M (.inl ⟨kn, rfl⟩)
    subst e
    exact same st M T
theorem len_law_multiplied {K : PySem.W.Frag} {vs : List V} {H : Hp} {Q : VK} {E : XK} (h : sp_law_multiplied K vs H Q E) : vs.length = 3 := lift_len (fun _ _ _ _ h => DSp3.len h) h
theorem pure_law_multiplied {K : PySem.W.Frag} {vs : List V} {H : Hp} {Q : VK} {E : XK} (h : sp_law_multiplied K vs H Q E) : t_law_multiplied K (fun cls d _ H => E cls d H) { nx := fun _ H' => Q .non H', rt := Q } (start N_law_multiplied vs) H := lift_def (N := N_law_multiplied) (fun W WD => sim_law_multiplied W WD) (fun _ _ _ _ h => dpure_law_multiplied h) _ _ _ _ h
def dsp_law_equal : DSp := DSp2 fun x y S Q _ => ∃ (n m t : Nat) (f : Cnt), x = .hdl n ∧ y = .hdl t ∧ IsMx S n m f ∧ IsTb S t f ∧ CntOk f ∧ ∀ S', Stay S S' [] → Q (.bl true) S'
abbrev sp_law_equal (K : PySem.W.Frag) : Sp := lift K dsp_law_equal
def N_law_equal : List PySem.Str := ["_law_mixture", "_law_table", "_law_again", "_law_number", "_law_more"]
def t_law_equal (K : PySem.W.Frag) (W : WX) : TS := (tSeq (tAsg (Cl.tMakeS (ga K "Mixture") (spV_Mixture_init K) (WE W) tNil) (gName 2))
    (tCut (tFor (iAnyP K (tRevL K (tCB rListD (tCons (tVar 1) tNil)))) (gName 3) (tAsg (tDGet (tVar 1) (tVar 3)) (Cl.gSubO (tVar 2) (tVar 3) (Cl.rSetO [(ga K "Mixture", sp_Mixture_setitem K)] (WE W)))))
    (tCut (tIfS (tOr (tNot (tB (tCallS (sp_law_same K) (WE W) (tCons (Cl.tOpS (Cl.rOwn2 [(ga K "Mixture", sp_Mixture_eq K)] (WE W) (rEqP K)) (tVar 0) (tVar 2)) (tCons (tC (.bl true)) tNil))))) (tNot (tB (tCallS (sp_law_same K) (WE W) (tCons (Cl.tOpS (Cl.rOwn2 [(ga K "Mixture", sp_Mixture_eq K)] (WE W) (rEqP K)) (tVar 2) (tVar 0)) (tCons (tC (.bl true)) tNil)))))) (tRet (tC (.bl false))) tNext)
    (tSeq (tAsg (Cl.tOpS (Cl.rMix [(ga K "Mixture", sp_Mixture_mul K, sp_Mixture_rmul K)] (WE W) rMulP) (tVar 0) (tC (.int 1))) (gName 4))
    (tSeq (tAsg (tOp (rAddP K) (tC (.int 1)) (tCB rIntP (tCons (Cl.tOpS (Cl.rOwn2 [(ga K "Mixture", sp_Mixture_eq K)] (WE W) (rEqP K)) (tDGet2 (tVar 1) (tC (.int 998)) (tC (.int 0))) (tC (.int 1))) tNil))) (Cl.gSubO (tVar 4) (tC (.int 998)) (Cl.rSetO [(ga K "Mixture", sp_Mixture_setitem K)] (WE W))))
    (tRet (tAndV (tCallS (sp_law_same K) (WE W) (tCons (Cl.tOpS (Cl.rOwn2 [(ga K "Mixture", sp_Mixture_eq K)] (WE W) (rEqP K)) (tVar 0) (tVar 4)) (tCons (tC (.bl false)) tNil))) (tCallS (sp_law_are K) (WE W) (tCons (tVar 0) (tCons (tVar 1) tNil))))))))))
def d_law_equal (WD : DW) : DS := (dSeq (dAsg (dCall WD dsp_Mixture_init dNil) (dgName 2))
    (dCut (dFor (dAny (dRev false (dCB (dListK0 false) (dCons (dVar 1) dNil)))) (dgName 3) (dAsg (dDGet (dVar 1) (dVar 3)) (dgSubO (edW WD) [("Mixture", dsp_Mixture_setitem)] (dVar 2) (dVar 3))))
    (dCut (dIfS (dOr (dNot (dTest (dCall WD dsp_law_same (dCons (dOpS (dOwn2 (edW WD) [("Mixture", dsp_Mixture_eq)] dEq) (dVar 0) (dVar 2)) (dCons (dC (.bl true)) dNil))))) (dNot (dTest (dCall WD dsp_law_same (dCons (dOpS (dOwn2 (edW WD) [("Mixture", dsp_Mixture_eq)] dEq) (dVar 2) (dVar 0)) (dCons (dC (.bl true)) dNil)))))) (dRet (dC (.bl false))) dNext)
    (dSeq (dAsg (dOpS (dMix (edW WD) [("Mixture", dsp_Mixture_mul, dsp_Mixture_rmul)] dMul) (dVar 0) (dC (.int 1))) (dgName 4))
    (dSeq (dAsg (dOp (dAdd false) (dC (.int 1)) (dCB dInt (dCons (dOpS (dOwn2 (edW WD) [("Mixture", dsp_Mixture_eq)] dEq) (dDGet2 (dVar 1) (dC (.int 998)) (dC (.int 0))) (dC (.int 1))) dNil))) (dgSubO (edW WD) [("Mixture", dsp_Mixture_setitem)] (dVar 4) (dC (.int 998))))
    (dRet (dAndV (dCall WD dsp_law_same (dCons (dOpS (dOwn2 (edW WD) [("Mixture", dsp_Mixture_eq)] dEq) (dVar 0) (dVar 4)) (dCons (dC (.bl false)) dNil))) (dCall WD dsp_law_are (dCons (dVar 0) (dCons (dVar 1) dNil))))))))))
theorem sim_law_equal {K : PySem.W.Frag} (W : WX) (WD : DW) : SimS K W WD (t_law_equal K W) (d_law_equal WD) := by
  unfold t_law_equal d_law_equal
  exact (sim_seq (sim_asg (sim_make (fun _ _ _ _ h => ad_Mixture_init h) sim_nil) sim_gname)
      (sim_cut (sim_for (sim_any (sim_rev (sim_cb cb_listK0 (sim_cons sim_var sim_nil)))) sim_gname (sim_asg (sim_dget sim_var sim_var) (sim_gsubO (.cons (fun _ _ _ _ h => h) .nil) eo_w sim_var sim_var)))
      (sim_cut (sim_ifS (sim_or (sim_not (sim_tB (sim_callS (fun _ _ _ _ h => ad_law_same h) (sim_cons (sim_opS (ops_own2 (.cons (fun _ _ _ _ h => h) .nil) eo_w op_eq) sim_var sim_var) (sim_cons (sim_c fun _ _ => .bl _) sim_nil))))) (sim_not (sim_tB (sim_callS (fun _ _ _ _ h => ad_law_same h) (sim_cons (sim_opS (ops_own2 (.cons (fun _ _ _ _ h => h) .nil) eo_w op_eq) sim_var sim_var) (sim_cons (sim_c fun _ _ => .bl _) sim_nil)))))) (sim_ret (sim_c fun _ _ => .bl _)) sim_next)
      (sim_seq (sim_asg (sim_opS (ops_mix (.cons (fun _ _ _ _ h => h) (fun _ _ _ _ h => h) .nil) eo_w op_mul) sim_var (sim_c fun _ _ => .int _)) sim_gname)
      (sim_seq (sim_asg (sim_op op_add (sim_c fun _ _ => .int _) (sim_cb cb_int (sim_cons (sim_opS (ops_own2 (.cons (fun _ _ _ _ h => h) .nil) eo_w op_eq) (sim_dget2 sim_var (sim_c fun _ _ => .int _) (sim_c fun _ _ => .int _)) (sim_c fun _ _ => .int _)) sim_nil))) (sim_gsubO (.cons (fun _ _ _ _ h => h) .nil) eo_w sim_var (sim_c fun _ _ => .int _)))
      (sim_ret (sim_andV (sim_callS (fun _ _ _ _ h => ad_law_same h) (sim_cons (sim_opS (ops_own2 (.cons (fun _ _ _ _ h => h) .nil) eo_w op_eq) sim_var sim_var) (sim_cons (sim_c fun _ _ => .bl _) sim_nil))) (sim_callS (fun _ _ _ _ h => h) (sim_cons sim_var (sim_cons sim_var sim_nil))))))))))
theorem dpure_law_equal {ds : List D} {S : Sto} {Q : DQ} {E : DX} (h : dsp_law_equal ds S Q E) : d_law_equal (ExD S E) { nx := fun _ S' => RtD S Q .non S', rt := RtD S Q, b := S.length } (startD N_law_equal.length ds) S := by
  obtain ⟨x, y, rfl, n, m, t, f, rfl, rfl, M, T, of, hq⟩ := h
  show d_law_equal _ _ [some (.hdl n), some (.hdl t), none, none, none] S
  unfold d_law_equal
  obtain ⟨L, hT, nL, hL⟩ := T
  have T : IsTb S t f := ⟨L, hT, nL, hL⟩
  have fin : ∀ {S'}, Stay S S' [] → RtD S Q (.bl true) S' := fun st => rt_all (hq _ st)
  have ln := lt_of_at M.1
  have lm := lt_of_at M.2
  have lt := lt_of_at hT
  walk_at "dd"
  refine ⟨_, _, rfl, .inl ⟨[], rfl, rfl, by decide, fun k hk => (by cases hk), fun _ => ?_⟩⟩
  have st0 : Stay S (S ++ [mxO (S.length + 1), .dic false (kvM (cntL []))]) [] := (Stay.refl S).app _
  have Ma0 : IsMx (S ++ [mxO (S.length + 1), .dic false (kvM (cntL []))]) S.length (S.length + 1) (cntL []) := ⟨at2_0, at2_1⟩
  have hT0 := st0.2 _ _ hT (by simp)
  generalize hS1 : S ++ [mxO (S.length + 1), .dic false (kvM (cntL []))] = S1 at st0 Ma0 hT0 ⊢
  generalize ha : S.length = a at Ma0 hS1 ⊢
  walk_at "dd"
  let G : List Int → Cnt := fun P n => if n ∈ P then f n else 0
  have gok : ∀ P, CntOk (G P) := fun P => ⟨fun n => by
    show 0 ≤ if n ∈ P then f n else 0
    split
    · exact of.pos n
    · exact Int.le_refl _, fun n hn => by
    have hn : 0 < if n ∈ P then f n else 0 := hn
    split at hn
    · exact of.sup n hn
    · omega, fun n => by
    show (if n ∈ P then f n else 0) ≤ 1000000
    split
    · exact of.le n
    · decide⟩
  refine w_cut (fun ρ' S' => (∃ u v, ρ' = [some (.hdl n), some (.hdl t), some (.hdl a), u, v]) ∧ Stay S S' [] ∧ ∃ m', a < m' ∧ IsMx S' a m' f) ?_ ?_
  · walk_at "dd"
    refine ⟨t, _, rfl, hT0, ?_⟩
    rw [kvC_keys]
    unfold newAt
    refine ⟨L.map .int, rfl, ?_⟩
    rw [← List.map_reverse]
    try unfold newAt
    refine .seq (ds := L.reverse.map .int) sq_l ?_
    refine ⟨fun i ρ' S' => (∃ u v, ρ' = [some (.hdl n), some (.hdl t), some (.hdl a), u, v]) ∧ Stay S S' [] ∧ ∃ m', a < m' ∧ IsMx S' a m' (G (L.reverse.take i)), ⟨⟨_, _, rfl⟩, st0, a + 1, Nat.lt_succ_self _, ?_⟩, fun _ _ _ _ _ => sq_l, ?_, ?_⟩
    · rw [show G (L.reverse.take 0) = cntL [] from funext fun n => if_neg (by simp)]
      exact Ma0
    · rintro i d ρ' S' hd ⟨⟨u, v, rfl⟩, st, m', hm', Ma⟩
      obtain ⟨z, ez, rfl⟩ := map_at (show (L.reverse.map D.int)[i]? = some d from hd)
      have hz := (hL z).mp (List.mem_reverse.mp (List.mem_of_getElem? ez))
      have hT' := st.2 _ _ hT (by simp)
      walk_at "dd"
      refine ⟨false, kvC f L, .inl z, .int (f z), rs_h hT', rfl, by rw [getC, if_pos ((hL z).mpr hz)], ?_⟩
      walk_at "dd"
      refine .inr ⟨_, _, dsp_Mixture_setitem, rs_h Ma.1, by walk_at "mem", ?_⟩
      refine ⟨_, _, _, rfl, a, m', G (L.reverse.take i), z, f z, rfl, rfl, rfl, Ma, gok _, fun h => absurd (mem_keysM.mp hz).1 h, fun _ h => absurd ⟨of.pos z, of.le z⟩ h, fun _ _ S2 m2 st2 hm2 Ma2 => ?_⟩
      walk_at "dd"
      refine ⟨⟨_, _, rfl⟩, ?_, m2, by have := lt_of_at Ma.1; omega, ?_⟩
      · exact ((st.mono (k := [a]) fun x h => by cases h).trans st2).mono fun x h => .inr (by rw [List.mem_singleton.mp h]; omega)
      · have eG : updC (G (L.reverse.take i)) z (f z) = G (L.reverse.take (i + 1)) := funext fun x => by
          show _ = if x ∈ L.reverse.take (i + 1) then f x else 0
          rw [take_at ez]
          by_cases e : x = z
          · subst e
            rw [updC_at, if_pos (List.mem_append_right _ List.mem_cons_self)]
          · rw [updC_ne e]
            show (if x ∈ L.reverse.take i then f x else 0) = _
            by_cases hx : x ∈ L.reverse.take i
            · rw [if_pos hx, if_pos (List.mem_append_left _ hx)]
            · rw [if_neg hx, if_neg fun h => (List.mem_append.mp h).elim hx fun h => e (List.mem_singleton.mp h)]
        rw [← eG]
        exact Ma2
    · rintro ρ' S' ⟨hr, st, m', hm', Ma⟩
      rw [show (⟨L.reverse.map D.int, fun S' => Sq S' (D.lst (L.reverse.map D.int)) (L.reverse.map D.int)⟩ : IS).items.length = L.reverse.length from List.length_map .., List.take_length] at Ma
      rw [show G L.reverse = f from funext fun x => by
        show (if x ∈ L.reverse then f x else 0) = f x
        by_cases hx : x ∈ L.reverse
        · rw [if_pos hx]
        · rw [if_neg hx, of.zero fun h => hx (List.mem_reverse.mpr ((hL x).mpr h))]] at Ma
      exact ⟨hr, st, m', hm', Ma⟩
  rintro ρ' S' ⟨⟨u, v, rfl⟩, st, m', hm', Ma⟩
  walk_at "dd"
  have M := M.stay st (by simp) (by simp)
  have T := T.stay st (by simp)
  have hT := st.2 _ _ hT (by simp)
  refine w_nocut ?_
  walk_at "dd"
  refine .inr ⟨"Mixture", _, _, dsp_Mixture_eq, rs_h M.1, rs_h Ma.1, List.mem_cons_self, ?_⟩
  refine ⟨_, _, rfl, n, m, a, m', f, f, rfl, rfl, M, Ma, ?_⟩
  rw [eqI_self]
  walk_at "dd"
  refine same_d rfl rfl plain_bl trivial ?_
  walk_at "dd"
  refine s_itF rfl ?_
  walk_at "dd"
  refine .inr ⟨"Mixture", _, _, dsp_Mixture_eq, rs_h Ma.1, rs_h M.1, List.mem_cons_self, ?_⟩
  refine ⟨_, _, rfl, a, m', n, m, f, f, rfl, rfl, Ma, M, ?_⟩
  rw [eqI_self]
  walk_at "dd"
  refine same_d rfl rfl plain_bl trivial ?_
  walk_at "dd"
  refine s_itF rfl ?_
  walk_at "dd"
  refine .inr ⟨"Mixture", dsp_Mixture_mul, dsp_Mixture_rmul, List.mem_cons_self, .inl ⟨_, rs_h M.1, .inr ⟨1, rfl⟩, ?_⟩⟩
  refine ⟨_, _, rfl, n, m, f, 1, rfl, rfl, M, of, fun h => absurd h (by decide), fun _ j hj => (by rw [over_one of] at hj; cases hj), fun _ _ => ?_⟩
  have st2 : Stay S' (S' ++ [.dic false (kvM (timesC f 1)), mxO S'.length]) [] := (Stay.refl S').app _
  have Mb : IsMx (S' ++ [.dic false (kvM (timesC f 1)), mxO S'.length]) (S'.length + 1) S'.length (timesC f 1) := ⟨at2_1, at2_0⟩
  have M := M.stay st2 (by simp) (by simp)
  have T := T.stay st2 (by simp)
  have hT := st2.2 _ _ hT (by simp)
  have lS := st.1
  have st := st.trans st2
  generalize hS2 : S' ++ [.dic false (kvM (timesC f 1)), mxO S'.length] = S2 at Mb hT M T st ⊢
  obtain ⟨b, hb⟩ : ∃ b, S'.length = b := ⟨_, rfl⟩
  rw [hb] at Mb ⊢
  walk_at "dd"
  refine ⟨⟨_, _, rs_h hT⟩, ?_⟩
  walk_at "dd"
  refine ⟨_, _, .inl 998, rs_h hT, rfl, ?_⟩
  rw [getC_D fun h => of.zero fun q => h ((hL 998).mpr q)]
  walk_at "dd"
  refine .inl (.int ?_)
  walk_at "dd"
  refine .bl ?_
  walk_at "dd"
  obtain ⟨c, hc, c1, c2, cne⟩ : ∃ c : Int, 1 + (if decide (f 998 = 1) = true then 1 else 0) = c ∧ 1 ≤ c ∧ c ≤ 2 ∧ f 998 ≠ c := by
    by_cases e : f 998 = 1
    · exact ⟨2, by rw [decide_eq_true e]; rfl, by decide, by decide, by omega⟩
    · exact ⟨1, by rw [decide_eq_false e]; rfl, by decide, by decide, e⟩
  rw [hc]
  refine .inr ⟨_, _, dsp_Mixture_setitem, rs_h Mb.1, by walk_at "mem", ?_⟩
  refine ⟨_, _, _, rfl, b + 1, b, timesC f 1, 998, c, rfl, rfl, rfl, Mb, times_ok of.w (by decide) (over_one of), fun h => absurd h (by decide), fun _ h => absurd h (by omega), fun _ _ S3 m3 st3 hm3 Mc => ?_⟩
  have M := M.stay st3 (by simp; omega) (by simp; omega)
  have T := T.stay st3 (by simp; omega)
  have st : Stay S S3 [] := ((st.mono (k := [b + 1]) fun x h => by cases h).trans st3).mono fun x h => .inr (by rw [List.mem_singleton.mp h]; omega)
  walk_at "dd"
  refine .inr ⟨"Mixture", _, _, dsp_Mixture_eq, rs_h M.1, rs_h Mc.1, List.mem_cons_self, ?_⟩
  refine ⟨_, _, rfl, n, m, b + 1, m3, f, updC (timesC f 1) 998 c, rfl, rfl, M, Mc, ?_⟩
  rw [eqI_no (n := 998) (by decide) (by decide) (by rw [updC_at]; omega) (by rw [updC_at]; exact cne)]
  walk_at "dd"
  refine same_d rfl rfl plain_bl trivial ?_
  walk_at "dd"
  refine ⟨_, rfl, ?_⟩
  walk_at "dd"
  exact ⟨_, _, rfl, n, m, t, f, rfl, rfl, M, T, of, fin st⟩
theorem len_law_equal {K : PySem.W.Frag} {vs : List V} {H : Hp} {Q : VK} {E : XK} (h : sp_law_equal K vs H Q E) : vs.length = 2 := lift_len (fun _ _ _ _ h => DSp2.len h) h
theorem pure_law_equal {K : PySem.W.Frag} {vs : List V} {H : Hp} {Q : VK} {E : XK} (h : sp_law_equal K vs H Q E) : t_law_equal K (fun cls d _ H => E cls d H) { nx := fun _ H' => Q .non H', rt := Q } (start N_law_equal vs) H := lift_def (N := N_law_equal) (fun W WD => sim_law_equal W WD) (fun _ _ _ _ h => dpure_law_equal h) _ _ _ _ h
def dsp_law_in_place : DSp := DSp4 fun x y w u S Q _ => ∃ (n m t n2 m2 t2 : Nat) (f g : Cnt), x = .hdl n ∧ y = .hdl t ∧ w = .hdl n2 ∧ u = .hdl t2 ∧ n ≠ n2 ∧ n ≠ m2 ∧ n ≠ t ∧ n ≠ t2 ∧ IsMx S n m f ∧ IsTb S t f ∧ IsMx S n2 m2 g ∧ IsTb S t2 g ∧ CntOk f ∧ CntOk g ∧ ∀ S', Q (.bl true) S'
abbrev sp_law_in_place (K : PySem.W.Frag) : Sp := lift K dsp_law_in_place
def N_law_in_place : List PySem.Str := ["_law_mixture", "_law_table", "_law_other", "_law_two", "_law_alias", "_law_due", "_law_k"]
def t_law_in_place (K : PySem.W.Frag) (W : WX) : TS := (tSeq (tAsg (tVar 0) (gName 4))
    (tSeq (tAsg (tVar 1) (gName 5))
    (tCut (tFor (iRng1 (tCons (tC (.int 2)) tNil)) (gName 6) (tCut (tIfS (tTest (tOp (rEqP K) (tCallS (sp_law_over K) (WE W) (tCons (tCallS (sp_law_sum K) (WE W) (tCons (tVar 5) (tCons (tVar 3) tNil))) tNil)) (tC (.int 0)))) (tSeq (tAsg (tCallS (sp_law_sum K) (WE W) (tCons (tVar 5) (tCons (tVar 3) tNil))) (gName 5))
    (Cl.tAugO 0 (tVar 2) (Cl.rInp [(ga K "Mixture", sp_Mixture_iadd K)] (WE W) (rIn0 fun i j => .int (i + j))))) tNext)
    (tIfS (tOr (tNot (tB (tCallS (sp_law_are K) (WE W) (tCons (tVar 0) (tCons (tVar 5) tNil))))) (tOr (tNot (tB (tCallS (sp_law_are K) (WE W) (tCons (tVar 4) (tCons (tVar 5) tNil))))) (tNot (tB (tCallS (sp_law_are K) (WE W) (tCons (tVar 2) (tCons (tVar 3) tNil))))))) (tRet (tC (.bl false))) tNext)))
    (tRet (tC (.bl true))))))
def d_law_in_place (WD : DW) : DS := (dSeq (dAsg (dVar 0) (dgName 4))
    (dSeq (dAsg (dVar 1) (dgName 5))
    (dCut (dFor (dRng1 (dCons (dC (.int 2)) dNil)) (dgName 6) (dCut (dIfS (dTest (dOp dEq (dCall WD dsp_law_over (dCons (dCall WD dsp_law_sum (dCons (dVar 5) (dCons (dVar 3) dNil))) dNil)) (dC (.int 0)))) (dSeq (dAsg (dCall WD dsp_law_sum (dCons (dVar 5) (dCons (dVar 3) dNil))) (dgName 5))
    (dAug 0 (dVar 2) (dInp (edW WD) [("Mixture", dsp_Mixture_iadd)] dAddI))) dNext)
    (dIfS (dOr (dNot (dTest (dCall WD dsp_law_are (dCons (dVar 0) (dCons (dVar 5) dNil))))) (dOr (dNot (dTest (dCall WD dsp_law_are (dCons (dVar 4) (dCons (dVar 5) dNil))))) (dNot (dTest (dCall WD dsp_law_are (dCons (dVar 2) (dCons (dVar 3) dNil))))))) (dRet (dC (.bl false))) dNext)))
    (dRet (dC (.bl true))))))
theorem sim_law_in_place {K : PySem.W.Frag} (W : WX) (WD : DW) : SimS K W WD (t_law_in_place K W) (d_law_in_place WD) := by
  unfold t_law_in_place d_law_in_place
  exact (sim_seq (sim_asg sim_var sim_gname)
      (sim_seq (sim_asg sim_var sim_gname)
      (sim_cut (sim_for (sim_rng1 (sim_cons (sim_c fun _ _ => .int _) sim_nil)) sim_gname (sim_cut (sim_ifS (sim_test (sim_op op_eq (sim_callS (fun _ _ _ _ h => h) (sim_cons (sim_callS (fun _ _ _ _ h => h) (sim_cons sim_var (sim_cons sim_var sim_nil))) sim_nil)) (sim_c fun _ _ => .int _))) (sim_seq (sim_asg (sim_callS (fun _ _ _ _ h => h) (sim_cons sim_var (sim_cons sim_var sim_nil))) sim_gname)
      (sim_aug sim_var (ops_inp (.cons (fun _ _ _ _ h => h) .nil) eo_w op_addI))) sim_next)
      (sim_ifS (sim_or (sim_not (sim_tB (sim_callS (fun _ _ _ _ h => h) (sim_cons sim_var (sim_cons sim_var sim_nil))))) (sim_or (sim_not (sim_tB (sim_callS (fun _ _ _ _ h => h) (sim_cons sim_var (sim_cons sim_var sim_nil))))) (sim_not (sim_tB (sim_callS (fun _ _ _ _ h => h) (sim_cons sim_var (sim_cons sim_var sim_nil))))))) (sim_ret (sim_c fun _ _ => .bl _)) sim_next)))
      (sim_ret (sim_c fun _ _ => .bl _)))))
theorem dpure_law_in_place {ds : List D} {S : Sto} {Q : DQ} {E : DX} (h : dsp_law_in_place ds S Q E) : d_law_in_place (ExD S E) { nx := fun _ S' => RtD S Q .non S', rt := RtD S Q, b := S.length } (startD N_law_in_place.length ds) S := by
  obtain ⟨x, y, w, u, rfl, n, m, t, n2, m2, t2, f, g, rfl, rfl, rfl, rfl, d1, d2, d3, d4, M, T, M2, T2, of, og, hq⟩ := h
  show d_law_in_place _ _ [some (.hdl n), some (.hdl t), some (.hdl n2), some (.hdl t2), none, none, none] S
  unfold d_law_in_place
  have fin : ∀ {S'}, RtD S Q (.bl true) S' := rt_all (hq _)
  have l1 := lt_of_at M.1
  have l2 := lt_of_at M2.1
  have l3 := lt_of_at M2.2
  obtain ⟨L0, hT0, _⟩ := id T
  obtain ⟨P0, hP0, _⟩ := id T2
  have l4 := lt_of_at hT0
  have l5 := lt_of_at hP0
  walk_at "dd"
  refine w_cut (fun _ _ => True) ?_ ?_
  rotate_left
  · rintro ρ' S' _
    walk_at "dd"
    exact fin
  walk_at "dd"
  refine ⟨2, rfl, by decide, by decide, ?_⟩
  refine ⟨fun i ρ' S' => ∃ (v : Option D) (mi ti : Nat) (fi : Cnt), ρ' = [some (.hdl n), some (.hdl t), some (.hdl n2), some (.hdl t2), some (.hdl n), some (.hdl ti), v] ∧ S.length ≤ S'.length ∧ n ≠ ti ∧ CntOk fi ∧ IsMx S' n mi fi ∧ IsTb S' ti fi ∧ IsMx S' n2 m2 g ∧ IsTb S' t2 g, ⟨none, m, t, f, rfl, Nat.le_refl _, d3, of, M, T, M2, T2⟩, fun _ _ _ _ _ => trivial, ?_, fun _ _ _ => trivial⟩
  rintro i d ρ' S' hd ⟨v, mi, ti, fi, rfl, lS, hti, ofi, M, T, M2, T2⟩
  walk_at "dd"
  have are : ∀ {S' : Sto} {mi ti : Nat} {fi : Cnt} {v : Option D} {F : DEnds}, CntOk fi → IsMx S' n mi fi → IsTb S' ti fi → IsMx S' n2 m2 g → IsTb S' t2 g → F.nx [some (.hdl n), some (.hdl t), some (.hdl n2), some (.hdl t2), some (.hdl n), some (.hdl ti), v] S' → dIfS (dOr (dNot (dTest (dCall (ExD S E) dsp_law_are (dCons (dVar 0) (dCons (dVar 5) dNil))))) (dOr (dNot (dTest (dCall (ExD S E) dsp_law_are (dCons (dVar 4) (dCons (dVar 5) dNil))))) (dNot (dTest (dCall (ExD S E) dsp_law_are (dCons (dVar 2) (dCons (dVar 3) dNil))))))) (dRet (dC (.bl false))) dNext F [some (.hdl n), some (.hdl t), some (.hdl n2), some (.hdl t2), some (.hdl n), some (.hdl ti), v] S' := fun {S' mi ti fi v F} ok M T M2 T2 q => by
    walk_at "dd"
    refine ⟨_, _, rfl, n, mi, ti, fi, rfl, rfl, M, T, ok, ?_⟩
    walk_at "dd"
    refine s_itF rfl ?_
    walk_at "dd"
    refine ⟨_, _, rfl, n, mi, ti, fi, rfl, rfl, M, T, ok, ?_⟩
    walk_at "dd"
    refine s_itF rfl ?_
    walk_at "dd"
    refine ⟨_, _, rfl, n2, m2, t2, g, rfl, rfl, M2, T2, og, ?_⟩
    walk_at "dd"
    refine s_itF rfl ?_
    walk_at "dd"
    exact q
  refine w_cut (fun ρ' S' => ∃ (v : Option D) (mi ti : Nat) (fi : Cnt), ρ' = [some (.hdl n), some (.hdl t), some (.hdl n2), some (.hdl t2), some (.hdl n), some (.hdl ti), v] ∧ S.length ≤ S'.length ∧ n ≠ ti ∧ CntOk fi ∧ IsMx S' n mi fi ∧ IsTb S' ti fi ∧ IsMx S' n2 m2 g ∧ IsTb S' t2 g) ?_ ?_
  rotate_left
  · rintro ρ' S' ⟨v, mi, ti, fi, rfl, lS, hti, ofi, M, T, M2, T2⟩
    exact are ofi M T M2 T2 ⟨_, mi, ti, fi, rfl, lS, hti, ofi, M, T, M2, T2⟩
  walk_at "dd"
  have grow : ∀ {S' S'' : Sto} {mi ti : Nat}, Stay S' S'' [] → IsMx S' n mi fi → IsTb S' ti fi → IsMx S' n2 m2 g → IsTb S' t2 g → IsMx S'' n mi fi ∧ IsTb S'' ti fi ∧ IsMx S'' n2 m2 g ∧ IsTb S'' t2 g := fun st M T M2 T2 => ⟨M.stay st (by simp) (by simp), T.stay st (by simp), M2.stay st (by simp) (by simp), T2.stay st (by simp)⟩
  refine ⟨_, _, rfl, ti, t2, fi, g, rfl, rfl, T, T2, ofi.w, og.w, fun c Td => ?_⟩
  have st : Stay S' (S' ++ [c]) [] := (Stay.refl S').app _
  obtain ⟨M, T, M2, T2⟩ := grow st M T M2 T2
  have lS : S.length ≤ (S' ++ [c]).length := Nat.le_trans lS st.1
  generalize S' ++ [c] = S1 at st M T M2 T2 Td lS ⊢
  generalize S'.length = r at Td ⊢
  walk_at "dd"
  refine ⟨_, rfl, r, _, rfl, Td, ?_⟩
  walk_at "dd"
  cases ho : overM (addC fi g) 1000000 with
  | some k =>
    refine s_itF (decide_eq_false fun e => by rw [overV_zero.mp e] at ho; cases ho) ?_
    walk_at "dd"
    exact ⟨_, mi, ti, fi, rfl, lS, hti, ofi, M, T, M2, T2⟩
  | none =>
    refine s_itT (decide_eq_true (overV_zero.mpr ho)) ?_
    walk_at "dd"
    refine ⟨_, _, rfl, ti, t2, fi, g, rfl, rfl, T, T2, ofi.w, og.w, fun c Td => ?_⟩
    have st : Stay S1 (S1 ++ [c]) [] := (Stay.refl S1).app _
    obtain ⟨M, T, M2, T2⟩ := grow st M T M2 T2
    have lS2 : S.length ≤ (S1 ++ [c]).length := Nat.le_trans lS st.1
    generalize S1 ++ [c] = S2 at st M T M2 T2 Td lS2 ⊢
    obtain ⟨r2, hr2⟩ : ∃ r, S1.length = r := ⟨_, rfl⟩
    rw [hr2] at Td ⊢
    walk_at "dd"
    refine .inr ⟨_, _, dsp_Mixture_iadd, rs_h M.1, by walk_at "mem", ?_⟩
    refine ⟨_, _, rfl, n, mi, n2, m2, fi, g, rfl, rfl, M, M2, ofi, og, fun k hk => (by rw [ho] at hk; cases hk), fun _ S3 st3 Mn => ?_⟩
    walk_at "dd"
    have nr : n ≠ r2 := by omega
    refine ⟨_, _, r2, addC fi g, rfl, Nat.le_trans lS2 st3.1, nr, add_ok ofi.w og.w ho, Mn, Td.stay st3 (by simpa using Ne.symm nr), M2.stay st3 (by simpa using Ne.symm d1) (by simpa using Ne.symm d2), T2.stay st3 (by simpa using Ne.symm d4)⟩
theorem len_law_in_place {K : PySem.W.Frag} {vs : List V} {H : Hp} {Q : VK} {E : XK} (h : sp_law_in_place K vs H Q E) : vs.length = 4 := lift_len (fun _ _ _ _ h => DSp4.len h) h
theorem pure_law_in_place {K : PySem.W.Frag} {vs : List V} {H : Hp} {Q : VK} {E : XK} (h : sp_law_in_place K vs H Q E) : t_law_in_place K (fun cls d _ H => E cls d H) { nx := fun _ H' => Q .non H', rt := Q } (start N_law_in_place vs) H := lift_def (N := N_law_in_place) (fun W WD => sim_law_in_place W WD) (fun _ _ _ _ h => dpure_law_in_place h) _ _ _ _ h
def sp_law (K : PySem.W.Frag) : Sp := Sp1 fun x H Q _ => ∃ (a : Addr) (ns : List Int), x = .ref a ∧ SqL K H a (ns.map V.int) ∧ ns.length ≤ 100 ∧ ∀ H', Q (.bl true) H'
def N_law : List PySem.Str := ["_law_script", "_law_source_here", "_law_table", "_law_row", "_law_mixture", "_law_two", "_law_other", "_law_wrong", "_law_due", "_law_way", "_law_small", "_law_factor"]
def t_law (K : PySem.W.Frag) (W : WX) : TS := (tSeq (tAsg (tCallS (sp_law_source K) (WE W) (tCons (tVar 0) tNil)) (gName 1))
    (tSeq (tAsg tDNewK (gName 2))
    (tSeq (tAsg (tCallS (sp_law_drawn K) (WE W) (tCons (tVar 1) (tCons (tVar 2) tNil))) (gName 3))
    (tSeq (tAsg (tCallS (sp_law_mixed K) (WE W) (tCons (tVar 3) tNil)) (gName 4))
    (tSeq (tAsg tDNewK (gName 5))
    (tSeq (tAsg (tCallS (sp_law_mixed K) (WE W) (tCons (tCallS (sp_law_drawn K) (WE W) (tCons (tVar 1) (tCons (tVar 5) tNil))) tNil)) (gName 6))
    (tCut (tIfS (tOr (tNot (tB (tCallS (sp_law_are K) (WE W) (tCons (tVar 4) (tCons (tVar 2) tNil))))) (tNot (tB (tCallS (sp_law_same K) (WE W) (tCons (Cl.tCls (.int 1000000)) (tCons (tC (.int 1000000)) tNil)))))) (tRet (tC (.bl false))) tNext)
    (tCut (tIfS (tOr (tNot (tB (tCallS (sp_law_settings K) (WE W) (tCons (tVar 1) (tCons (tVar 4) (tCons (tVar 2) tNil)))))) (tNot (tB (tCallS (sp_law_settings K) (WE W) (tCons (tVar 1) (tCons (tVar 6) (tCons (tVar 5) tNil))))))) (tRet (tC (.bl false))) tNext)
    (tSeq (tAsg (tCallS (sp_law_outside K) (WE W) (tCons (tVar 1) tNil)) (gName 7))
    (tSeq (tAsg (tLst (tCons (tC (.str "number")) (tCons (tVar 7) (tCons (tC (.bl true)) tNil)))) (gName 8))
    (tCut (tIfS (tOr (tTest (Cl.tOpS (Cl.rOwnI [(ga K "Mixture", sp_Mixture_contains K)] (WE W) false (rInP K false)) (tVar 7) (tVar 4))) (tNot (tB (tCallS (sp_law_same K) (WE W) (tCons (tCallS (sp_law_error K) (WE W) (tCons (tVar 4) (tCons (tC (.int 0)) (tCons (tOp (rAddP K) (tSl (rSlP K) (tVar 3) tNoPart (tPart (tC (.int 2)))) (tLst (tCons (tVar 7) (tCons (tC (.int 1001)) tNil)))) (tCons (tC (.int 0)) tNil))))) (tCons (tVar 8) tNil)))))) (tRet (tC (.bl false))) tNext)
    (tCut (tFor (iAnyP K (tLst (tCons (tC (.int 1)) (tCons (tC (.int 2)) tNil)))) (gName 9) (tIfS (tNot (tB (tCallS (sp_law_same K) (WE W) (tCons (tCallS (sp_law_error K) (WE W) (tCons (tVar 4) (tCons (tVar 9) (tCons (tVar 7) (tCons (tUn (rU fun i => .int (-i)) (tC (.int 1))) tNil))))) (tCons (tVar 8) tNil))))) (tRet (tC (.bl false))) tNext))
    (tCut (tIfS (tOr (tNot (tB (tCallS (sp_law_added K) (WE W) (tCons (tVar 4) (tCons (tVar 2) (tCons (tVar 6) (tCons (tVar 5) tNil))))))) (tNot (tB (tCallS (sp_law_added K) (WE W) (tCons (tVar 6) (tCons (tVar 5) (tCons (tVar 4) (tCons (tVar 2) tNil)))))))) (tRet (tC (.bl false))) tNext)
    (tCut (tIfS (tOr (tNot (tB (tCallS (sp_law_added K) (WE W) (tCons (tVar 4) (tCons (tVar 2) (tCons (Cl.tOpS (Cl.rMix [(ga K "Mixture", sp_Mixture_mul K, sp_Mixture_rmul K)] (WE W) rMulP) (tVar 4) (tC (.int 1))) (tCons (tVar 2) tNil))))))) (tNot (tB (tCallS (sp_law_added K) (WE W) (tCons (tVar 4) (tCons (tVar 2) (tCons (Cl.tMakeS (ga K "Mixture") (spV_Mixture_init K) (WE W) tNil) (tCons tDNewK tNil)))))))) (tRet (tC (.bl false))) tNext)
    (tSeq (tAsg (tCallS (sp_law_take K) (WE W) (tCons (tVar 1) (tCons (tC (.int 60)) tNil))) (gName 10))
    (tCut (tFor (iAnyP K (tLst (tCons (tC (.int 0)) (tCons (tC (.int 1)) (tCons (tC (.int 2)) (tCons (tVar 10) (tCons (tOp rSubP (tUn (rU fun i => .int (-i)) (tC (.int 1))) (tVar 10)) (tCons (tC (.int 1000000)) (tCons (tOp (rAddP K) (tOp rPowP (tC (.int 10)) (tC (.int 12))) (tVar 10)) tNil))))))))) (gName 11) (tIfS (tNot (tB (tCallS (sp_law_multiplied K) (WE W) (tCons (tVar 4) (tCons (tVar 2) (tCons (tVar 11) tNil)))))) (tRet (tC (.bl false))) tNext))
    (tCut (tIfS (tNot (tB (tCallS (sp_law_equal K) (WE W) (tCons (tVar 4) (tCons (tVar 2) tNil))))) (tRet (tC (.bl false))) tNext)
    (tRet (tCallS (sp_law_in_place K) (WE W) (tCons (tVar 4) (tCons (tVar 2) (tCons (tVar 6) (tCons (tVar 5) tNil)))))))))))))))))))))))
def tr_law (K : PySem.W.Frag) (W : WX) : TS := (tSeq (tAsg tDNewK (gName 2))
    (tSeq (tAsg (tCallS (sp_law_drawn K) (WE W) (tCons (tVar 1) (tCons (tVar 2) tNil))) (gName 3))
    (tSeq (tAsg (tCallS (sp_law_mixed K) (WE W) (tCons (tVar 3) tNil)) (gName 4))
    (tSeq (tAsg tDNewK (gName 5))
    (tSeq (tAsg (tCallS (sp_law_mixed K) (WE W) (tCons (tCallS (sp_law_drawn K) (WE W) (tCons (tVar 1) (tCons (tVar 5) tNil))) tNil)) (gName 6))
    (tCut (tIfS (tOr (tNot (tB (tCallS (sp_law_are K) (WE W) (tCons (tVar 4) (tCons (tVar 2) tNil))))) (tNot (tB (tCallS (sp_law_same K) (WE W) (tCons (Cl.tCls (.int 1000000)) (tCons (tC (.int 1000000)) tNil)))))) (tRet (tC (.bl false))) tNext)
    (tCut (tIfS (tOr (tNot (tB (tCallS (sp_law_settings K) (WE W) (tCons (tVar 1) (tCons (tVar 4) (tCons (tVar 2) tNil)))))) (tNot (tB (tCallS (sp_law_settings K) (WE W) (tCons (tVar 1) (tCons (tVar 6) (tCons (tVar 5) tNil))))))) (tRet (tC (.bl false))) tNext)
    (tSeq (tAsg (tCallS (sp_law_outside K) (WE W) (tCons (tVar 1) tNil)) (gName 7))
    (tSeq (tAsg (tLst (tCons (tC (.str "number")) (tCons (tVar 7) (tCons (tC (.bl true)) tNil)))) (gName 8))
    (tCut (tIfS (tOr (tTest (Cl.tOpS (Cl.rOwnI [(ga K "Mixture", sp_Mixture_contains K)] (WE W) false (rInP K false)) (tVar 7) (tVar 4))) (tNot (tB (tCallS (sp_law_same K) (WE W) (tCons (tCallS (sp_law_error K) (WE W) (tCons (tVar 4) (tCons (tC (.int 0)) (tCons (tOp (rAddP K) (tSl (rSlP K) (tVar 3) tNoPart (tPart (tC (.int 2)))) (tLst (tCons (tVar 7) (tCons (tC (.int 1001)) tNil)))) (tCons (tC (.int 0)) tNil))))) (tCons (tVar 8) tNil)))))) (tRet (tC (.bl false))) tNext)
    (tCut (tFor (iAnyP K (tLst (tCons (tC (.int 1)) (tCons (tC (.int 2)) tNil)))) (gName 9) (tIfS (tNot (tB (tCallS (sp_law_same K) (WE W) (tCons (tCallS (sp_law_error K) (WE W) (tCons (tVar 4) (tCons (tVar 9) (tCons (tVar 7) (tCons (tUn (rU fun i => .int (-i)) (tC (.int 1))) tNil))))) (tCons (tVar 8) tNil))))) (tRet (tC (.bl false))) tNext))
    (tCut (tIfS (tOr (tNot (tB (tCallS (sp_law_added K) (WE W) (tCons (tVar 4) (tCons (tVar 2) (tCons (tVar 6) (tCons (tVar 5) tNil))))))) (tNot (tB (tCallS (sp_law_added K) (WE W) (tCons (tVar 6) (tCons (tVar 5) (tCons (tVar 4) (tCons (tVar 2) tNil)))))))) (tRet (tC (.bl false))) tNext)
    (tCut (tIfS (tOr (tNot (tB (tCallS (sp_law_added K) (WE W) (tCons (tVar 4) (tCons (tVar 2) (tCons (Cl.tOpS (Cl.rMix [(ga K "Mixture", sp_Mixture_mul K, sp_Mixture_rmul K)] (WE W) rMulP) (tVar 4) (tC (.int 1))) (tCons (tVar 2) tNil))))))) (tNot (tB (tCallS (sp_law_added K) (WE W) (tCons (tVar 4) (tCons (tVar 2) (tCons (Cl.tMakeS (ga K "Mixture") (spV_Mixture_init K) (WE W) tNil) (tCons tDNewK tNil)))))))) (tRet (tC (.bl false))) tNext)
    (tSeq (tAsg (tCallS (sp_law_take K) (WE W) (tCons (tVar 1) (tCons (tC (.int 60)) tNil))) (gName 10))
    (tCut (tFor (iAnyP K (tLst (tCons (tC (.int 0)) (tCons (tC (.int 1)) (tCons (tC (.int 2)) (tCons (tVar 10) (tCons (tOp rSubP (tUn (rU fun i => .int (-i)) (tC (.int 1))) (tVar 10)) (tCons (tC (.int 1000000)) (tCons (tOp (rAddP K) (tOp rPowP (tC (.int 10)) (tC (.int 12))) (tVar 10)) tNil))))))))) (gName 11) (tIfS (tNot (tB (tCallS (sp_law_multiplied K) (WE W) (tCons (tVar 4) (tCons (tVar 2) (tCons (tVar 11) tNil)))))) (tRet (tC (.bl false))) tNext))
    (tCut (tIfS (tNot (tB (tCallS (sp_law_equal K) (WE W) (tCons (tVar 4) (tCons (tVar 2) tNil))))) (tRet (tC (.bl false))) tNext)
    (tRet (tCallS (sp_law_in_place K) (WE W) (tCons (tVar 4) (tCons (tVar 2) (tCons (tVar 6) (tCons (tVar 5) tNil))))))))))))))))))))))
def d_law (WD : DW) : DS := (dSeq (dAsg dNewK (dgName 2))
    (dSeq (dAsg (dCall WD dsp_law_drawn (dCons (dVar 1) (dCons (dVar 2) dNil))) (dgName 3))
    (dSeq (dAsg (dCall WD dsp_law_mixed (dCons (dVar 3) dNil)) (dgName 4))
    (dSeq (dAsg dNewK (dgName 5))
    (dSeq (dAsg (dCall WD dsp_law_mixed (dCons (dCall WD dsp_law_drawn (dCons (dVar 1) (dCons (dVar 5) dNil))) dNil)) (dgName 6))
    (dCut (dIfS (dOr (dNot (dTest (dCall WD dsp_law_are (dCons (dVar 4) (dCons (dVar 2) dNil))))) (dNot (dTest (dCall WD dsp_law_same (dCons (dC (.int 1000000)) (dCons (dC (.int 1000000)) dNil)))))) (dRet (dC (.bl false))) dNext)
    (dCut (dIfS (dOr (dNot (dTest (dCall WD dsp_law_settings (dCons (dVar 1) (dCons (dVar 4) (dCons (dVar 2) dNil)))))) (dNot (dTest (dCall WD dsp_law_settings (dCons (dVar 1) (dCons (dVar 6) (dCons (dVar 5) dNil))))))) (dRet (dC (.bl false))) dNext)
    (dSeq (dAsg (dCall WD dsp_law_outside (dCons (dVar 1) dNil)) (dgName 7))
    (dSeq (dAsg (dLst false (dCons (dC (.str "number")) (dCons (dVar 7) (dCons (dC (.bl true)) dNil)))) (dgName 8))
    (dCut (dIfS (dOr (dTest (dOpS (dInO false (edW WD) [("Mixture", dsp_Mixture_contains)]) (dVar 7) (dVar 4))) (dNot (dTest (dCall WD dsp_law_same (dCons (dCall WD dsp_law_error (dCons (dVar 4) (dCons (dC (.int 0)) (dCons (dOp (dAdd false) (dSl false (dVar 3) dNoPart (dPart (dC (.int 2)))) (dLst false (dCons (dVar 7) (dCons (dC (.int 1001)) dNil)))) (dCons (dC (.int 0)) dNil))))) (dCons (dVar 8) dNil)))))) (dRet (dC (.bl false))) dNext)
    (dCut (dFor (dAny (dLst false (dCons (dC (.int 1)) (dCons (dC (.int 2)) dNil)))) (dgName 9) (dIfS (dNot (dTest (dCall WD dsp_law_same (dCons (dCall WD dsp_law_error (dCons (dVar 4) (dCons (dVar 9) (dCons (dVar 7) (dCons (dUn dNeg (dC (.int 1))) dNil))))) (dCons (dVar 8) dNil))))) (dRet (dC (.bl false))) dNext))
    (dCut (dIfS (dOr (dNot (dTest (dCall WD dsp_law_added (dCons (dVar 4) (dCons (dVar 2) (dCons (dVar 6) (dCons (dVar 5) dNil))))))) (dNot (dTest (dCall WD dsp_law_added (dCons (dVar 6) (dCons (dVar 5) (dCons (dVar 4) (dCons (dVar 2) dNil)))))))) (dRet (dC (.bl false))) dNext)
    (dCut (dIfS (dOr (dNot (dTest (dCall WD dsp_law_added (dCons (dVar 4) (dCons (dVar 2) (dCons (dOpS (dMix (edW WD) [("Mixture", dsp_Mixture_mul, dsp_Mixture_rmul)] dMul) (dVar 4) (dC (.int 1))) (dCons (dVar 2) dNil))))))) (dNot (dTest (dCall WD dsp_law_added (dCons (dVar 4) (dCons (dVar 2) (dCons (dCall WD dsp_Mixture_init dNil) (dCons dNewK dNil)))))))) (dRet (dC (.bl false))) dNext)
    (dSeq (dAsg (dCall WD dsp_law_take (dCons (dVar 1) (dCons (dC (.int 60)) dNil))) (dgName 10))
    (dCut (dFor (dAny (dLst false (dCons (dC (.int 0)) (dCons (dC (.int 1)) (dCons (dC (.int 2)) (dCons (dVar 10) (dCons (dOp dSub (dUn dNeg (dC (.int 1))) (dVar 10)) (dCons (dC (.int 1000000)) (dCons (dOp (dAdd false) (dOp dPow (dC (.int 10)) (dC (.int 12))) (dVar 10)) dNil))))))))) (dgName 11) (dIfS (dNot (dTest (dCall WD dsp_law_multiplied (dCons (dVar 4) (dCons (dVar 2) (dCons (dVar 11) dNil)))))) (dRet (dC (.bl false))) dNext))
    (dCut (dIfS (dNot (dTest (dCall WD dsp_law_equal (dCons (dVar 4) (dCons (dVar 2) dNil))))) (dRet (dC (.bl false))) dNext)
    (dRet (dCall WD dsp_law_in_place (dCons (dVar 4) (dCons (dVar 2) (dCons (dVar 6) (dCons (dVar 5) dNil))))))))))))))))))))))
theorem sim_law {K : PySem.W.Frag} (W : WX) (WD : DW) : SimS K W WD (tr_law K W) (d_law WD) := by
  unfold tr_law d_law
  exact (sim_seq (sim_asg sim_newK sim_gname)
      (sim_seq (sim_asg (sim_callS (fun _ _ _ _ h => h) (sim_cons sim_var (sim_cons sim_var sim_nil))) sim_gname)
      (sim_seq (sim_asg (sim_callS (fun _ _ _ _ h => h) (sim_cons sim_var sim_nil)) sim_gname)
      (sim_seq (sim_asg sim_newK sim_gname)
      (sim_seq (sim_asg (sim_callS (fun _ _ _ _ h => h) (sim_cons (sim_callS (fun _ _ _ _ h => h) (sim_cons sim_var (sim_cons sim_var sim_nil))) sim_nil)) sim_gname)
      (sim_cut (sim_ifS (sim_or (sim_not (sim_tB (sim_callS (fun _ _ _ _ h => h) (sim_cons sim_var (sim_cons sim_var sim_nil))))) (sim_not (sim_tB (sim_callS (fun _ _ _ _ h => ad_law_same h) (sim_cons (sim_cls fun _ _ => .int _) (sim_cons (sim_c fun _ _ => .int _) sim_nil)))))) (sim_ret (sim_c fun _ _ => .bl _)) sim_next)
      (sim_cut (sim_ifS (sim_or (sim_not (sim_tB (sim_callS (fun _ _ _ _ h => h) (sim_cons sim_var (sim_cons sim_var (sim_cons sim_var sim_nil)))))) (sim_not (sim_tB (sim_callS (fun _ _ _ _ h => h) (sim_cons sim_var (sim_cons sim_var (sim_cons sim_var sim_nil))))))) (sim_ret (sim_c fun _ _ => .bl _)) sim_next)
      (sim_seq (sim_asg (sim_callS (fun _ _ _ _ h => h) (sim_cons sim_var sim_nil)) sim_gname)
      (sim_seq (sim_asg (sim_lst (sim_cons (sim_c fun _ _ => .str _) (sim_cons sim_var (sim_cons (sim_c fun _ _ => .bl _) sim_nil)))) sim_gname)
      (sim_cut (sim_ifS (sim_or (sim_test (sim_opS (ops_inO (.cons (fun _ _ _ _ h => h) .nil) eo_w) sim_var sim_var)) (sim_not (sim_tB (sim_callS (fun _ _ _ _ h => ad_law_same h) (sim_cons (sim_callS (fun _ _ _ _ h => h) (sim_cons sim_var (sim_cons (sim_c fun _ _ => .int _) (sim_cons (sim_op op_add (sim_sl sim_var sim_nopart (sim_part (sim_c fun _ _ => .int _))) (sim_lst (sim_cons sim_var (sim_cons (sim_c fun _ _ => .int _) sim_nil)))) (sim_cons (sim_c fun _ _ => .int _) sim_nil))))) (sim_cons sim_var sim_nil)))))) (sim_ret (sim_c fun _ _ => .bl _)) sim_next)
      (sim_cut (sim_for (sim_any (sim_lst (sim_cons (sim_c fun _ _ => .int _) (sim_cons (sim_c fun _ _ => .int _) sim_nil)))) sim_gname (sim_ifS (sim_not (sim_tB (sim_callS (fun _ _ _ _ h => ad_law_same h) (sim_cons (sim_callS (fun _ _ _ _ h => h) (sim_cons sim_var (sim_cons sim_var (sim_cons sim_var (sim_cons (sim_neg (sim_c fun _ _ => .int _)) sim_nil))))) (sim_cons sim_var sim_nil))))) (sim_ret (sim_c fun _ _ => .bl _)) sim_next))
      (sim_cut (sim_ifS (sim_or (sim_not (sim_tB (sim_callS (fun _ _ _ _ h => h) (sim_cons sim_var (sim_cons sim_var (sim_cons sim_var (sim_cons sim_var sim_nil))))))) (sim_not (sim_tB (sim_callS (fun _ _ _ _ h => h) (sim_cons sim_var (sim_cons sim_var (sim_cons sim_var (sim_cons sim_var sim_nil)))))))) (sim_ret (sim_c fun _ _ => .bl _)) sim_next)
      (sim_cut (sim_ifS (sim_or (sim_not (sim_tB (sim_callS (fun _ _ _ _ h => h) (sim_cons sim_var (sim_cons sim_var (sim_cons (sim_opS (ops_mix (.cons (fun _ _ _ _ h => h) (fun _ _ _ _ h => h) .nil) eo_w op_mul) sim_var (sim_c fun _ _ => .int _)) (sim_cons sim_var sim_nil))))))) (sim_not (sim_tB (sim_callS (fun _ _ _ _ h => h) (sim_cons sim_var (sim_cons sim_var (sim_cons (sim_make (fun _ _ _ _ h => ad_Mixture_init h) sim_nil) (sim_cons sim_newK sim_nil)))))))) (sim_ret (sim_c fun _ _ => .bl _)) sim_next)
      (sim_seq (sim_asg (sim_callS (fun _ _ _ _ h => ad_law_take h) (sim_cons sim_var (sim_cons (sim_c fun _ _ => .int _) sim_nil))) sim_gname)
      (sim_cut (sim_for (sim_any (sim_lst (sim_cons (sim_c fun _ _ => .int _) (sim_cons (sim_c fun _ _ => .int _) (sim_cons (sim_c fun _ _ => .int _) (sim_cons sim_var (sim_cons (sim_op op_sub (sim_neg (sim_c fun _ _ => .int _)) sim_var) (sim_cons (sim_c fun _ _ => .int _) (sim_cons (sim_op op_add (sim_op op_pow (sim_c fun _ _ => .int _) (sim_c fun _ _ => .int _)) sim_var) sim_nil))))))))) sim_gname (sim_ifS (sim_not (sim_tB (sim_callS (fun _ _ _ _ h => h) (sim_cons sim_var (sim_cons sim_var (sim_cons sim_var sim_nil)))))) (sim_ret (sim_c fun _ _ => .bl _)) sim_next))
      (sim_cut (sim_ifS (sim_not (sim_tB (sim_callS (fun _ _ _ _ h => h) (sim_cons sim_var (sim_cons sim_var sim_nil))))) (sim_ret (sim_c fun _ _ => .bl _)) sim_next)
      (sim_ret (sim_callS (fun _ _ _ _ h => h) (sim_cons sim_var (sim_cons sim_var (sim_cons sim_var (sim_cons sim_var sim_nil))))))))))))))))))))))
structure LwS (S : Sto) (n m t n2 m2 t2 : Nat) (f g : Cnt) : Prop where
  src : IsSrc S 0
  mx : IsMx S n m f
  tb : IsTb S t f
  mx2 : IsMx S n2 m2 g
  tb2 : IsTb S t2 g
  ok : CntOk f
  ok2 : CntOk g
theorem LwS.grow {S S' : Sto} {n m t n2 m2 t2 : Nat} {f g : Cnt} (h : LwS S n m t n2 m2 t2 f g) (st : Stay S S' []) : LwS S' n m t n2 m2 t2 f g :=
  ⟨src_stay h.src st (by simp), h.mx.stay st (by simp) (by simp), h.tb.stay st (by simp), h.mx2.stay st (by simp) (by simp), h.tb2.stay st (by simp), h.ok, h.ok2⟩
theorem LwS.set {S : Sto} {n m t n2 m2 t2 : Nat} {f g : Cnt} (h : LwS S n m t n2 m2 t2 f g) {c : D} (ic : IsSrcD c) (hn : 0 < n) (hm : 0 < m) (ht : 0 < t) (hn2 : 0 < n2) (hm2 : 0 < m2) (ht2 : 0 < t2) : LwS (S.set 0 c) n m t n2 m2 t2 f g := by
  have st : Stay S (S.set 0 c) [0] := ((Stay.refl S).mono (k := [0]) fun x h => by cases h).set List.mem_cons_self
  have no : ∀ {x : Nat}, 0 < x → x ∉ [0] := fun h e => by rw [List.mem_singleton.mp e] at h; omega
  exact ⟨h.src.set ic, h.mx.stay st (no hn) (no hm), h.tb.stay st (no ht), h.mx2.stay st (no hn2) (no hm2), h.tb2.stay st (no ht2), h.ok, h.ok2⟩
theorem dpure_law {c : D} (ic : IsSrcD c) : d_law (fun _ _ _ _ => False) { nx := fun _ _ => False, rt := fun d _ => d = .bl true, b := 1 } ((List.replicate 12 none).set 1 (some (.hdl 0))) [c] := by
  show d_law _ _ [none, some (.hdl 0), none, none, none, none, none, none, none, none, none, none] [c]
  unfold d_law
  walk_at "dd"
  refine ⟨_, _, rfl, 0, 1, rfl, rfl, ⟨c, rfl, ic⟩, rfl, by decide, fun S1 r ns st1 hs1 hr lr ln hb T => ?_⟩
  have l1 := st1.1
  have l1 : 2 ≤ S1.length := l1
  have lr : 2 ≤ r := lr
  have lrS := lt_of_at hr
  walk_at "dd"
  refine ⟨_, rfl, ns, rs_h hr, ln, fun k hk => (by rw [bad_none hb] at hk; cases hk), fun _ => ?_⟩
  have st2 : Stay S1 (S1 ++ [mxO (S1.length + 1), .dic false (kvM (cntL ns))]) [] := (Stay.refl S1).app _
  have M : IsMx (S1 ++ [mxO (S1.length + 1), .dic false (kvM (cntL ns))]) S1.length (S1.length + 1) (cntL ns) := ⟨at2_0, at2_1⟩
  have hs2 := src_stay hs1 st2 (by simp)
  have T := T.stay st2 (by simp)
  have hr := st2.2 _ _ hr (by simp)
  have l2 : (S1 ++ [mxO (S1.length + 1), .dic false (kvM (cntL ns))]).length = S1.length + 2 := by rw [List.length_append]; rfl
  generalize S1 ++ [mxO (S1.length + 1), .dic false (kvM (cntL ns))] = S2 at st2 M hs2 T hr l2 ⊢
  obtain ⟨n, en⟩ : ∃ n, S1.length = n := ⟨_, rfl⟩
  rw [en] at M l2 l1 lrS ⊢
  walk_at "dd"
  have st3 : Stay S2 (S2 ++ [.dic false []]) [] := (Stay.refl S2).app _
  have M := M.stay st3 (by simp) (by simp)
  have T := T.stay st3 (by simp)
  have hr := st3.2 _ _ hr (by simp)
  have hs3 := src_stay hs2 st3 (by simp)
  refine ⟨_, _, rfl, 0, S2.length, rfl, rfl, hs3, atL, by omega, fun S4 r2 ns2 st4 hs4 hr2 lr2 ln2 hb2 T2 => ?_⟩
  have l4 : S2.length + 1 ≤ S4.length := by have := st4.1; rw [List.length_append] at this; exact this
  have no4 : ∀ {x : Nat}, 0 < x → x < S2.length → x ∉ [0, S2.length] := fun h1 h2 e => by
    simp only [List.mem_cons, List.not_mem_nil, or_false] at e
    omega
  have M := M.stay st4 (no4 (by omega) (by omega)) (no4 (by omega) (by omega))
  have T := T.stay st4 (no4 (by omega) (by omega))
  have hr := st4.2 _ _ hr (no4 (by omega) (by omega))
  obtain ⟨t2, et2⟩ : ∃ t, S2.length = t := ⟨_, rfl⟩
  rw [et2] at T2 l4 l2 ⊢
  clear st1 st2 st3 st4 no4
  walk_at "dd"
  refine ⟨_, rfl, ns2, rs_h hr2, ln2, fun k hk => (by rw [bad_none hb2] at hk; cases hk), fun _ => ?_⟩
  have st5 : Stay S4 (S4 ++ [mxO (S4.length + 1), .dic false (kvM (cntL ns2))]) [] := (Stay.refl S4).app _
  have M2 : IsMx (S4 ++ [mxO (S4.length + 1), .dic false (kvM (cntL ns2))]) S4.length (S4.length + 1) (cntL ns2) := ⟨at2_0, at2_1⟩
  have hs5 := src_stay hs4 st5 (by simp)
  have M := M.stay st5 (by simp) (by simp)
  have T := T.stay st5 (by simp)
  have T2 := T2.stay st5 (by simp)
  have hr := st5.2 _ _ hr (by simp)
  generalize S4 ++ [mxO (S4.length + 1), .dic false (kvM (cntL ns2))] = S5 at st5 M2 hs5 M T T2 hr ⊢
  obtain ⟨n2, en2⟩ : ∃ n, S4.length = n := ⟨_, rfl⟩
  rw [en2] at M2 l4 ⊢
  have W : LwS S5 n (n + 1) 1 n2 (n2 + 1) t2 (cntL ns) (cntL ns2) := ⟨hs5, M, T, M2, T2, cnt_ok (by omega) hb, cnt_ok (by omega) hb2⟩
  clear hs1 hs2 hs3 hs4 hs5 M T M2 T2 hr2 st5
  walk_at "dd"
  refine w_nocut ?_
  walk_at "dd"
  have lr : 0 < r := by omega
  have b1 := lt_of_at W.mx2.1
  have b2 := lt_of_at W.mx2.2
  obtain ⟨L2, hT2, _⟩ := id W.tb2
  have b3 := lt_of_at hT2
  refine ⟨_, _, rfl, n, n + 1, 1, cntL ns, rfl, rfl, W.mx, W.tb, W.ok, ?_⟩
  walk_at "dd"
  refine s_itF rfl ?_
  walk_at "dd"
  refine same_d rfl rfl plain_int trivial ?_
  walk_at "dd"
  refine s_itF rfl ?_
  walk_at "dd"
  refine w_nocut ?_
  walk_at "dd"
  refine ⟨_, _, _, rfl, 0, n, n + 1, 1, cntL ns, rfl, rfl, rfl, W.src, W.mx, W.tb, W.ok, by omega, by omega, by omega, by omega, by omega, by omega, fun S6 m f B => ?_⟩
  have no : ∀ {x : Nat}, 0 < x → x ≠ n → x ≠ 1 → x ∉ [0, n, 1] := fun h1 h2 h3 e => by
    simp only [List.mem_cons, List.not_mem_nil, or_false] at e
    omega
  have sep := B.sep
  have l6 := B.st.1
  have hr := B.st.2 _ _ hr (no lr (by omega) (by omega))
  have W : LwS S6 n m 1 n2 (n2 + 1) t2 f (cntL ns2) := ⟨B.src, B.mx, B.tb, W.mx2.stay B.st (no (by omega) (by omega) (by omega)) (no (by omega) (by omega) (by omega)), W.tb2.stay B.st (no (by omega) (by omega) (by omega)), B.ok, W.ok2⟩
  clear B no
  walk_at "dd"
  refine s_itF rfl ?_
  walk_at "dd"
  refine ⟨_, _, _, rfl, 0, n2, n2 + 1, t2, cntL ns2, rfl, rfl, rfl, W.src, W.mx2, W.tb2, W.ok2, by omega, by omega, by omega, by omega, by omega, by omega, fun S7 m2 g B => ?_⟩
  have no : ∀ {x : Nat}, 0 < x → x ≠ n2 → x ≠ t2 → x ∉ [0, n2, t2] := fun h1 h2 h3 e => by
    simp only [List.mem_cons, List.not_mem_nil, or_false] at e
    omega
  have sep2 := B.sep
  have hr := B.st.2 _ _ hr (no lr (by omega) (by omega))
  have W : LwS S7 n m 1 n2 m2 t2 f g := ⟨B.src, W.mx.stay B.st (no (by omega) (by omega) (by omega)) (no (by omega) (by omega) (by omega)), W.tb.stay B.st (no (by omega) (by omega) (by omega)), B.mx, B.tb, W.ok, B.ok⟩
  clear B no
  walk_at "dd"
  refine s_itF rfl ?_
  walk_at "dd"
  refine ⟨_, rfl, 0, rfl, W.src, fun c8 wr ic8 hwr => ?_⟩
  have W := W.set ic8 (by omega) (by omega) (by omega) (by omega) (by omega) (by omega)
  have hr : (S7.set 0 c8)[r]? = some (.lst (ns.map .int)) := by rw [List.getElem?_set_ne (by omega)]; exact hr
  generalize S7.set 0 c8 = S8 at W hr ⊢
  walk_at "dd"
  refine ⟨three_leM, ?_⟩
  walk_at "dd"
  refine w_nocut ?_
  walk_at "dd"
  have hnk : wr ∉ keysM f := fun h => hwr (mem_keysM.mp h).1
  refine .inr ⟨_, _, dsp_Mixture_contains, rs_h W.mx.1, by walk_at "mem", ?_⟩
  refine ⟨_, _, rfl, n, m, f, wr, rfl, rfl, W.mx, ?_⟩
  rw [decide_eq_false hnk]
  walk_at "dd"
  refine s_itF rfl ?_
  walk_at "dd"
  have ecut : Dx.cutD (ns.map D.int) none (some (2 : Int)) = (ns.take 2).map .int := by rw [List.map_take]; exact cutToA (n := 2)
  refine .lst (ds := ns.map .int) (rs_h hr) ?_
  rw [ecut]
  unfold newAt
  walk_at "dd"
  refine ⟨two_leM, ?_⟩
  walk_at "dd"
  have lt2 : (ns.take 2).length ≤ 2 := by rw [List.length_take]; omega
  refine .lst (ds := (ns.take 2).map .int) (es := [wr, 1001].map .int) rfl rfl (by rw [List.length_map, List.length_map, sizeLine_eq]; simp; omega) ?_
  rw [← List.map_append]
  unfold newAt
  walk_at "dd"
  have ebad : badM (ns.take 2 ++ [wr, 1001]) = some wr := by
    unfold badM
    rw [List.find?_append, List.find?_eq_none.mpr fun x hx => by rw [decide_eq_true (hb x (List.mem_of_mem_take hx))]; decide, Option.none_or]
    exact List.find?_cons_of_pos (by rw [decide_eq_false hwr]; rfl)
  refine ⟨_, _, _, _, rfl, .inl ⟨ns.take 2 ++ [wr, 1001], wr, rfl, rfl, by rw [List.length_append]; simp; omega, ebad, ?_⟩⟩
  walk_at "dd"
  refine same_d rfl rfl plain_numE fit_numE ?_
  walk_at "dd"
  refine s_itF rfl ?_
  walk_at "dd"
  refine w_cut (fun ρ' S' => S8 = S' ∧ ∃ v, ρ' = [none, some (.hdl 0), some (.hdl 1), some (.hdl r), some (.hdl n), some (.hdl t2), some (.hdl n2), some (.int wr), some (numE wr), v, none, none]) ?_ ?_
  · walk_at "dd"
    refine ⟨two_leM, ?_⟩
    walk_at "dd"
    refine .seq (ds := [1, 2].map .int) sq_l ?_
    refine ⟨fun i ρ' S' => S8 = S' ∧ ∃ v, ρ' = [none, some (.hdl 0), some (.hdl 1), some (.hdl r), some (.hdl n), some (.hdl t2), some (.hdl n2), some (.int wr), some (numE wr), v, none, none], ⟨rfl, _, rfl⟩, fun _ _ _ _ _ => sq_l, ?_, fun ρ' S' h => h⟩
    rintro i d ρ' S' hd ⟨rfl, v, rfl⟩
    obtain ⟨way, ew, rfl⟩ := map_at (show ([1, 2].map D.int)[i]? = some d from hd)
    have hw := List.mem_of_getElem? ew
    simp only [List.mem_cons, List.not_mem_nil, or_false] at hw
    walk_at "dd"
    have go : ∀ {Q' : DQ} {E'' : DX}, Q' (numE wr) S8 → dsp_law_error [.hdl n, .int way, .int wr, .int (-1)] S8 Q' E'' := fun {Q' E''} q => ⟨_, _, _, _, rfl, .inr ⟨n, m, f, rfl, W.mx, W.ok, by
      rcases hw with rfl | rfl
      · exact .inl ⟨wr, rfl, rfl, hwr, q⟩
      · exact .inr (.inl ⟨wr, -1, rfl, rfl, rfl, fun _ => q, fun h => absurd h hwr, fun h => absurd h hwr⟩)⟩⟩
    refine go ?_
    walk_at "dd"
    refine same_d rfl rfl plain_numE fit_numE ?_
    walk_at "dd"
    refine s_itF rfl ?_
    walk_at "dd"
    exact ⟨rfl, _, rfl⟩
  rintro ρ' S' ⟨rfl, v, rfl⟩
  walk_at "dd"
  refine w_nocut ?_
  walk_at "dd"
  refine ⟨_, _, _, _, rfl, n, m, 1, n2, m2, t2, f, g, rfl, rfl, rfl, rfl, W.mx, W.tb, W.mx2, W.tb2, W.ok, W.ok2, fun S9 st => ?_⟩
  have W := W.grow st
  walk_at "dd"
  refine s_itF rfl ?_
  walk_at "dd"
  refine ⟨_, _, _, _, rfl, n2, m2, t2, n, m, 1, g, f, rfl, rfl, rfl, rfl, W.mx2, W.tb2, W.mx, W.tb, W.ok2, W.ok, fun S10 st => ?_⟩
  have W := W.grow st
  walk_at "dd"
  refine s_itF rfl ?_
  walk_at "dd"
  refine w_nocut ?_
  walk_at "dd"
  refine .inr ⟨"Mixture", dsp_Mixture_mul, dsp_Mixture_rmul, List.mem_cons_self, .inl ⟨_, rs_h W.mx.1, .inr ⟨1, rfl⟩, ?_⟩⟩
  refine ⟨_, _, rfl, n, m, f, 1, rfl, rfl, W.mx, W.ok, fun h => absurd h (by decide), fun _ j hj => (by rw [over_one W.ok] at hj; cases hj), fun _ _ => ?_⟩
  have e1 : timesC f 1 = f := funext fun x => Int.mul_one _
  rw [e1]
  have st : Stay S10 (S10 ++ [.dic false (kvM f), mxO S10.length]) [] := (Stay.refl S10).app _
  have Ma : IsMx (S10 ++ [.dic false (kvM f), mxO S10.length]) (S10.length + 1) S10.length f := ⟨at2_1, at2_0⟩
  have W := W.grow st
  generalize S10 ++ [.dic false (kvM f), mxO S10.length] = S11 at Ma W ⊢
  walk_at "dd"
  refine ⟨_, _, _, _, rfl, n, m, 1, _, _, 1, f, f, rfl, rfl, rfl, rfl, W.mx, W.tb, Ma, W.tb, W.ok, W.ok, fun S12 st => ?_⟩
  have W := W.grow st
  walk_at "dd"
  refine s_itF rfl ?_
  walk_at "dd"
  refine ⟨_, _, rfl, .inl ⟨[], rfl, rfl, by decide, fun k hk => (by cases hk), fun _ => ?_⟩⟩
  have st : Stay S12 (S12 ++ [mxO (S12.length + 1), .dic false (kvM (cntL []))]) [] := (Stay.refl S12).app _
  have Ma : IsMx (S12 ++ [mxO (S12.length + 1), .dic false (kvM (cntL []))]) S12.length (S12.length + 1) (cntL []) := ⟨at2_0, at2_1⟩
  have W := W.grow st
  generalize S12 ++ [mxO (S12.length + 1), .dic false (kvM (cntL []))] = S13 at Ma W ⊢
  walk_at "dd"
  have st : Stay S13 (S13 ++ [.dic false []]) [] := (Stay.refl S13).app _
  have Ma := Ma.stay st (by simp) (by simp)
  have Ta : IsTb (S13 ++ [.dic false []]) S13.length (cntL []) := tb_zero atL fun _ => rfl
  have W := W.grow st
  generalize S13 ++ [.dic false []] = S14 at Ma Ta W ⊢
  refine ⟨_, _, _, _, rfl, n, m, 1, _, _, _, f, cntL [], rfl, rfl, rfl, rfl, W.mx, W.tb, Ma, Ta, W.ok, cnt_ok (by decide) (fun n h => by cases h), fun S15 st => ?_⟩
  have W := W.grow st
  walk_at "dd"
  refine s_itF rfl ?_
  walk_at "dd"
  refine take_d W.src (by decide) (by decide) fun c16 sm ic16 _ _ => ?_
  have W := W.set ic16 (by omega) (by omega) (by omega) (by omega) (by omega) (by omega)
  generalize S15.set 0 c16 = S16 at W ⊢
  refine w_cut (fun ρ' S' => LwS S' n m 1 n2 m2 t2 f g ∧ ∃ u, ρ' = [none, some (.hdl 0), some (.hdl 1), some (.hdl r), some (.hdl n), some (.hdl t2), some (.hdl n2), some (.int wr), some (numE wr), v, some (.int sm), u]) ?_ ?_
  · walk_at "dd"
    refine ⟨_, _, rfl, rfl, ⟨by decide, by decide, by decide⟩, ?_⟩
    walk_at "dd"
    refine ⟨by rw [sizeLine_eq]; simp, ?_⟩
    walk_at "dd"
    refine .seq (ds := [0, 1, 2, sm, -1 - sm, 1000000, 10 ^ 12 + sm].map .int) sq_l ?_
    refine ⟨fun i ρ' S' => LwS S' n m 1 n2 m2 t2 f g ∧ ∃ u, ρ' = [none, some (.hdl 0), some (.hdl 1), some (.hdl r), some (.hdl n), some (.hdl t2), some (.hdl n2), some (.int wr), some (numE wr), v, some (.int sm), u], ⟨W, _, rfl⟩, fun _ _ _ _ _ => sq_l, ?_, fun ρ' S' h => h⟩
    rintro i d ρ' S' hd ⟨W, u, rfl⟩
    obtain ⟨k, ek, rfl⟩ := map_at (show ([0, 1, 2, sm, -1 - sm, 1000000, 10 ^ 12 + sm].map D.int)[i]? = some d from hd)
    walk_at "dd"
    refine ⟨_, _, _, rfl, n, m, 1, f, k, rfl, rfl, rfl, W.mx, W.tb, W.ok, fun S17 st => ?_⟩
    have W := W.grow st
    walk_at "dd"
    refine s_itF rfl ?_
    walk_at "dd"
    exact ⟨W, _, rfl⟩
  rintro ρ' S' ⟨W, u, rfl⟩
  refine w_nocut ?_
  walk_at "dd"
  refine ⟨_, _, rfl, n, m, 1, f, rfl, rfl, W.mx, W.tb, W.ok, fun S18 st => ?_⟩
  have W := W.grow st
  walk_at "dd"
  refine s_itF rfl ?_
  walk_at "dd"
  exact ⟨_, _, _, _, rfl, n, m, 1, n2, m2, t2, f, g, rfl, rfl, rfl, rfl, by omega, by omega, by omega, by omega, W.mx, W.tb, W.mx2, W.tb2, W.ok, W.ok2, fun _ => rfl⟩
theorem pure_law {K : PySem.W.Frag} {vs : List V} {H : Hp} {Q : VK} {E : XK} {W : WX} (h : sp_law K vs H Q E) : t_law K W { nx := fun _ H' => Q .non H', rt := Q } (start N_law vs) H := by
  obtain ⟨x, rfl, a, ns, rfl, hS, hl, hq⟩ := h
  show t_law K W _ [some (.ref a), none, none, none, none, none, none, none, none, none, none, none] H
  unfold t_law
  walk_at "ss"
  refine ⟨_, rfl, a, ns, rfl, hS, hl, fun H1 s s1 hs S1 => ?_⟩
  show tr_law K W { nx := fun _ H' => Q .non H', rt := Q } [some (.ref a), some (.ref s), none, none, none, none, none, none, none, none, none, none] H1
  exact law_go (m := 12) (sim_law W _) S1 rfl rfl hq fun c ic => dpure_law ic
end Rd
end
namespace Ok
open PySem PySem.Spec PyProof.Rows L2 He Hk Px Rd
structure Tx (w : World) (K : PySem.W.Frag) (mg : PySem.Str → Option Value) : Prop where
  c : SaysZ Hd.fa Hd.ex Hd.its K
  g : ∃ h : Heap, K.In h ∧ h.Ns mainGlobals mg
section
variable {w : World} {K : PySem.W.Frag} {mg : PySem.Str → Option Value}
theorem Tx.g_check_number (T : Tx w K mg) : mg "check_number" = some (.ref (ga K "check_number")) := by
  obtain ⟨h, X, G⟩ := T.g
  exact glo_ok X G (T.c.fact 0 (f := .glo "check_number") rfl)
theorem Tx.g_tally (T : Tx w K mg) : mg "tally" = some (.ref (ga K "tally")) := by
  obtain ⟨h, X, G⟩ := T.g
  exact glo_ok X G (T.c.fact 1 (f := .glo "tally") rfl)
theorem Tx.g_summed (T : Tx w K mg) : mg "summed" = some (.ref (ga K "summed")) := by
  obtain ⟨h, X, G⟩ := T.g
  exact glo_ok X G (T.c.fact 2 (f := .glo "summed") rfl)
theorem Tx.g_multiplied_counts (T : Tx w K mg) : mg "multiplied_counts" = some (.ref (ga K "multiplied_counts")) := by
  obtain ⟨h, X, G⟩ := T.g
  exact glo_ok X G (T.c.fact 3 (f := .glo "multiplied_counts") rfl)
theorem Tx.g_law_source (T : Tx w K mg) : mg "_law_source" = some (.ref (ga K "_law_source")) := by
  obtain ⟨h, X, G⟩ := T.g
  exact glo_ok X G (T.c.fact 4 (f := .glo "_law_source") rfl)
theorem Tx.g_law_take (T : Tx w K mg) : mg "_law_take" = some (.ref (ga K "_law_take")) := by
  obtain ⟨h, X, G⟩ := T.g
  exact glo_ok X G (T.c.fact 5 (f := .glo "_law_take") rfl)
theorem Tx.g_law_same (T : Tx w K mg) : mg "_law_same" = some (.ref (ga K "_law_same")) := by
  obtain ⟨h, X, G⟩ := T.g
  exact glo_ok X G (T.c.fact 6 (f := .glo "_law_same") rfl)
theorem Tx.g_law_mixed (T : Tx w K mg) : mg "_law_mixed" = some (.ref (ga K "_law_mixed")) := by
  obtain ⟨h, X, G⟩ := T.g
  exact glo_ok X G (T.c.fact 7 (f := .glo "_law_mixed") rfl)
theorem Tx.g_law_error (T : Tx w K mg) : mg "_law_error" = some (.ref (ga K "_law_error")) := by
  obtain ⟨h, X, G⟩ := T.g
  exact glo_ok X G (T.c.fact 8 (f := .glo "_law_error") rfl)
theorem Tx.g_law_are (T : Tx w K mg) : mg "_law_are" = some (.ref (ga K "_law_are")) := by
  obtain ⟨h, X, G⟩ := T.g
  exact glo_ok X G (T.c.fact 9 (f := .glo "_law_are") rfl)
theorem Tx.g_law_drawn (T : Tx w K mg) : mg "_law_drawn" = some (.ref (ga K "_law_drawn")) := by
  obtain ⟨h, X, G⟩ := T.g
  exact glo_ok X G (T.c.fact 10 (f := .glo "_law_drawn") rfl)
theorem Tx.g_law_outside (T : Tx w K mg) : mg "_law_outside" = some (.ref (ga K "_law_outside")) := by
  obtain ⟨h, X, G⟩ := T.g
  exact glo_ok X G (T.c.fact 11 (f := .glo "_law_outside") rfl)
theorem Tx.g_law_settings (T : Tx w K mg) : mg "_law_settings" = some (.ref (ga K "_law_settings")) := by
  obtain ⟨h, X, G⟩ := T.g
  exact glo_ok X G (T.c.fact 12 (f := .glo "_law_settings") rfl)
theorem Tx.g_law_sum (T : Tx w K mg) : mg "_law_sum" = some (.ref (ga K "_law_sum")) := by
  obtain ⟨h, X, G⟩ := T.g
  exact glo_ok X G (T.c.fact 13 (f := .glo "_law_sum") rfl)
theorem Tx.g_law_times (T : Tx w K mg) : mg "_law_times" = some (.ref (ga K "_law_times")) := by
  obtain ⟨h, X, G⟩ := T.g
  exact glo_ok X G (T.c.fact 14 (f := .glo "_law_times") rfl)
theorem Tx.g_law_over (T : Tx w K mg) : mg "_law_over" = some (.ref (ga K "_law_over")) := by
  obtain ⟨h, X, G⟩ := T.g
  exact glo_ok X G (T.c.fact 15 (f := .glo "_law_over") rfl)
theorem Tx.g_law_added (T : Tx w K mg) : mg "_law_added" = some (.ref (ga K "_law_added")) := by
  obtain ⟨h, X, G⟩ := T.g
  exact glo_ok X G (T.c.fact 16 (f := .glo "_law_added") rfl)
theorem Tx.g_law_multiplied (T : Tx w K mg) : mg "_law_multiplied" = some (.ref (ga K "_law_multiplied")) := by
  obtain ⟨h, X, G⟩ := T.g
  exact glo_ok X G (T.c.fact 17 (f := .glo "_law_multiplied") rfl)
theorem Tx.g_law_equal (T : Tx w K mg) : mg "_law_equal" = some (.ref (ga K "_law_equal")) := by
  obtain ⟨h, X, G⟩ := T.g
  exact glo_ok X G (T.c.fact 18 (f := .glo "_law_equal") rfl)
theorem Tx.g_law_in_place (T : Tx w K mg) : mg "_law_in_place" = some (.ref (ga K "_law_in_place")) := by
  obtain ⟨h, X, G⟩ := T.g
  exact glo_ok X G (T.c.fact 19 (f := .glo "_law_in_place") rfl)
theorem Tx.g_law (T : Tx w K mg) : mg "law" = some (.ref (ga K "law")) := by
  obtain ⟨h, X, G⟩ := T.g
  exact glo_ok X G (T.c.fact 20 (f := .glo "law") rfl)
theorem Tx.cls_Clause (T : Tx w K mg) : Cls K (ga K "Clause") := cls_ok (T.c.fact 22 (f := .cls "Clause") rfl)
theorem Tx.cls_Turning (T : Tx w K mg) : Cls K (ga K "Turning") := cls_ok (T.c.fact 25 (f := .cls "Turning") rfl)
theorem Tx.g_Book (T : Tx w K mg) : mg "Book" = some (.ref (ga K "Book")) := by
  obtain ⟨h, X, G⟩ := T.g
  exact glo_ok X G (T.c.fact 27 (f := .glo "Book") rfl)
theorem Tx.cls_Book (T : Tx w K mg) : Cls K (ga K "Book") := cls_ok (T.c.fact 28 (f := .cls "Book") rfl)
theorem Tx.no_Book_rows (T : Tx w K mg) : NoAttr K (ga K "Book") "rows" := noat_ok (T.c.fact 30 (f := .noat "Book" "rows") rfl)
theorem Tx.g_Mixture (T : Tx w K mg) : mg "Mixture" = some (.ref (ga K "Mixture")) := by
  obtain ⟨h, X, G⟩ := T.g
  exact glo_ok X G (T.c.fact 31 (f := .glo "Mixture") rfl)
theorem Tx.cls_Mixture (T : Tx w K mg) : Cls K (ga K "Mixture") := cls_ok (T.c.fact 32 (f := .cls "Mixture") rfl)
theorem Tx.mk_Mixture (T : Tx w K mg) : Mk K (ga K "Mixture") (ma K (ga K "Mixture") "__init__") := mkr_ok (T.c.fact 33 (f := .mkr "Mixture") rfl)
theorem Tx.no_Mixture_rows (T : Tx w K mg) : NoAttr K (ga K "Mixture") "rows" := noat_ok (T.c.fact 34 (f := .noat "Mixture" "rows") rfl)
theorem Tx.g_HornError (T : Tx w K mg) : mg "HornError" = some (.ref (ga K "HornError")) := by
  obtain ⟨h, X, G⟩ := T.g
  exact glo_ok X G (T.c.fact 35 (f := .glo "HornError") rfl)
theorem Tx.g_NoClause (T : Tx w K mg) : mg "NoClause" = some (.ref (ga K "NoClause")) := by
  obtain ⟨h, X, G⟩ := T.g
  exact glo_ok X G (T.c.fact 40 (f := .glo "NoClause") rfl)
theorem Tx.g_BadNumber (T : Tx w K mg) : mg "BadNumber" = some (.ref (ga K "BadNumber")) := by
  obtain ⟨h, X, G⟩ := T.g
  exact glo_ok X G (T.c.fact 41 (f := .glo "BadNumber") rfl)
theorem Tx.g_BadCount (T : Tx w K mg) : mg "BadCount" = some (.ref (ga K "BadCount")) := by
  obtain ⟨h, X, G⟩ := T.g
  exact glo_ok X G (T.c.fact 42 (f := .glo "BadCount") rfl)
theorem Tx.f_all (T : Tx w K mg) : mg "all" = none := by
  obtain ⟨h, X, G⟩ := T.g
  exact free_ok X G (T.c.fact 48 (f := .free "all") rfl)
theorem Tx.f_bool (T : Tx w K mg) : mg "bool" = none := by
  obtain ⟨h, X, G⟩ := T.g
  exact free_ok X G (T.c.fact 49 (f := .free "bool") rfl)
theorem Tx.f_dict (T : Tx w K mg) : mg "dict" = none := by
  obtain ⟨h, X, G⟩ := T.g
  exact free_ok X G (T.c.fact 51 (f := .free "dict") rfl)
theorem Tx.f_int (T : Tx w K mg) : mg "int" = none := by
  obtain ⟨h, X, G⟩ := T.g
  exact free_ok X G (T.c.fact 52 (f := .free "int") rfl)
theorem Tx.f_isinstance (T : Tx w K mg) : mg "isinstance" = none := by
  obtain ⟨h, X, G⟩ := T.g
  exact free_ok X G (T.c.fact 53 (f := .free "isinstance") rfl)
theorem Tx.f_iter (T : Tx w K mg) : mg "iter" = none := by
  obtain ⟨h, X, G⟩ := T.g
  exact free_ok X G (T.c.fact 54 (f := .free "iter") rfl)
theorem Tx.f_len (T : Tx w K mg) : mg "len" = none := by
  obtain ⟨h, X, G⟩ := T.g
  exact free_ok X G (T.c.fact 55 (f := .free "len") rfl)
theorem Tx.f_list (T : Tx w K mg) : mg "list" = none := by
  obtain ⟨h, X, G⟩ := T.g
  exact free_ok X G (T.c.fact 56 (f := .free "list") rfl)
theorem Tx.f_range (T : Tx w K mg) : mg "range" = none := by
  obtain ⟨h, X, G⟩ := T.g
  exact free_ok X G (T.c.fact 58 (f := .free "range") rfl)
theorem Tx.f_sorted (T : Tx w K mg) : mg "sorted" = none := by
  obtain ⟨h, X, G⟩ := T.g
  exact free_ok X G (T.c.fact 59 (f := .free "sorted") rfl)
theorem Tx.f_str (T : Tx w K mg) : mg "str" = none := by
  obtain ⟨h, X, G⟩ := T.g
  exact free_ok X G (T.c.fact 61 (f := .free "str") rfl)
theorem Tx.f_sum (T : Tx w K mg) : mg "sum" = none := by
  obtain ⟨h, X, G⟩ := T.g
  exact free_ok X G (T.c.fact 62 (f := .free "sum") rfl)
theorem Tx.f_tuple (T : Tx w K mg) : mg "tuple" = none := by
  obtain ⟨h, X, G⟩ := T.g
  exact free_ok X G (T.c.fact 63 (f := .free "tuple") rfl)
theorem Tx.exm_BadNumber_BadNumber (T : Tx w K mg) : PySem.W.exmOne K (.ref (ga K "BadNumber")) (.ref (ga K "BadNumber")) = some true := exm_ok (T.c.fact 70 (f := .exm "BadNumber" "BadNumber" true) rfl)
theorem Tx.exm_BadCount_BadNumber (T : Tx w K mg) : PySem.W.exmOne K (.ref (ga K "BadCount")) (.ref (ga K "BadNumber")) = some false := exm_ok (T.c.fact 71 (f := .exm "BadCount" "BadNumber" false) rfl)
theorem Tx.exm_BadCount_BadCount (T : Tx w K mg) : PySem.W.exmOne K (.ref (ga K "BadCount")) (.ref (ga K "BadCount")) = some true := exm_ok (T.c.fact 78 (f := .exm "BadCount" "BadCount" true) rfl)
theorem Tx.own_Mixture_iter (T : Tx w K mg) : Cl.OwnOp K (ga K "Mixture") "__iter__" (ma K (ga K "Mixture") "__iter__") := ownB_ok (T.c.more 0 (f := fun K => Hk.ownB K (ga K "Mixture") "__iter__") rfl)
theorem Tx.own_Mixture_len (T : Tx w K mg) : Cl.OwnOp K (ga K "Mixture") "__len__" (ma K (ga K "Mixture") "__len__") := ownB_ok (T.c.more 1 (f := fun K => Hk.ownB K (ga K "Mixture") "__len__") rfl)
theorem Tx.own_Mixture_contains (T : Tx w K mg) : Cl.OwnOp K (ga K "Mixture") "__contains__" (ma K (ga K "Mixture") "__contains__") := ownB_ok (T.c.more 2 (f := fun K => Hk.ownB K (ga K "Mixture") "__contains__") rfl)
theorem Tx.own_Mixture_getitem (T : Tx w K mg) : Cl.OwnOp K (ga K "Mixture") "__getitem__" (ma K (ga K "Mixture") "__getitem__") := ownB_ok (T.c.more 3 (f := fun K => Hk.ownB K (ga K "Mixture") "__getitem__") rfl)
theorem Tx.own_Mixture_setitem (T : Tx w K mg) : Cl.OwnOp K (ga K "Mixture") "__setitem__" (ma K (ga K "Mixture") "__setitem__") := ownB_ok (T.c.more 4 (f := fun K => Hk.ownB K (ga K "Mixture") "__setitem__") rfl)
theorem Tx.own_Mixture_eq (T : Tx w K mg) : Cl.OwnOp K (ga K "Mixture") "__eq__" (ma K (ga K "Mixture") "__eq__") := ownB_ok (T.c.more 5 (f := fun K => Hk.ownB K (ga K "Mixture") "__eq__") rfl)
theorem Tx.own_Mixture_iadd (T : Tx w K mg) : Cl.OwnOp K (ga K "Mixture") "__iadd__" (ma K (ga K "Mixture") "__iadd__") := ownB_ok (T.c.more 6 (f := fun K => Hk.ownB K (ga K "Mixture") "__iadd__") rfl)
theorem Tx.own_Mixture_add (T : Tx w K mg) : Cl.OwnOp K (ga K "Mixture") "__add__" (ma K (ga K "Mixture") "__add__") := ownB_ok (T.c.more 7 (f := fun K => Hk.ownB K (ga K "Mixture") "__add__") rfl)
theorem Tx.mix_Mixture_mul (T : Tx w K mg) : Cl.MixOp K (ga K "Mixture") .Mult (ma K (ga K "Mixture") "__mul__") (ma K (ga K "Mixture") "__rmul__") := mixB_ok (T.c.more 10 (f := fun K => Hk.mixB K (ga K "Mixture") "__mul__" "__rmul__" "__imul__") rfl) Cl.dd_mul rd_mul di_mul
theorem Tx.nsq_Mixture (T : Tx w K mg) : PySem.W.noSeq K (ga K "Mixture") = true := T.c.more 11 (f := fun K => PySem.W.noSeq K (ga K "Mixture")) rfl
theorem Tx.prop_Mixture_total (T : Tx w K mg) : PropOf K (ga K "Mixture") "total" (ma K (ga K "Mixture") "total") (He5.wf K (ga K "Mixture") "property" "total") := propB_ok (T.c.more 12 (f := fun K => Hk.propB K (ga K "Mixture") "total") rfl)
theorem Tx.con_Clause_LIMIT (T : Tx w K mg) : ∃ u, Con K (ga K "Clause") "LIMIT" (.int 6) u := conB_ok (T.c.more 20 (f := fun K => Hk.conB K (ga K "Clause") "LIMIT" 6) rfl) (by decide +kernel)
theorem Tx.con_Turning_LIMIT (T : Tx w K mg) : ∃ u, Con K (ga K "Turning") "LIMIT" (.int 12) u := conB_ok (T.c.more 28 (f := fun K => Hk.conB K (ga K "Turning") "LIMIT" 12) rfl) (by decide +kernel)
theorem Tx.con_Book_LIMIT (T : Tx w K mg) : ∃ u, Con K (ga K "Book") "LIMIT" (.int 24) u := conB_ok (T.c.more 36 (f := fun K => Hk.conB K (ga K "Book") "LIMIT" 24) rfl) (by decide +kernel)
theorem Tx.cv_Book_NUMBERS (T : Tx w K mg) : ClX.CRead K (ga K "Book") (.type "type") ∧ ∃ u, ClX.CVal K (ga K "Book") (.type "type") "NUMBERS" (.int 999) u := cvalB_ok (T.c.more 41 (f := fun K => Hk.cvalB K (ga K "Book") "NUMBERS" 999) rfl)
theorem Tx.ins_Mixture (T : Tx w K mg) : InsK K (ga K "Mixture") := insKB_ok T.cls_Mixture (T.c.more 42 (f := fun K => Hk.insKB K (ga K "Mixture")) rfl)
theorem Tx.kit_Mixture_Mixture (T : Tx w K mg) : PySem.W.kitOne K (.ref (ga K "Mixture")) (.ref (ga K "Mixture")) = some true := kitB_ok (T.c.more 47 (f := fun K => Hk.kitB K (.ref (ga K "Mixture")) (.ref (ga K "Mixture")) true) rfl)
theorem Tx.con_Mixture_LIMIT (T : Tx w K mg) : ∃ u, Con K (ga K "Mixture") "LIMIT" (.int 1000000) u := conB_ok (T.c.more 48 (f := fun K => Hk.conB K (ga K "Mixture") "LIMIT" 1000000) rfl) (by decide +kernel)
theorem Tx.cv_Mixture_LIMIT (T : Tx w K mg) : ClX.CRead K (ga K "Mixture") (.type "type") ∧ ∃ u, ClX.CVal K (ga K "Mixture") (.type "type") "LIMIT" (.int 1000000) u := cvalB_ok (T.c.more 49 (f := fun K => Hk.cvalB K (ga K "Mixture") "LIMIT" 1000000) rfl)
theorem Tx.excC_BadNumber (T : Tx w K mg) : ExcC K (ga K "BadNumber") := excCB_ok (T.c.more 50 (f := fun K => excCB K (ga K "BadNumber")) rfl)
theorem Tx.kit_BadNumber_HornError (T : Tx w K mg) : PySem.W.kitOne K (.ref (ga K "BadNumber")) (.ref (ga K "HornError")) = some true := kitB_ok (T.c.more 51 (f := fun K => Hk.kitB K (.ref (ga K "BadNumber")) (.ref (ga K "HornError")) true) rfl)
theorem Tx.kit_BadNumber_NoClause (T : Tx w K mg) : PySem.W.kitOne K (.ref (ga K "BadNumber")) (.ref (ga K "NoClause")) = some false := kitB_ok (T.c.more 52 (f := fun K => Hk.kitB K (.ref (ga K "BadNumber")) (.ref (ga K "NoClause")) false) rfl)
theorem Tx.excC_BadCount (T : Tx w K mg) : ExcC K (ga K "BadCount") := excCB_ok (T.c.more 53 (f := fun K => excCB K (ga K "BadCount")) rfl)
theorem Tx.kit_BadCount_HornError (T : Tx w K mg) : PySem.W.kitOne K (.ref (ga K "BadCount")) (.ref (ga K "HornError")) = some true := kitB_ok (T.c.more 54 (f := fun K => Hk.kitB K (.ref (ga K "BadCount")) (.ref (ga K "HornError")) true) rfl)
theorem Tx.fn_check_number (T : Tx w K mg) : FunD K Hd.d_check_number.name Hd.d_check_number.qual (defArgs Hd.s_check_number) (defBody Hd.s_check_number) (defScope Hd.s_check_number) [] [] (Hd.d_check_number.at_ K) (fdOf K (Hd.d_check_number.at_ K)) := T.c.fn 0 (d := Hd.d_check_number) rfl
theorem Tx.fn_tally (T : Tx w K mg) : FunD K Hd.d_tally.name Hd.d_tally.qual (defArgs Hd.s_tally) (defBody Hd.s_tally) (defScope Hd.s_tally) [] [] (Hd.d_tally.at_ K) (fdOf K (Hd.d_tally.at_ K)) := T.c.fn 1 (d := Hd.d_tally) rfl
theorem Tx.fn_summed (T : Tx w K mg) : FunD K Hd.d_summed.name Hd.d_summed.qual (defArgs Hd.s_summed) (defBody Hd.s_summed) (defScope Hd.s_summed) [] [] (Hd.d_summed.at_ K) (fdOf K (Hd.d_summed.at_ K)) := T.c.fn 2 (d := Hd.d_summed) rfl
theorem Tx.fn_multiplied_counts (T : Tx w K mg) : FunD K Hd.d_multiplied_counts.name Hd.d_multiplied_counts.qual (defArgs Hd.s_multiplied_counts) (defBody Hd.s_multiplied_counts) (defScope Hd.s_multiplied_counts) [] [] (Hd.d_multiplied_counts.at_ K) (fdOf K (Hd.d_multiplied_counts.at_ K)) := T.c.fn 3 (d := Hd.d_multiplied_counts) rfl
theorem Tx.fn_law_source (T : Tx w K mg) : FunD K Hd.d_law_source.name Hd.d_law_source.qual (defArgs Hd.s_law_source) (defBody Hd.s_law_source) (defScope Hd.s_law_source) [] [] (Hd.d_law_source.at_ K) (fdOf K (Hd.d_law_source.at_ K)) := T.c.fn 4 (d := Hd.d_law_source) rfl
theorem Tx.fn_law_take (T : Tx w K mg) : FunD K Hd.d_law_take.name Hd.d_law_take.qual (defArgs Hd.s_law_take) (defBody Hd.s_law_take) (defScope Hd.s_law_take) [] [] (Hd.d_law_take.at_ K) (fdOf K (Hd.d_law_take.at_ K)) := T.c.fn 5 (d := Hd.d_law_take) rfl
theorem Tx.fn_law_same (T : Tx w K mg) : FunD K Hd.d_law_same.name Hd.d_law_same.qual (defArgs Hd.s_law_same) (defBody Hd.s_law_same) (defScope Hd.s_law_same) [] [] (Hd.d_law_same.at_ K) (fdOf K (Hd.d_law_same.at_ K)) := T.c.fn 6 (d := Hd.d_law_same) rfl
theorem Tx.fn_law_mixed (T : Tx w K mg) : FunD K Hd.d_law_mixed.name Hd.d_law_mixed.qual (defArgs Hd.s_law_mixed) (defBody Hd.s_law_mixed) (defScope Hd.s_law_mixed) [] [] (Hd.d_law_mixed.at_ K) (fdOf K (Hd.d_law_mixed.at_ K)) := T.c.fn 7 (d := Hd.d_law_mixed) rfl
theorem Tx.fn_law_error (T : Tx w K mg) : FunD K Hd.d_law_error.name Hd.d_law_error.qual (defArgs Hd.s_law_error) (defBody Hd.s_law_error) (defScope Hd.s_law_error) [] [] (Hd.d_law_error.at_ K) (fdOf K (Hd.d_law_error.at_ K)) := T.c.fn 8 (d := Hd.d_law_error) rfl
theorem Tx.fn_law_are (T : Tx w K mg) : FunD K Hd.d_law_are.name Hd.d_law_are.qual (defArgs Hd.s_law_are) (defBody Hd.s_law_are) (defScope Hd.s_law_are) [] [] (Hd.d_law_are.at_ K) (fdOf K (Hd.d_law_are.at_ K)) := T.c.fn 9 (d := Hd.d_law_are) rfl
theorem Tx.fn_law_drawn (T : Tx w K mg) : FunD K Hd.d_law_drawn.name Hd.d_law_drawn.qual (defArgs Hd.s_law_drawn) (defBody Hd.s_law_drawn) (defScope Hd.s_law_drawn) [] [] (Hd.d_law_drawn.at_ K) (fdOf K (Hd.d_law_drawn.at_ K)) := T.c.fn 10 (d := Hd.d_law_drawn) rfl
theorem Tx.fn_law_outside (T : Tx w K mg) : FunD K Hd.d_law_outside.name Hd.d_law_outside.qual (defArgs Hd.s_law_outside) (defBody Hd.s_law_outside) (defScope Hd.s_law_outside) [] [] (Hd.d_law_outside.at_ K) (fdOf K (Hd.d_law_outside.at_ K)) := T.c.fn 11 (d := Hd.d_law_outside) rfl
theorem Tx.fn_law_settings (T : Tx w K mg) : FunD K Hd.d_law_settings.name Hd.d_law_settings.qual (defArgs Hd.s_law_settings) (defBody Hd.s_law_settings) (defScope Hd.s_law_settings) [] [] (Hd.d_law_settings.at_ K) (fdOf K (Hd.d_law_settings.at_ K)) := T.c.fn 12 (d := Hd.d_law_settings) rfl
theorem Tx.fn_law_sum (T : Tx w K mg) : FunD K Hd.d_law_sum.name Hd.d_law_sum.qual (defArgs Hd.s_law_sum) (defBody Hd.s_law_sum) (defScope Hd.s_law_sum) [] [] (Hd.d_law_sum.at_ K) (fdOf K (Hd.d_law_sum.at_ K)) := T.c.fn 13 (d := Hd.d_law_sum) rfl
theorem Tx.fn_law_times (T : Tx w K mg) : FunD K Hd.d_law_times.name Hd.d_law_times.qual (defArgs Hd.s_law_times) (defBody Hd.s_law_times) (defScope Hd.s_law_times) [] [] (Hd.d_law_times.at_ K) (fdOf K (Hd.d_law_times.at_ K)) := T.c.fn 14 (d := Hd.d_law_times) rfl
theorem Tx.fn_law_over (T : Tx w K mg) : FunD K Hd.d_law_over.name Hd.d_law_over.qual (defArgs Hd.s_law_over) (defBody Hd.s_law_over) (defScope Hd.s_law_over) [] [] (Hd.d_law_over.at_ K) (fdOf K (Hd.d_law_over.at_ K)) := T.c.fn 15 (d := Hd.d_law_over) rfl
theorem Tx.fn_law_added (T : Tx w K mg) : FunD K Hd.d_law_added.name Hd.d_law_added.qual (defArgs Hd.s_law_added) (defBody Hd.s_law_added) (defScope Hd.s_law_added) [] [] (Hd.d_law_added.at_ K) (fdOf K (Hd.d_law_added.at_ K)) := T.c.fn 16 (d := Hd.d_law_added) rfl
theorem Tx.fn_law_multiplied (T : Tx w K mg) : FunD K Hd.d_law_multiplied.name Hd.d_law_multiplied.qual (defArgs Hd.s_law_multiplied) (defBody Hd.s_law_multiplied) (defScope Hd.s_law_multiplied) [] [] (Hd.d_law_multiplied.at_ K) (fdOf K (Hd.d_law_multiplied.at_ K)) := T.c.fn 17 (d := Hd.d_law_multiplied) rfl
theorem Tx.fn_law_equal (T : Tx w K mg) : FunD K Hd.d_law_equal.name Hd.d_law_equal.qual (defArgs Hd.s_law_equal) (defBody Hd.s_law_equal) (defScope Hd.s_law_equal) [] [] (Hd.d_law_equal.at_ K) (fdOf K (Hd.d_law_equal.at_ K)) := T.c.fn 18 (d := Hd.d_law_equal) rfl
theorem Tx.fn_law_in_place (T : Tx w K mg) : FunD K Hd.d_law_in_place.name Hd.d_law_in_place.qual (defArgs Hd.s_law_in_place) (defBody Hd.s_law_in_place) (defScope Hd.s_law_in_place) [] [] (Hd.d_law_in_place.at_ K) (fdOf K (Hd.d_law_in_place.at_ K)) := T.c.fn 19 (d := Hd.d_law_in_place) rfl
theorem Tx.fn_law (T : Tx w K mg) : FunD K Hd.d_law.name Hd.d_law.qual (defArgs Hd.s_law) (defBody Hd.s_law) (defScope Hd.s_law) [] [] (Hd.d_law.at_ K) (fdOf K (Hd.d_law.at_ K)) := T.c.fn 20 (d := Hd.d_law) rfl
theorem Tx.fn_Mixture_init (T : Tx w K mg) : FunD K Hd.d_Mixture_init.name Hd.d_Mixture_init.qual (defArgs Hd.s_Mixture_init) (defBody Hd.s_Mixture_init) (defScope Hd.s_Mixture_init) [] [("counts", .non)] (Hd.d_Mixture_init.at_ K) (fdOf K (Hd.d_Mixture_init.at_ K)) := T.c.fn 21 (d := Hd.d_Mixture_init) rfl
theorem Tx.fn_Mixture_total (T : Tx w K mg) : FunD K Hd.d_Mixture_total.name Hd.d_Mixture_total.qual (defArgs Hd.s_Mixture_total) (defBody Hd.s_Mixture_total) (defScope Hd.s_Mixture_total) [] [] (Hd.d_Mixture_total.at_ K) (fdOf K (Hd.d_Mixture_total.at_ K)) := T.c.fn 22 (d := Hd.d_Mixture_total) rfl
theorem Tx.fn_Mixture_iter (T : Tx w K mg) : FunD K Hd.d_Mixture_iter.name Hd.d_Mixture_iter.qual (defArgs Hd.s_Mixture_iter) (defBody Hd.s_Mixture_iter) (defScope Hd.s_Mixture_iter) [] [] (Hd.d_Mixture_iter.at_ K) (fdOf K (Hd.d_Mixture_iter.at_ K)) := T.c.fn 23 (d := Hd.d_Mixture_iter) rfl
theorem Tx.fn_Mixture_len (T : Tx w K mg) : FunD K Hd.d_Mixture_len.name Hd.d_Mixture_len.qual (defArgs Hd.s_Mixture_len) (defBody Hd.s_Mixture_len) (defScope Hd.s_Mixture_len) [] [] (Hd.d_Mixture_len.at_ K) (fdOf K (Hd.d_Mixture_len.at_ K)) := T.c.fn 24 (d := Hd.d_Mixture_len) rfl
theorem Tx.fn_Mixture_contains (T : Tx w K mg) : FunD K Hd.d_Mixture_contains.name Hd.d_Mixture_contains.qual (defArgs Hd.s_Mixture_contains) (defBody Hd.s_Mixture_contains) (defScope Hd.s_Mixture_contains) [] [] (Hd.d_Mixture_contains.at_ K) (fdOf K (Hd.d_Mixture_contains.at_ K)) := T.c.fn 25 (d := Hd.d_Mixture_contains) rfl
theorem Tx.fn_Mixture_getitem (T : Tx w K mg) : FunD K Hd.d_Mixture_getitem.name Hd.d_Mixture_getitem.qual (defArgs Hd.s_Mixture_getitem) (defBody Hd.s_Mixture_getitem) (defScope Hd.s_Mixture_getitem) [] [] (Hd.d_Mixture_getitem.at_ K) (fdOf K (Hd.d_Mixture_getitem.at_ K)) := T.c.fn 26 (d := Hd.d_Mixture_getitem) rfl
theorem Tx.fn_Mixture_setitem (T : Tx w K mg) : FunD K Hd.d_Mixture_setitem.name Hd.d_Mixture_setitem.qual (defArgs Hd.s_Mixture_setitem) (defBody Hd.s_Mixture_setitem) (defScope Hd.s_Mixture_setitem) [] [] (Hd.d_Mixture_setitem.at_ K) (fdOf K (Hd.d_Mixture_setitem.at_ K)) := T.c.fn 27 (d := Hd.d_Mixture_setitem) rfl
theorem Tx.fn_Mixture_eq (T : Tx w K mg) : FunD K Hd.d_Mixture_eq.name Hd.d_Mixture_eq.qual (defArgs Hd.s_Mixture_eq) (defBody Hd.s_Mixture_eq) (defScope Hd.s_Mixture_eq) [] [] (Hd.d_Mixture_eq.at_ K) (fdOf K (Hd.d_Mixture_eq.at_ K)) := T.c.fn 28 (d := Hd.d_Mixture_eq) rfl
theorem Tx.fn_Mixture_iadd (T : Tx w K mg) : FunD K Hd.d_Mixture_iadd.name Hd.d_Mixture_iadd.qual (defArgs Hd.s_Mixture_iadd) (defBody Hd.s_Mixture_iadd) (defScope Hd.s_Mixture_iadd) [] [] (Hd.d_Mixture_iadd.at_ K) (fdOf K (Hd.d_Mixture_iadd.at_ K)) := T.c.fn 29 (d := Hd.d_Mixture_iadd) rfl
theorem Tx.fn_Mixture_add (T : Tx w K mg) : FunD K Hd.d_Mixture_add.name Hd.d_Mixture_add.qual (defArgs Hd.s_Mixture_add) (defBody Hd.s_Mixture_add) (defScope Hd.s_Mixture_add) [] [] (Hd.d_Mixture_add.at_ K) (fdOf K (Hd.d_Mixture_add.at_ K)) := T.c.fn 30 (d := Hd.d_Mixture_add) rfl
theorem Tx.fn_Mixture_mul (T : Tx w K mg) : FunD K Hd.d_Mixture_mul.name Hd.d_Mixture_mul.qual (defArgs Hd.s_Mixture_mul) (defBody Hd.s_Mixture_mul) (defScope Hd.s_Mixture_mul) [] [] (Hd.d_Mixture_mul.at_ K) (fdOf K (Hd.d_Mixture_mul.at_ K)) := T.c.fn 31 (d := Hd.d_Mixture_mul) rfl
theorem Tx.fn_Mixture_rmul (T : Tx w K mg) : FunD K Hd.d_Mixture_rmul.name Hd.d_Mixture_rmul.qual (defArgs Hd.s_Mixture_rmul) (defBody Hd.s_Mixture_rmul) (defScope Hd.s_Mixture_rmul) [] [] (Hd.d_Mixture_rmul.at_ K) (fdOf K (Hd.d_Mixture_rmul.at_ K)) := T.c.fn 32 (d := Hd.d_Mixture_rmul) rfl
theorem Tx.sc_BadNumber : ScopeE PySem.Challenge.pw_renamedhorn_k42_mixtures_counted (defScope Hd.s_BadNumber_init) (defArgs Hd.s_BadNumber_init) := ⟨⟨_, rfl⟩, rfl, rfl, rfl, rfl, rfl, rfl, by decide +kernel, by decide +kernel⟩
theorem Tx.err_BadNumber (T : Tx w K mg) : Err1 PySem.Challenge.pw_renamedhorn_k42_mixtures_counted w K mg "BadNumber" "number" (ga K "BadNumber") := by
  obtain ⟨h, X, G⟩ := T.g
  obtain ⟨e, c⟩ := T.c.it 38 (d := Hd.d_BadNumber.it "/claim/cut.py") rfl
  exact err1_of X G c e rfl Tx.sc_BadNumber rfl (fun _ _ _ _ _ _ _ _ _ _ _ => rfl) rfl (by decide) (by decide)
theorem Tx.sc_BadCount : ScopeE PySem.Challenge.pw_renamedhorn_k42_mixtures_counted (defScope Hd.s_BadCount_init) (defArgs Hd.s_BadCount_init) := ⟨⟨_, rfl⟩, rfl, rfl, rfl, rfl, rfl, rfl, by decide +kernel, by decide +kernel⟩
theorem Tx.err_BadCount (T : Tx w K mg) : Err1 PySem.Challenge.pw_renamedhorn_k42_mixtures_counted w K mg "BadCount" "count" (ga K "BadCount") := by
  obtain ⟨h, X, G⟩ := T.g
  obtain ⟨e, c⟩ := T.c.it 39 (d := Hd.d_BadCount.it "/claim/cut.py") rfl
  exact err1_of X G c e rfl Tx.sc_BadCount rfl (fun _ _ _ _ _ _ _ _ _ _ _ => rfl) rfl (by decide) (by decide)
end
end Ok
namespace Ok
open PySem PySem.Spec PyProof.Rows L2 He Hk Px Rd
section
variable {w : World} {K : PySem.W.Frag} {mg : PySem.Str → Option Value} {base : Heap}
def N_Mixture_iter : List PySem.Str := ["self"]
theorem sc_Mixture_iter : FnScope N_Mixture_iter ["self"] (defScope Hd.s_Mixture_iter) := ⟨rfl, rfl, rfl, by decide +kernel, rfl, by decide +kernel, by decide +kernel⟩
theorem b_Mixture_iter (T : Tx w K mg) : Binds K (fdOf K (ma K (ga K "Mixture") "__iter__")) ["self"] [] := T.fn_Mixture_iter.bindsN fun _ _ _ _ _ _ us hl => match us, hl with | [_], _ => rfl
theorem it_Mixture (T : Tx w K mg) : Cl.IterK PySem.Challenge.pw_renamedhorn_k42_mixtures_counted w K mg base 1 (ga K "Mixture") "rows" := Cl.iterK_of (k := 0) T.fn_Mixture_iter sc_Mixture_iter (b_Mixture_iter T) rfl rfl rfl T.f_iter T.cls_Mixture T.no_Mixture_rows T.own_Mixture_iter (fun _ _ _ _ _ => rfl) (fun _ _ _ _ _ => rfl)
theorem sc_check_number : FnScope N_check_number ["number"] (defScope Hd.s_check_number) := ⟨rfl, rfl, rfl, by decide +kernel, rfl, by decide +kernel, by decide +kernel⟩
theorem b_check_number (T : Tx w K mg) : Binds K (fdOf K (ga K "check_number")) ["number"] [] := T.fn_check_number.bindsN fun _ _ _ _ _ _ us hl => match us, hl with | [_], _ => rfl
theorem ok_check_number (T : Tx w K mg) : FnOk PySem.Challenge.pw_renamedhorn_k42_mixtures_counted w K mg base (L2N.CX PySem.Challenge.pw_renamedhorn_k42_mixtures_counted w) 3 (ga K "check_number") (fdOf K (ga K "check_number")) ["number"] (sp_check_number K) := by
  refine T.fn_check_number.ok sc_check_number (fun vs H Q E h => len_check_number h) (fun cdv A outer s H vs Q E hr h => ⟨t_check_number K (fun cls d _ H => E cls d H), ?_, pure_check_number h⟩)
  · have tk := L2N.takes_of (X := cxOf (L2N.CX PySem.Challenge.pw_renamedhorn_k42_mixtures_counted w) PySem.Challenge.pw_renamedhorn_k42_mixtures_counted w K mg base N_check_number "check_number" (defScope Hd.s_check_number) (ga K "check_number") cdv A outer s H E) (E := E) rfl rfl rfl rfl
    obtain ⟨cr_Book_NUMBERS, w_Book_NUMBERS, cv_Book_NUMBERS⟩ := T.cv_Book_NUMBERS
    exact (pss_one (ps_if (PW.pt (pw_or (pt_cmpR op_ltP (pv 0) pe_int (nomark _)) (pw_or1 (pt_cmpR op_gtP (pv 0) (Cl.pe_cls cr_Book_NUMBERS cv_Book_NUMBERS rfl T.g_Book) (nomark _))))) (pss_one (ps_raiseE rfl T.err_BadNumber hr tk (pa_cons (pv 0) pa_nil))) pss_nil))
theorem sc_tally : FnScope N_tally ["numbers"] (defScope Hd.s_tally) := ⟨rfl, rfl, rfl, by decide +kernel, rfl, by decide +kernel, by decide +kernel⟩
theorem b_tally (T : Tx w K mg) : Binds K (fdOf K (ga K "tally")) ["numbers"] [] := T.fn_tally.bindsN fun _ _ _ _ _ _ us hl => match us, hl with | [_], _ => rfl
theorem ok_tally (T : Tx w K mg) : FnOk PySem.Challenge.pw_renamedhorn_k42_mixtures_counted w K mg base (L2N.CX PySem.Challenge.pw_renamedhorn_k42_mixtures_counted w) 1 (ga K "tally") (fdOf K (ga K "tally")) ["numbers"] (sp_tally K) := by
  refine T.fn_tally.ok sc_tally (fun vs H Q E h => len_tally h) (fun cdv A outer s H vs Q E hr h => ⟨t_tally K (fun cls d _ H => E cls d H), ?_, pure_tally h⟩)
  · have tk := L2N.takes_of (X := cxOf (L2N.CX PySem.Challenge.pw_renamedhorn_k42_mixtures_counted w) PySem.Challenge.pw_renamedhorn_k42_mixtures_counted w K mg base N_tally "tally" (defScope Hd.s_tally) (ga K "tally") cdv A outer s H E) (E := E) rfl rfl rfl rfl
    exact (pss_cons (ps_asg pe_dnewK (pg_name (i := 1) sc_tally.nd rfl (Or.inl rfl)))
      (pss_cut (ps_for (passes_of rfl) rfl (pi_anyP (pe_callB cr_sortedP2 (by rfl) T.f_sorted PyProof.Rows.Boot.«sorted» (pa_cons (pe_lc (own := [("each", 3)]) (g := (gName 3)) (tt := tYes) rfl sc_tally.nd (pi_anyP (pv 0)) (blkOk_by (own := [("each", 3)]) (N := N_tally) (sc := defScope Hd.s_tally) (by decide +kernel)) (fun _ _ _ _ _ => (pg_name (i := 3) sc_tally.nd rfl (Or.inl rfl))) (fun _ _ _ _ _ => pts_nil) (fun _ _ _ _ _ => (pe_callTy call_intP (by rfl) T.f_int PyProof.Rows.Boot.«int» (pa_cons (pv 3) pa_nil)))) pa_nil))) (pg_name (i := 2) sc_tally.nd rfl (Or.inl rfl)) (pss_one (ps_asg (pe_op op_addP (pe_dget2 (Nat.lt_of_le_of_lt (Nat.add_le_add_left (by decide : 1 ≤ 64) _) hr.units) (pv 1) (pv 2) pe_int ⟨rfl, rfl, rfl, rfl⟩) pe_int) (pg_sub (pv 1) (pv 2) (set_P hr.units)))))
      (pss_one (ps_ret (pv 1)))))
theorem sc_summed : FnScope N_summed ["one", "other", "most"] (defScope Hd.s_summed) := ⟨rfl, rfl, rfl, by decide +kernel, rfl, by decide +kernel, by decide +kernel⟩
theorem b_summed (T : Tx w K mg) : Binds K (fdOf K (ga K "summed")) ["one", "other", "most"] [] := T.fn_summed.bindsN fun _ _ _ _ _ _ us hl => match us, hl with | [_, _, _], _ => rfl
theorem ok_summed (T : Tx w K mg) : FnOk PySem.Challenge.pw_renamedhorn_k42_mixtures_counted w K mg base (L2N.CX PySem.Challenge.pw_renamedhorn_k42_mixtures_counted w) 3 (ga K "summed") (fdOf K (ga K "summed")) ["one", "other", "most"] (sp_summed K) := by
  refine T.fn_summed.ok sc_summed (fun vs H Q E h => len_summed h) (fun cdv A outer s H vs Q E hr h => ⟨t_summed K (fun cls d _ H => E cls d H), ?_, pure_summed h⟩)
  · have tk := L2N.takes_of (X := cxOf (L2N.CX PySem.Challenge.pw_renamedhorn_k42_mixtures_counted w) PySem.Challenge.pw_renamedhorn_k42_mixtures_counted w K mg base N_summed "summed" (defScope Hd.s_summed) (ga K "summed") cdv A outer s H E) (E := E) rfl rfl rfl rfl
    exact (pss_cons (ps_asg pe_dnewK (pg_name (i := 3) sc_summed.nd rfl (Or.inl rfl)))
      (pss_cut (ps_for (passes_of rfl) rfl (pi_anyP (pe_callB cr_sortedP2 (by rfl) T.f_sorted PyProof.Rows.Boot.«sorted» (pa_cons (pe_lc (own := [("each", 6)]) (g := (gName 6)) (tt := tYes) rfl sc_summed.nd (pi_anyP (pe_op op_addP (pe_callTy (call_list_dK rfl) (by rfl) T.f_list PyProof.Rows.Boot.«list» (pa_cons (pv 0) pa_nil)) (pe_callTy (call_list_dK rfl) (by rfl) T.f_list PyProof.Rows.Boot.«list» (pa_cons (pv 1) pa_nil)))) (blkOk_by (own := [("each", 6)]) (N := N_summed) (sc := defScope Hd.s_summed) (by decide +kernel)) (fun _ _ _ _ _ => (pg_name (i := 6) sc_summed.nd rfl (Or.inl rfl))) (fun _ _ _ _ _ => pts_nil) (fun _ _ _ _ _ => (pe_callTy call_intP (by rfl) T.f_int PyProof.Rows.Boot.«int» (pa_cons (pv 6) pa_nil)))) pa_nil))) (pg_name (i := 4) sc_summed.nd rfl (Or.inl rfl)) (pss_cons (ps_asg (pe_op op_addP (pe_dget2 (Nat.lt_of_le_of_lt (Nat.add_le_add_left (by decide : 1 ≤ 64) _) hr.units) (pv 0) (pv 4) pe_int ⟨rfl, rfl, rfl, rfl⟩) (pe_dget2 (Nat.lt_of_le_of_lt (Nat.add_le_add_left (by decide : 1 ≤ 64) _) hr.units) (pv 1) (pv 4) pe_int ⟨rfl, rfl, rfl, rfl⟩)) (pg_name (i := 5) sc_summed.nd rfl (Or.inl rfl)))
      (pss_cut (ps_if (pt_cmpR op_gtP (pv 5) (pv 2) (nomark _)) (pss_one (ps_raiseE rfl T.err_BadCount hr tk (pa_cons (pv 5) pa_nil))) pss_nil)
      (pss_one (ps_asg (pv 5) (pg_sub (pv 3) (pv 4) (set_P hr.units)))))))
      (pss_one (ps_ret (pv 3)))))
theorem sc_multiplied_counts : FnScope N_multiplied_counts ["counts", "k", "most"] (defScope Hd.s_multiplied_counts) := ⟨rfl, rfl, rfl, by decide +kernel, rfl, by decide +kernel, by decide +kernel⟩
theorem b_multiplied_counts (T : Tx w K mg) : Binds K (fdOf K (ga K "multiplied_counts")) ["counts", "k", "most"] [] := T.fn_multiplied_counts.bindsN fun _ _ _ _ _ _ us hl => match us, hl with | [_, _, _], _ => rfl
theorem ok_multiplied_counts (T : Tx w K mg) : FnOk PySem.Challenge.pw_renamedhorn_k42_mixtures_counted w K mg base (L2N.CX PySem.Challenge.pw_renamedhorn_k42_mixtures_counted w) 3 (ga K "multiplied_counts") (fdOf K (ga K "multiplied_counts")) ["counts", "k", "most"] (sp_multiplied_counts K) := by
  refine T.fn_multiplied_counts.ok sc_multiplied_counts (fun vs H Q E h => len_multiplied_counts h) (fun cdv A outer s H vs Q E hr h => ⟨t_multiplied_counts K (fun cls d _ H => E cls d H), ?_, pure_multiplied_counts h⟩)
  · have tk := L2N.takes_of (X := cxOf (L2N.CX PySem.Challenge.pw_renamedhorn_k42_mixtures_counted w) PySem.Challenge.pw_renamedhorn_k42_mixtures_counted w K mg base N_multiplied_counts "multiplied_counts" (defScope Hd.s_multiplied_counts) (ga K "multiplied_counts") cdv A outer s H E) (E := E) rfl rfl rfl rfl
    exact (pss_cut (ps_if (pt_cmpR op_ltP (pv 1) pe_int (nomark _)) (pss_one (ps_raiseE rfl T.err_BadCount hr tk (pa_cons (pv 1) pa_nil))) pss_nil)
      (pss_cons (ps_asg pe_dnewK (pg_name (i := 3) sc_multiplied_counts.nd rfl (Or.inl rfl)))
      (pss_cut (Cl.ps_lockW tk (fun W2 tk2 => ps_for (passes_of rfl) rfl (pi_keys (pv 0)) (pg_name (i := 4) sc_multiplied_counts.nd rfl (Or.inl rfl)) (pss_cut (ps_if (pt_cmpR op_gtP (pe_op op_mulP (pe_dget (Nat.lt_of_le_of_lt (Nat.add_le_add_left (by decide : 1 ≤ 64) _) hr.units) (pv 0) (pv 4) (fun _ _ => rfl)) (pv 1)) (pv 2) (nomark _)) (pss_one (ps_raiseE rfl T.err_BadCount hr tk2 (pa_cons (pe_op op_mulP (pe_dget (Nat.lt_of_le_of_lt (Nat.add_le_add_left (by decide : 1 ≤ 64) _) hr.units) (pv 0) (pv 4) (fun _ _ => rfl)) (pv 1)) pa_nil))) pss_nil)
      (pss_one (ps_if (pt_cmpR op_gtP (pv 1) pe_int (nomark _)) (pss_one (ps_asg (pe_op op_mulP (pe_dget (Nat.lt_of_le_of_lt (Nat.add_le_add_left (by decide : 1 ≤ 64) _) hr.units) (pv 0) (pv 4) (fun _ _ => rfl)) (pv 1)) (pg_sub (pv 3) (pv 4) (set_P hr.units)))) pss_nil)))))
      (pss_one (ps_ret (pv 3))))))
theorem sc_law_source : FnScope N_law_source ["_law_script"] (defScope Hd.s_law_source) := ⟨rfl, rfl, rfl, by decide +kernel, rfl, by decide +kernel, by decide +kernel⟩
theorem b_law_source (T : Tx w K mg) : Binds K (fdOf K (ga K "_law_source")) ["_law_script"] [] := T.fn_law_source.bindsN fun _ _ _ _ _ _ us hl => match us, hl with | [_], _ => rfl
theorem ok_law_source (T : Tx w K mg) : FnOk PySem.Challenge.pw_renamedhorn_k42_mixtures_counted w K mg base (L2N.CX PySem.Challenge.pw_renamedhorn_k42_mixtures_counted w) 1 (ga K "_law_source") (fdOf K (ga K "_law_source")) ["_law_script"] (sp_law_source K) := by
  refine T.fn_law_source.ok sc_law_source (fun vs H Q E h => Sp1.len h) (fun cdv A outer s H vs Q E hr h => ⟨t_law_source K (fun cls d _ H => E cls d H), ?_, pure_law_source h⟩)
  · have tk := L2N.takes_of (X := cxOf (L2N.CX PySem.Challenge.pw_renamedhorn_k42_mixtures_counted w) PySem.Challenge.pw_renamedhorn_k42_mixtures_counted w K mg base N_law_source "_law_source" (defScope Hd.s_law_source) (ga K "_law_source") cdv A outer s H E) (E := E) rfl rfl rfl rfl
    exact (pss_one (ps_ret (pe_lst (pa_cons (pe_callTy call_listP (by rfl) T.f_list PyProof.Rows.Boot.«list» (pa_cons (pv 0) pa_nil)) (pa_cons pe_int (pa_cons pe_int (pa_cons pe_int (pa_cons pe_int pa_nil))))))))
theorem sc_law_take : FnScope N_law_take ["_law_source_here", "_law_many"] (defScope Hd.s_law_take) := ⟨rfl, rfl, rfl, by decide +kernel, rfl, by decide +kernel, by decide +kernel⟩
theorem b_law_take (T : Tx w K mg) : Binds K (fdOf K (ga K "_law_take")) ["_law_source_here", "_law_many"] [] := T.fn_law_take.bindsN fun _ _ _ _ _ _ us hl => match us, hl with | [_, _], _ => rfl
theorem ok_law_take (T : Tx w K mg) : FnOk PySem.Challenge.pw_renamedhorn_k42_mixtures_counted w K mg base (L2N.CX PySem.Challenge.pw_renamedhorn_k42_mixtures_counted w) 1 (ga K "_law_take") (fdOf K (ga K "_law_take")) ["_law_source_here", "_law_many"] (sp_law_take K) := by
  refine T.fn_law_take.ok sc_law_take (fun vs H Q E h => Sp2.len h) (fun cdv A outer s H vs Q E hr h => ⟨t_law_take K (fun cls d _ H => E cls d H), ?_, pure_law_take h⟩)
  · have tk := L2N.takes_of (X := cxOf (L2N.CX PySem.Challenge.pw_renamedhorn_k42_mixtures_counted w) PySem.Challenge.pw_renamedhorn_k42_mixtures_counted w K mg base N_law_take "_law_take" (defScope Hd.s_law_take) (ga K "_law_take") cdv A outer s H E) (E := E) rfl rfl rfl rfl
    exact (pss_cut (ps_if (pt_cmpR (op_eqP hr.units) (pe_ix ix_P (pv 0) pe_int (fun _ _ => rfl)) pe_int (nomark _)) (pss_cut (ps_if (pt_cmpR op_geP (pe_ix ix_P (pv 0) pe_int (fun _ _ => rfl)) (pe_callB call_lenP (by rfl) T.f_len PyProof.Rows.Boot.«len» (pa_cons (pe_ix ix_P (pv 0) pe_int (fun _ _ => rfl)) pa_nil)) (nomark _)) (pss_one (ps_ret pe_int)) pss_nil)
      (pss_cons (ps_asg (pe_callTy call_intP (by rfl) T.f_int PyProof.Rows.Boot.«int» (pa_cons (pe_ix ix_P (pe_ix ix_P (pv 0) pe_int (fun _ _ => rfl)) (pe_ix ix_P (pv 0) pe_int (fun _ _ => rfl)) (fun _ _ => rfl)) pa_nil)) (pg_name (i := 3) sc_law_take.nd rfl (Or.inl rfl)))
      (pss_cons (ps_asg (pe_op op_addP (pe_ix ix_P (pv 0) pe_int (fun _ _ => rfl)) pe_int) (pg_sub (pv 0) pe_int (set_P hr.units)))
      (pss_cons (ps_asg (pv 3) (pg_sub (pv 0) pe_int (set_P hr.units)))
      (pss_cons (ps_asg pe_int (pg_sub (pv 0) pe_int (set_P hr.units)))
      (pss_cons (ps_asg pe_int (pg_sub (pv 0) pe_int (set_P hr.units)))
      (pss_one (ps_if (pt_cmpR op_geP (pv 3) (pe_op op_powP pe_int pe_int) (nomark _)) (pss_cons (ps_asg pe_int (pg_sub (pv 0) pe_int (set_P hr.units)))
      (pss_one (ps_asg pe_int (pg_sub (pv 0) pe_int (set_P hr.units))))) pss_nil)))))))) pss_nil)
      (pss_cons (ps_asg (pe_op op_subP (pe_ix ix_P (pv 0) pe_int (fun _ _ => rfl)) pe_int) (pg_sub (pv 0) pe_int (set_P hr.units)))
      (pss_cut (ps_if (pt_cmpR (op_eqP hr.units) (pe_ix ix_P (pv 0) pe_int (fun _ _ => rfl)) pe_int (nomark _)) (pss_cons (ps_asg (pe_op op_modP (pe_callTy call_intP (by rfl) T.f_int PyProof.Rows.Boot.«int» (pa_cons (pe_ix ix_P (pv 0) pe_int (fun _ _ => rfl)) pa_nil)) (pv 1)) (pg_name (i := 4) sc_law_take.nd rfl (Or.inl rfl)))
      (pss_cons (ps_asg (pe_op op_fdivP (pe_ix ix_P (pv 0) pe_int (fun _ _ => rfl)) (pv 1)) (pg_sub (pv 0) pe_int (set_P hr.units)))
      (pss_cut (ps_if (pt_cmpR (op_eqP hr.units) (pe_ix ix_P (pv 0) pe_int (fun _ _ => rfl)) pe_int (nomark _)) (pss_one (ps_asg pe_int (pg_sub (pv 0) pe_int (set_P hr.units)))) pss_nil)
      (pss_one (ps_ret (pv 4)))))) pss_nil)
      (pss_cons (ps_asg (pe_op op_modP (pe_callTy call_intP (by rfl) T.f_int PyProof.Rows.Boot.«int» (pa_cons (pe_op op_addP (pe_op op_addP (pe_op op_mulP (pe_ix ix_P (pv 0) pe_int (fun _ _ => rfl)) pe_int) (pe_op op_mulP (pe_ix ix_P (pv 0) pe_int (fun _ _ => rfl)) pe_int)) pe_int) pa_nil)) pe_int) (pg_name (i := 2) sc_law_take.nd rfl (Or.inl rfl)))
      (pss_cons (ps_asg (pe_op op_modP (pe_callTy call_intP (by rfl) T.f_int PyProof.Rows.Boot.«int» (pa_cons (pe_op op_addP (pe_op op_addP (pe_op op_mulP (pv 2) pe_int) (pe_op op_mulP (pe_ix ix_P (pv 0) pe_int (fun _ _ => rfl)) pe_int)) pe_int) pa_nil)) pe_int) (pg_name (i := 2) sc_law_take.nd rfl (Or.inl rfl)))
      (pss_one (ps_ret (pe_op op_modP (pe_callTy call_intP (by rfl) T.f_int PyProof.Rows.Boot.«int» (pa_cons (pv 2) pa_nil)) (pv 1)))))))))
theorem sc_law_same : FnScope N_law_same ["_law_one", "_law_other"] (defScope Hd.s_law_same) := ⟨rfl, rfl, rfl, by decide +kernel, rfl, by decide +kernel, by decide +kernel⟩
theorem b_law_same (T : Tx w K mg) : Binds K (fdOf K (ga K "_law_same")) ["_law_one", "_law_other"] [] := T.fn_law_same.bindsN fun _ _ _ _ _ _ us hl => match us, hl with | [_, _], _ => rfl
theorem okn_law_same (T : Tx w K mg) (n : Nat) (okR : FnOk PySem.Challenge.pw_renamedhorn_k42_mixtures_counted w K mg base (L2N.CX PySem.Challenge.pw_renamedhorn_k42_mixtures_counted w) n (ga K "_law_same") (fdOf K (ga K "_law_same")) ["_law_one", "_law_other"] (spR_law_same K n)) : FnOk PySem.Challenge.pw_renamedhorn_k42_mixtures_counted w K mg base (L2N.CX PySem.Challenge.pw_renamedhorn_k42_mixtures_counted w) (n + 1) (ga K "_law_same") (fdOf K (ga K "_law_same")) ["_law_one", "_law_other"] (spn_law_same K n) := by
  refine T.fn_law_same.ok sc_law_same (fun vs H Q E h => Sp2.len h) (fun cdv A outer s H vs Q E hr h => ⟨t_law_same K (spR_law_same K n) (fun cls d _ H => E cls d H), ?_, pure_law_same h⟩)
  · have tk := L2N.takes_of (X := cxOf (L2N.CX PySem.Challenge.pw_renamedhorn_k42_mixtures_counted w) PySem.Challenge.pw_renamedhorn_k42_mixtures_counted w K mg base N_law_same "_law_same" (defScope Hd.s_law_same) (ga K "_law_same") cdv A outer s H E) (E := E) rfl rfl rfl rfl
    exact (pss_cut (ps_if (PW.pt (pw_or (pt_val (pe_callB call_isi (by rfl) T.f_isinstance PyProof.Rows.Boot.«isinstance» (pa_cons (pv 0) (pa_cons (pe_bltn (v := .ty "bool") rfl (T.f_bool) PyProof.Rows.Boot.«bool» rfl) pa_nil)))) (pw_or1 (pt_val (pe_callB call_isi (by rfl) T.f_isinstance PyProof.Rows.Boot.«isinstance» (pa_cons (pv 1) (pa_cons (pe_bltn (v := .ty "bool") rfl (T.f_bool) PyProof.Rows.Boot.«bool» rfl) pa_nil))))))) (pss_one (ps_ret (pe_and (pe_callB call_isi (by rfl) T.f_isinstance PyProof.Rows.Boot.«isinstance» (pa_cons (pv 0) (pa_cons (pe_bltn (v := .ty "bool") rfl (T.f_bool) PyProof.Rows.Boot.«bool» rfl) pa_nil))) (pe_and (pe_callB call_isi (by rfl) T.f_isinstance PyProof.Rows.Boot.«isinstance» (pa_cons (pv 1) (pa_cons (pe_bltn (v := .ty "bool") rfl (T.f_bool) PyProof.Rows.Boot.«bool» rfl) pa_nil))) (pe_one (pe_cmpR (op_eqP hr.units) (pv 0) (pv 1) (nomark _))))))) pss_nil)
      (pss_cut (ps_if (PW.pt (pw_or (pt_val (pe_callB call_isi (by rfl) T.f_isinstance PyProof.Rows.Boot.«isinstance» (pa_cons (pv 0) (pa_cons (pe_bltn (v := .ty "int") rfl (T.f_int) PyProof.Rows.Boot.«int» rfl) pa_nil)))) (pw_or1 (pt_val (pe_callB call_isi (by rfl) T.f_isinstance PyProof.Rows.Boot.«isinstance» (pa_cons (pv 1) (pa_cons (pe_bltn (v := .ty "int") rfl (T.f_int) PyProof.Rows.Boot.«int» rfl) pa_nil))))))) (pss_one (ps_ret (pe_and (pe_callB call_isi (by rfl) T.f_isinstance PyProof.Rows.Boot.«isinstance» (pa_cons (pv 0) (pa_cons (pe_bltn (v := .ty "int") rfl (T.f_int) PyProof.Rows.Boot.«int» rfl) pa_nil))) (pe_and (pe_callB call_isi (by rfl) T.f_isinstance PyProof.Rows.Boot.«isinstance» (pa_cons (pv 1) (pa_cons (pe_bltn (v := .ty "int") rfl (T.f_int) PyProof.Rows.Boot.«int» rfl) pa_nil))) (pe_one (pe_cmpR (op_eqP hr.units) (pv 0) (pv 1) (nomark _))))))) pss_nil)
      (pss_cut (ps_if (PW.pt (pw_or (pt_val (pe_callB call_isi (by rfl) T.f_isinstance PyProof.Rows.Boot.«isinstance» (pa_cons (pv 0) (pa_cons (pe_bltn (v := .ty "str") rfl (T.f_str) PyProof.Rows.Boot.«str» rfl) pa_nil)))) (pw_or1 (pt_val (pe_callB call_isi (by rfl) T.f_isinstance PyProof.Rows.Boot.«isinstance» (pa_cons (pv 1) (pa_cons (pe_bltn (v := .ty "str") rfl (T.f_str) PyProof.Rows.Boot.«str» rfl) pa_nil))))))) (pss_one (ps_ret (pe_and (pe_callB call_isi (by rfl) T.f_isinstance PyProof.Rows.Boot.«isinstance» (pa_cons (pv 0) (pa_cons (pe_bltn (v := .ty "str") rfl (T.f_str) PyProof.Rows.Boot.«str» rfl) pa_nil))) (pe_and (pe_callB call_isi (by rfl) T.f_isinstance PyProof.Rows.Boot.«isinstance» (pa_cons (pv 1) (pa_cons (pe_bltn (v := .ty "str") rfl (T.f_str) PyProof.Rows.Boot.«str» rfl) pa_nil))) (pe_one (pe_cmpR (op_eqP hr.units) (pv 0) (pv 1) (nomark _))))))) pss_nil)
      (pss_cons (ps_asg (pe_and (pe_callB call_isi (by rfl) T.f_isinstance PyProof.Rows.Boot.«isinstance» (pa_cons (pv 0) (pa_cons (pe_bltn (v := .ty "list") rfl (T.f_list) PyProof.Rows.Boot.«list» rfl) pa_nil))) (pe_one (pe_callB call_isi (by rfl) T.f_isinstance PyProof.Rows.Boot.«isinstance» (pa_cons (pv 1) (pa_cons (pe_bltn (v := .ty "list") rfl (T.f_list) PyProof.Rows.Boot.«list» rfl) pa_nil))))) (pg_name (i := 2) sc_law_same.nd rfl (Or.inl rfl)))
      (pss_cut (ps_if (PW.pt (pw_and (pt_not (pt_val (pv 2))) (pw_and1 (pt_not (PW.pt (pw_and (pt_val (pe_callB call_isi (by rfl) T.f_isinstance PyProof.Rows.Boot.«isinstance» (pa_cons (pv 0) (pa_cons (pe_bltn (v := .ty "tuple") rfl (T.f_tuple) PyProof.Rows.Boot.«tuple» rfl) pa_nil)))) (pw_and1 (pt_val (pe_callB call_isi (by rfl) T.f_isinstance PyProof.Rows.Boot.«isinstance» (pa_cons (pv 1) (pa_cons (pe_bltn (v := .ty "tuple") rfl (T.f_tuple) PyProof.Rows.Boot.«tuple» rfl) pa_nil))))))))))) (pss_one (ps_ret (pe_and (pe_cmpR op_isP (pv 0) pe_non (nomark _)) (pe_one (pe_cmpR op_isP (pv 1) pe_non (nomark _)))))) pss_nil)
      (pss_one (ps_ret (pe_and (pe_cmpR (op_eqP hr.units) (pe_callB call_lenP (by rfl) T.f_len PyProof.Rows.Boot.«len» (pa_cons (pv 0) pa_nil)) (pe_callB call_lenP (by rfl) T.f_len PyProof.Rows.Boot.«len» (pa_cons (pv 1) pa_nil)) (nomark _)) (pe_one (pe_callB (cr_all rfl) (by rfl) T.f_all PyProof.Rows.Boot.«all» (pa_cons (pe_lc (own := [("_law_k", 3)]) (g := (gName 3)) (tt := tYes) rfl sc_law_same.nd (pi_range1 (by rfl) T.f_range (pa_cons (pe_callB call_lenP (by rfl) T.f_len PyProof.Rows.Boot.«len» (pa_cons (pv 0) pa_nil)) pa_nil)) (blkOk_by (own := [("_law_k", 3)]) (N := N_law_same) (sc := defScope Hd.s_law_same) (by decide +kernel)) (fun _ _ _ _ _ => (pg_name (i := 3) sc_law_same.nd rfl (Or.inl rfl))) (fun _ _ _ _ _ => pts_nil) (fun _ _ _ _ _ => (pe_call okR (hr.mono (by omega)) rfl T.g_law_same (T.fn_law_same).kp (b_law_same T) .nil passN (pa_cons (pe_ix ix_P (pv 0) (pv 3) (fun _ _ => rfl)) (pa_cons (pe_ix ix_P (pv 1) (pv 3) (fun _ _ => rfl)) pa_nil))))) pa_nil)))))))))))
theorem oka_law_same (T : Tx w K mg) : ∀ n : Nat, FnOk PySem.Challenge.pw_renamedhorn_k42_mixtures_counted w K mg base (L2N.CX PySem.Challenge.pw_renamedhorn_k42_mixtures_counted w) (n + 1) (ga K "_law_same") (fdOf K (ga K "_law_same")) ["_law_one", "_law_other"] (spn_law_same K n)
  | 0 => okn_law_same T 0 ⟨fun _ _ _ _ h => h.elim, fun _ _ _ _ _ _ _ _ _ _ _ _ _ h => h.elim⟩
  | n + 1 => okn_law_same T (n + 1) (oka_law_same T n)
theorem ok_law_same (T : Tx w K mg) : FnOk PySem.Challenge.pw_renamedhorn_k42_mixtures_counted w K mg base (L2N.CX PySem.Challenge.pw_renamedhorn_k42_mixtures_counted w) 5 (ga K "_law_same") (fdOf K (ga K "_law_same")) ["_law_one", "_law_other"] (sp_law_same K) := oka_law_same T 4
theorem sc_Mixture_init : FnScope N_Mixture_init ["self", "counts", "numbers"] (defScope Hd.s_Mixture_init) := ⟨rfl, rfl, rfl, by decide +kernel, rfl, by decide +kernel, by decide +kernel⟩
theorem fr_Mixture_init (T : Tx w K mg) : FnR PySem.Challenge.pw_renamedhorn_k42_mixtures_counted w K mg base (L2N.CX PySem.Challenge.pw_renamedhorn_k42_mixtures_counted w) 4 (ma K (ga K "Mixture") "__init__") (spV_Mixture_init K) := by
  refine Cl.okStarK (p1 := "self") (pv := "numbers") T.fn_Mixture_init (by simp) sc_Mixture_init (fun D doc pm an cdv ct u rest ds hl => match ds, hl, rest with | [_], _, [] => ⟨_, _, _, _, _, _, rfl, rfl, rfl⟩ | [_], _, _ :: _ => ⟨_, _, _, _, _, _, rfl, rfl, rfl⟩) (fun cdv A outer s H vs Q E hr h => ⟨t_Mixture_init K (fun cls d _ H => E cls d H), ?_, pure_Mixture_init h⟩)
  · have tk := L2N.takes_of (X := cxOf (L2N.CX PySem.Challenge.pw_renamedhorn_k42_mixtures_counted w) PySem.Challenge.pw_renamedhorn_k42_mixtures_counted w K mg base N_Mixture_init "Mixture.__init__" (defScope Hd.s_Mixture_init) (ma K (ga K "Mixture") "__init__") cdv A outer s H E) (E := E) rfl rfl rfl rfl
    exact (pss_cut (ps_if (pt_cmpR op_isP (pv 1) pe_non (nomark _)) (pss_cut (ps_for (passes_of rfl) rfl (pi_anyP (pv 2)) (pg_name (i := 3) sc_Mixture_init.nd rfl (Or.inl rfl)) (pss_one (ps_expr (pe_callS (ok_check_number T) (hr.mono (by decide)) rfl T.g_check_number (T.fn_check_number).kp (b_check_number T) (fun σ => L2N.passAt tk σ) (pa_cons (pv 3) pa_nil)))))
      (pss_one (ps_asg (pe_callS (ok_tally T) (hr.mono (by decide)) rfl T.g_tally (T.fn_tally).kp (b_tally T) (fun σ => L2N.passAt tk σ) (pa_cons (pv 2) pa_nil)) (pg_name (i := 1) sc_Mixture_init.nd rfl (Or.inl rfl))))) pss_nil)
      (pss_one (Cl.ps_att (l := [ga K "Book", ga K "Mixture"]) (fun C h => by simp only [List.mem_cons, List.not_mem_nil, or_false] at h; rcases h with rfl | rfl <;> first | exact ⟨T.cls_Book, T.no_Book_rows⟩ | exact ⟨T.cls_Mixture, T.no_Mixture_rows⟩) (pv 0) (pv 1))))
theorem frK_Mixture_init (T : Tx w K mg) : Cl.FnRK PySem.Challenge.pw_renamedhorn_k42_mixtures_counted w K mg base (L2N.CX PySem.Challenge.pw_renamedhorn_k42_mixtures_counted w) 4 (ma K (ga K "Mixture") "__init__") ["counts"] (spK_Mixture_init K) := by
  refine Cl.okStarKW (p1 := "self") (pv := "numbers") T.fn_Mixture_init ["counts"] sc_Mixture_init (fun kV doc pm an cdv ct u rest ws hl => match ws, hl, rest with | [_], _, [] => rfl | [_], _, _ :: _ => rfl) (fun cdv A outer s H vs Q E hr h => ⟨t_Mixture_init K (fun cls d _ H => E cls d H), ?_, pure_Mixture_init h⟩)
  · have tk := L2N.takes_of (X := cxOf (L2N.CX PySem.Challenge.pw_renamedhorn_k42_mixtures_counted w) PySem.Challenge.pw_renamedhorn_k42_mixtures_counted w K mg base N_Mixture_init "Mixture.__init__" (defScope Hd.s_Mixture_init) (ma K (ga K "Mixture") "__init__") cdv A outer s H E) (E := E) rfl rfl rfl rfl
    exact (pss_cut (ps_if (pt_cmpR op_isP (pv 1) pe_non (nomark _)) (pss_cut (ps_for (passes_of rfl) rfl (pi_anyP (pv 2)) (pg_name (i := 3) sc_Mixture_init.nd rfl (Or.inl rfl)) (pss_one (ps_expr (pe_callS (ok_check_number T) (hr.mono (by decide)) rfl T.g_check_number (T.fn_check_number).kp (b_check_number T) (fun σ => L2N.passAt tk σ) (pa_cons (pv 3) pa_nil)))))
      (pss_one (ps_asg (pe_callS (ok_tally T) (hr.mono (by decide)) rfl T.g_tally (T.fn_tally).kp (b_tally T) (fun σ => L2N.passAt tk σ) (pa_cons (pv 2) pa_nil)) (pg_name (i := 1) sc_Mixture_init.nd rfl (Or.inl rfl))))) pss_nil)
      (pss_one (Cl.ps_att (l := [ga K "Book", ga K "Mixture"]) (fun C h => by simp only [List.mem_cons, List.not_mem_nil, or_false] at h; rcases h with rfl | rfl <;> first | exact ⟨T.cls_Book, T.no_Book_rows⟩ | exact ⟨T.cls_Mixture, T.no_Mixture_rows⟩) (pv 0) (pv 1))))
theorem sc_law_mixed : FnScope N_law_mixed ["_law_row"] (defScope Hd.s_law_mixed) := ⟨rfl, rfl, rfl, by decide +kernel, rfl, by decide +kernel, by decide +kernel⟩
theorem b_law_mixed (T : Tx w K mg) : Binds K (fdOf K (ga K "_law_mixed")) ["_law_row"] [] := T.fn_law_mixed.bindsN fun _ _ _ _ _ _ us hl => match us, hl with | [_], _ => rfl
theorem ok_law_mixed (T : Tx w K mg) : FnOk PySem.Challenge.pw_renamedhorn_k42_mixtures_counted w K mg base (L2N.CX PySem.Challenge.pw_renamedhorn_k42_mixtures_counted w) 8 (ga K "_law_mixed") (fdOf K (ga K "_law_mixed")) ["_law_row"] (sp_law_mixed K) := by
  refine T.fn_law_mixed.ok sc_law_mixed (fun vs H Q E h => len_law_mixed h) (fun cdv A outer s H vs Q E hr h => ⟨t_law_mixed K (fun cls d _ H => E cls d H), ?_, pure_law_mixed h⟩)
  · have tk := L2N.takes_of (X := cxOf (L2N.CX PySem.Challenge.pw_renamedhorn_k42_mixtures_counted w) PySem.Challenge.pw_renamedhorn_k42_mixtures_counted w K mg base N_law_mixed "_law_mixed" (defScope Hd.s_law_mixed) (ga K "_law_mixed") cdv A outer s H E) (E := E) rfl rfl rfl rfl
    exact (pss_cut (ps_if (pt_cmpR (op_eqP hr.units) (pe_callB call_lenP (by rfl) T.f_len PyProof.Rows.Boot.«len» (pa_cons (pv 0) pa_nil)) pe_int (nomark _)) (pss_one (ps_ret (Cl.pe_makeS0 T.mk_Mixture (fr_Mixture_init T) (hr.mono (by decide)) rfl T.g_Mixture (fun σ => L2N.passAt tk σ)))) pss_nil)
      (pss_cut (ps_if (pt_cmpR (op_eqP hr.units) (pe_callB call_lenP (by rfl) T.f_len PyProof.Rows.Boot.«len» (pa_cons (pv 0) pa_nil)) pe_int (nomark _)) (pss_one (ps_ret (Cl.pe_makeS T.mk_Mixture (fr_Mixture_init T) (hr.mono (by decide)) rfl T.g_Mixture (fun σ => L2N.passAt tk σ) (pa_cons (pe_ix ix_P (pv 0) pe_int (fun _ _ => rfl)) pa_nil)))) pss_nil)
      (pss_cut (ps_if (pt_cmpR (op_eqP hr.units) (pe_callB call_lenP (by rfl) T.f_len PyProof.Rows.Boot.«len» (pa_cons (pv 0) pa_nil)) pe_int (nomark _)) (pss_one (ps_ret (Cl.pe_makeS T.mk_Mixture (fr_Mixture_init T) (hr.mono (by decide)) rfl T.g_Mixture (fun σ => L2N.passAt tk σ) (pa_cons (pe_ix ix_P (pv 0) pe_int (fun _ _ => rfl)) (pa_cons (pe_ix ix_P (pv 0) pe_int (fun _ _ => rfl)) pa_nil))))) pss_nil)
      (pss_cut (ps_if (pt_cmpR (op_eqP hr.units) (pe_callB call_lenP (by rfl) T.f_len PyProof.Rows.Boot.«len» (pa_cons (pv 0) pa_nil)) pe_int (nomark _)) (pss_one (ps_ret (Cl.pe_makeS T.mk_Mixture (fr_Mixture_init T) (hr.mono (by decide)) rfl T.g_Mixture (fun σ => L2N.passAt tk σ) (pa_cons (pe_ix ix_P (pv 0) pe_int (fun _ _ => rfl)) (pa_cons (pe_ix ix_P (pv 0) pe_int (fun _ _ => rfl)) (pa_cons (pe_ix ix_P (pv 0) pe_int (fun _ _ => rfl)) pa_nil)))))) pss_nil)
      (pss_one (ps_ret (Cl.pe_makeS T.mk_Mixture (fr_Mixture_init T) (hr.mono (by decide)) rfl T.g_Mixture (fun σ => L2N.passAt tk σ) (pa_cons (pe_ix ix_P (pv 0) pe_int (fun _ _ => rfl)) (pa_cons (pe_ix ix_P (pv 0) pe_int (fun _ _ => rfl)) (pa_cons (pe_ix ix_P (pv 0) pe_int (fun _ _ => rfl)) (pa_cons (pe_ix ix_P (pv 0) pe_int (fun _ _ => rfl)) pa_nil)))))))))))
theorem sc_Mixture_getitem : FnScope N_Mixture_getitem ["self", "number"] (defScope Hd.s_Mixture_getitem) := ⟨rfl, rfl, rfl, by decide +kernel, rfl, by decide +kernel, by decide +kernel⟩
theorem b_Mixture_getitem (T : Tx w K mg) : Binds K (fdOf K (ma K (ga K "Mixture") "__getitem__")) ["self", "number"] [] := T.fn_Mixture_getitem.bindsN fun _ _ _ _ _ _ us hl => match us, hl with | [_, _], _ => rfl
theorem ok_Mixture_getitem (T : Tx w K mg) : FnOk PySem.Challenge.pw_renamedhorn_k42_mixtures_counted w K mg base (L2N.CX PySem.Challenge.pw_renamedhorn_k42_mixtures_counted w) 4 (ma K (ga K "Mixture") "__getitem__") (fdOf K (ma K (ga K "Mixture") "__getitem__")) ["self", "number"] (sp_Mixture_getitem K) := by
  refine T.fn_Mixture_getitem.ok sc_Mixture_getitem (fun vs H Q E h => len_Mixture_getitem h) (fun cdv A outer s H vs Q E hr h => ⟨t_Mixture_getitem K (fun cls d _ H => E cls d H), ?_, pure_Mixture_getitem h⟩)
  · have tk := L2N.takes_of (X := cxOf (L2N.CX PySem.Challenge.pw_renamedhorn_k42_mixtures_counted w) PySem.Challenge.pw_renamedhorn_k42_mixtures_counted w K mg base N_Mixture_getitem "Mixture.__getitem__" (defScope Hd.s_Mixture_getitem) (ma K (ga K "Mixture") "__getitem__") cdv A outer s H E) (E := E) rfl rfl rfl rfl
    exact (pss_cons (ps_expr (pe_callS (ok_check_number T) (hr.mono (by decide)) rfl T.g_check_number (T.fn_check_number).kp (b_check_number T) (fun σ => L2N.passAt tk σ) (pa_cons (pv 1) pa_nil)))
      (pss_one (ps_ret (pe_dget2 (Nat.lt_of_le_of_lt (Nat.add_le_add_left (by decide : 1 ≤ 64) _) hr.units) (Cl.pe_att (.cons (Cl.alt_fld T.cls_Book T.no_Book_rows) (.cons (Cl.alt_fld T.cls_Mixture T.no_Mixture_rows) .nil)) (pv 0)) (pv 1) pe_int ⟨rfl, rfl, rfl, rfl⟩))))
theorem sc_Mixture_setitem : FnScope N_Mixture_setitem ["self", "number", "count"] (defScope Hd.s_Mixture_setitem) := ⟨rfl, rfl, rfl, by decide +kernel, rfl, by decide +kernel, by decide +kernel⟩
theorem b_Mixture_setitem (T : Tx w K mg) : Binds K (fdOf K (ma K (ga K "Mixture") "__setitem__")) ["self", "number", "count"] [] := T.fn_Mixture_setitem.bindsN fun _ _ _ _ _ _ us hl => match us, hl with | [_, _, _], _ => rfl
theorem ok_Mixture_setitem (T : Tx w K mg) : FnOk PySem.Challenge.pw_renamedhorn_k42_mixtures_counted w K mg base (L2N.CX PySem.Challenge.pw_renamedhorn_k42_mixtures_counted w) 4 (ma K (ga K "Mixture") "__setitem__") (fdOf K (ma K (ga K "Mixture") "__setitem__")) ["self", "number", "count"] (sp_Mixture_setitem K) := by
  refine T.fn_Mixture_setitem.ok sc_Mixture_setitem (fun vs H Q E h => len_Mixture_setitem h) (fun cdv A outer s H vs Q E hr h => ⟨t_Mixture_setitem K (fun cls d _ H => E cls d H), ?_, pure_Mixture_setitem h⟩)
  · have tk := L2N.takes_of (X := cxOf (L2N.CX PySem.Challenge.pw_renamedhorn_k42_mixtures_counted w) PySem.Challenge.pw_renamedhorn_k42_mixtures_counted w K mg base N_Mixture_setitem "Mixture.__setitem__" (defScope Hd.s_Mixture_setitem) (ma K (ga K "Mixture") "__setitem__") cdv A outer s H E) (E := E) rfl rfl rfl rfl
    obtain ⟨u_Book_LIMIT, con_Book_LIMIT⟩ := T.con_Book_LIMIT
    obtain ⟨u_Clause_LIMIT, con_Clause_LIMIT⟩ := T.con_Clause_LIMIT
    obtain ⟨u_Mixture_LIMIT, con_Mixture_LIMIT⟩ := T.con_Mixture_LIMIT
    obtain ⟨u_Turning_LIMIT, con_Turning_LIMIT⟩ := T.con_Turning_LIMIT
    exact (pss_cons (ps_expr (pe_callS (ok_check_number T) (hr.mono (by decide)) rfl T.g_check_number (T.fn_check_number).kp (b_check_number T) (fun σ => L2N.passAt tk σ) (pa_cons (pv 1) pa_nil)))
      (pss_cut (ps_if (PW.pt (pw_or (pt_cmpR op_ltP (pv 2) pe_int (nomark _)) (pw_or1 (pt_cmpR op_gtP (pv 2) (Cl.pe_att (.cons (Cl.alt_con T.cls_Clause con_Clause_LIMIT) (.cons (Cl.alt_con T.cls_Turning con_Turning_LIMIT) (.cons (Cl.alt_con T.cls_Book con_Book_LIMIT) (.cons (Cl.alt_con T.cls_Mixture con_Mixture_LIMIT) .nil)))) (pv 0)) (nomark _))))) (pss_one (ps_raiseE rfl T.err_BadCount hr tk (pa_cons (pv 2) pa_nil))) pss_nil)
      (pss_cons (ps_asg (pe_callTy Cl.call_dictD2 (by rfl) T.f_dict PyProof.Rows.Boot.«dict» (pa_cons (Cl.pe_att (.cons (Cl.alt_fld T.cls_Book T.no_Book_rows) (.cons (Cl.alt_fld T.cls_Mixture T.no_Mixture_rows) .nil)) (pv 0)) pa_nil)) (pg_name (i := 3) sc_Mixture_setitem.nd rfl (Or.inr rfl)))
      (pss_cons (ps_asg (pv 2) (pg_sub (pv 3) (pv 1) (set_P hr.units)))
      (pss_one (Cl.ps_att (l := [ga K "Book", ga K "Mixture"]) (fun C h => by simp only [List.mem_cons, List.not_mem_nil, or_false] at h; rcases h with rfl | rfl <;> first | exact ⟨T.cls_Book, T.no_Book_rows⟩ | exact ⟨T.cls_Mixture, T.no_Mixture_rows⟩) (pv 0) (pe_dc (own := [("each", 4)]) (g := (gName 4)) (tt := (tTest (tOp rGtP (tDGet (tVar 3) (tVar 4)) (tC (.int 0))))) rfl sc_Mixture_setitem.nd (pi_anyP (pe_callB cr_sortedP2 (by rfl) T.f_sorted PyProof.Rows.Boot.«sorted» (pa_cons (pe_lock (pe_lc (own := [("other", 5)]) (g := (gName 5)) (tt := tYes) rfl sc_Mixture_setitem.nd (pi_keys (pv 3)) (blkOk_by (own := [("other", 5)]) (N := N_Mixture_setitem) (sc := defScope Hd.s_Mixture_setitem) (by decide +kernel)) (fun _ _ _ _ _ => (pg_name (i := 5) sc_Mixture_setitem.nd rfl (Or.inl rfl))) (fun _ _ _ _ _ => pts_nil) (fun _ _ _ _ _ => (pe_callTy call_intP (by rfl) T.f_int PyProof.Rows.Boot.«int» (pa_cons (pv 5) pa_nil))))) pa_nil))) (blkOk_by (own := [("each", 4)]) (N := N_Mixture_setitem) (sc := defScope Hd.s_Mixture_setitem) (by decide +kernel)) (fun _ _ _ _ _ => (pg_name (i := 4) sc_Mixture_setitem.nd rfl (Or.inl rfl))) (fun _ _ _ _ _ => (pts_one (pt_cmpR op_gtP (pe_dget (Nat.lt_of_le_of_lt (Nat.add_le_add_left (by decide : 1 ≤ 64) _) hr.units) (pv 3) (pv 4) (fun _ _ => rfl)) pe_int (nomark _)))) (fun _ _ _ _ _ => (pv 4)) (fun _ _ _ _ _ => (pe_dget (Nat.lt_of_le_of_lt (Nat.add_le_add_left (by decide : 1 ≤ 64) _) hr.units) (pv 3) (pv 4) (fun _ _ => rfl))))))))))
theorem sc_Mixture_iadd : FnScope N_Mixture_iadd ["self", "other"] (defScope Hd.s_Mixture_iadd) := ⟨rfl, rfl, rfl, by decide +kernel, rfl, by decide +kernel, by decide +kernel⟩
theorem b_Mixture_iadd (T : Tx w K mg) : Binds K (fdOf K (ma K (ga K "Mixture") "__iadd__")) ["self", "other"] [] := T.fn_Mixture_iadd.bindsN fun _ _ _ _ _ _ us hl => match us, hl with | [_, _], _ => rfl
theorem ok_Mixture_iadd (T : Tx w K mg) : FnOk PySem.Challenge.pw_renamedhorn_k42_mixtures_counted w K mg base (L2N.CX PySem.Challenge.pw_renamedhorn_k42_mixtures_counted w) 4 (ma K (ga K "Mixture") "__iadd__") (fdOf K (ma K (ga K "Mixture") "__iadd__")) ["self", "other"] (sp_Mixture_iadd K) := by
  refine T.fn_Mixture_iadd.ok sc_Mixture_iadd (fun vs H Q E h => len_Mixture_iadd h) (fun cdv A outer s H vs Q E hr h => ⟨t_Mixture_iadd K (fun cls d _ H => E cls d H), ?_, pure_Mixture_iadd ⟨T.ins_Mixture, T.kit_Mixture_Mixture⟩ h⟩)
  · have tk := L2N.takes_of (X := cxOf (L2N.CX PySem.Challenge.pw_renamedhorn_k42_mixtures_counted w) PySem.Challenge.pw_renamedhorn_k42_mixtures_counted w K mg base N_Mixture_iadd "Mixture.__iadd__" (defScope Hd.s_Mixture_iadd) (ma K (ga K "Mixture") "__iadd__") cdv A outer s H E) (E := E) rfl rfl rfl rfl
    obtain ⟨u_Book_LIMIT, con_Book_LIMIT⟩ := T.con_Book_LIMIT
    obtain ⟨u_Clause_LIMIT, con_Clause_LIMIT⟩ := T.con_Clause_LIMIT
    obtain ⟨u_Mixture_LIMIT, con_Mixture_LIMIT⟩ := T.con_Mixture_LIMIT
    obtain ⟨u_Turning_LIMIT, con_Turning_LIMIT⟩ := T.con_Turning_LIMIT
    exact (pss_cut (ps_if (pt_not (pt_val (pe_callB call_isi (by rfl) T.f_isinstance PyProof.Rows.Boot.«isinstance» (pa_cons (pv 1) (pa_cons (pe_glob (v := .ref (ga K "Mixture")) rfl (T.g_Mixture) rfl) pa_nil))))) (pss_one ps_never) pss_nil)
      (pss_cons (Cl.ps_att (l := [ga K "Book", ga K "Mixture"]) (fun C h => by simp only [List.mem_cons, List.not_mem_nil, or_false] at h; rcases h with rfl | rfl <;> first | exact ⟨T.cls_Book, T.no_Book_rows⟩ | exact ⟨T.cls_Mixture, T.no_Mixture_rows⟩) (pv 0) (pe_callS (ok_summed T) (hr.mono (by decide)) rfl T.g_summed (T.fn_summed).kp (b_summed T) (fun σ => L2N.passAt tk σ) (pa_cons (Cl.pe_att (.cons (Cl.alt_fld T.cls_Book T.no_Book_rows) (.cons (Cl.alt_fld T.cls_Mixture T.no_Mixture_rows) .nil)) (pv 0)) (pa_cons (Cl.pe_att (.cons (Cl.alt_fld T.cls_Book T.no_Book_rows) (.cons (Cl.alt_fld T.cls_Mixture T.no_Mixture_rows) .nil)) (pv 1)) (pa_cons (Cl.pe_att (.cons (Cl.alt_con T.cls_Clause con_Clause_LIMIT) (.cons (Cl.alt_con T.cls_Turning con_Turning_LIMIT) (.cons (Cl.alt_con T.cls_Book con_Book_LIMIT) (.cons (Cl.alt_con T.cls_Mixture con_Mixture_LIMIT) .nil)))) (pv 0)) pa_nil)))))
      (pss_one (ps_ret (pv 0)))))
theorem sc_Mixture_add : FnScope N_Mixture_add ["self", "other"] (defScope Hd.s_Mixture_add) := ⟨rfl, rfl, rfl, by decide +kernel, rfl, by decide +kernel, by decide +kernel⟩
theorem b_Mixture_add (T : Tx w K mg) : Binds K (fdOf K (ma K (ga K "Mixture") "__add__")) ["self", "other"] [] := T.fn_Mixture_add.bindsN fun _ _ _ _ _ _ us hl => match us, hl with | [_, _], _ => rfl
theorem ok_Mixture_add (T : Tx w K mg) : FnOk PySem.Challenge.pw_renamedhorn_k42_mixtures_counted w K mg base (L2N.CX PySem.Challenge.pw_renamedhorn_k42_mixtures_counted w) 8 (ma K (ga K "Mixture") "__add__") (fdOf K (ma K (ga K "Mixture") "__add__")) ["self", "other"] (sp_Mixture_add K) := by
  refine T.fn_Mixture_add.ok sc_Mixture_add (fun vs H Q E h => len_Mixture_add h) (fun cdv A outer s H vs Q E hr h => ⟨t_Mixture_add K (fun cls d _ H => E cls d H), ?_, pure_Mixture_add ⟨T.ins_Mixture, T.kit_Mixture_Mixture⟩ h⟩)
  · have tk := L2N.takes_of (X := cxOf (L2N.CX PySem.Challenge.pw_renamedhorn_k42_mixtures_counted w) PySem.Challenge.pw_renamedhorn_k42_mixtures_counted w K mg base N_Mixture_add "Mixture.__add__" (defScope Hd.s_Mixture_add) (ma K (ga K "Mixture") "__add__") cdv A outer s H E) (E := E) rfl rfl rfl rfl
    obtain ⟨u_Book_LIMIT, con_Book_LIMIT⟩ := T.con_Book_LIMIT
    obtain ⟨u_Clause_LIMIT, con_Clause_LIMIT⟩ := T.con_Clause_LIMIT
    obtain ⟨u_Mixture_LIMIT, con_Mixture_LIMIT⟩ := T.con_Mixture_LIMIT
    obtain ⟨u_Turning_LIMIT, con_Turning_LIMIT⟩ := T.con_Turning_LIMIT
    exact (pss_cut (ps_if (pt_not (pt_val (pe_callB call_isi (by rfl) T.f_isinstance PyProof.Rows.Boot.«isinstance» (pa_cons (pv 1) (pa_cons (pe_glob (v := .ref (ga K "Mixture")) rfl (T.g_Mixture) rfl) pa_nil))))) (pss_one ps_never) pss_nil)
      (pss_one (ps_ret (Cl.pe_makeSK0 (ks := ["counts"]) T.mk_Mixture (frK_Mixture_init T) (hr.mono (by decide)) rfl T.g_Mixture (fun σ => L2N.passAt tk σ) (pk_cons (pe_callS (ok_summed T) (hr.mono (by decide)) rfl T.g_summed (T.fn_summed).kp (b_summed T) (fun σ => L2N.passAt tk σ) (pa_cons (Cl.pe_att (.cons (Cl.alt_fld T.cls_Book T.no_Book_rows) (.cons (Cl.alt_fld T.cls_Mixture T.no_Mixture_rows) .nil)) (pv 0)) (pa_cons (Cl.pe_att (.cons (Cl.alt_fld T.cls_Book T.no_Book_rows) (.cons (Cl.alt_fld T.cls_Mixture T.no_Mixture_rows) .nil)) (pv 1)) (pa_cons (Cl.pe_att (.cons (Cl.alt_con T.cls_Clause con_Clause_LIMIT) (.cons (Cl.alt_con T.cls_Turning con_Turning_LIMIT) (.cons (Cl.alt_con T.cls_Book con_Book_LIMIT) (.cons (Cl.alt_con T.cls_Mixture con_Mixture_LIMIT) .nil)))) (pv 0)) pa_nil)))) pk_nil)))))
theorem sc_Mixture_mul : FnScope N_Mixture_mul ["self", "other"] (defScope Hd.s_Mixture_mul) := ⟨rfl, rfl, rfl, by decide +kernel, rfl, by decide +kernel, by decide +kernel⟩
theorem b_Mixture_mul (T : Tx w K mg) : Binds K (fdOf K (ma K (ga K "Mixture") "__mul__")) ["self", "other"] [] := T.fn_Mixture_mul.bindsN fun _ _ _ _ _ _ us hl => match us, hl with | [_, _], _ => rfl
theorem ok_Mixture_mul (T : Tx w K mg) : FnOk PySem.Challenge.pw_renamedhorn_k42_mixtures_counted w K mg base (L2N.CX PySem.Challenge.pw_renamedhorn_k42_mixtures_counted w) 8 (ma K (ga K "Mixture") "__mul__") (fdOf K (ma K (ga K "Mixture") "__mul__")) ["self", "other"] (sp_Mixture_mul K) := by
  refine T.fn_Mixture_mul.ok sc_Mixture_mul (fun vs H Q E h => len_Mixture_mul h) (fun cdv A outer s H vs Q E hr h => ⟨t_Mixture_mul K (fun cls d _ H => E cls d H), ?_, pure_Mixture_mul h⟩)
  · have tk := L2N.takes_of (X := cxOf (L2N.CX PySem.Challenge.pw_renamedhorn_k42_mixtures_counted w) PySem.Challenge.pw_renamedhorn_k42_mixtures_counted w K mg base N_Mixture_mul "Mixture.__mul__" (defScope Hd.s_Mixture_mul) (ma K (ga K "Mixture") "__mul__") cdv A outer s H E) (E := E) rfl rfl rfl rfl
    obtain ⟨u_Book_LIMIT, con_Book_LIMIT⟩ := T.con_Book_LIMIT
    obtain ⟨u_Clause_LIMIT, con_Clause_LIMIT⟩ := T.con_Clause_LIMIT
    obtain ⟨u_Mixture_LIMIT, con_Mixture_LIMIT⟩ := T.con_Mixture_LIMIT
    obtain ⟨u_Turning_LIMIT, con_Turning_LIMIT⟩ := T.con_Turning_LIMIT
    exact (pss_cut (ps_if (pt_not (pt_val (pe_callB call_isi (by rfl) T.f_isinstance PyProof.Rows.Boot.«isinstance» (pa_cons (pv 1) (pa_cons (pe_bltn (v := .ty "int") rfl (T.f_int) PyProof.Rows.Boot.«int» rfl) pa_nil))))) (pss_one ps_never) pss_nil)
      (pss_one (ps_ret (Cl.pe_makeSK0 (ks := ["counts"]) T.mk_Mixture (frK_Mixture_init T) (hr.mono (by decide)) rfl T.g_Mixture (fun σ => L2N.passAt tk σ) (pk_cons (pe_callS (ok_multiplied_counts T) (hr.mono (by decide)) rfl T.g_multiplied_counts (T.fn_multiplied_counts).kp (b_multiplied_counts T) (fun σ => L2N.passAt tk σ) (pa_cons (Cl.pe_att (.cons (Cl.alt_fld T.cls_Book T.no_Book_rows) (.cons (Cl.alt_fld T.cls_Mixture T.no_Mixture_rows) .nil)) (pv 0)) (pa_cons (pv 1) (pa_cons (Cl.pe_att (.cons (Cl.alt_con T.cls_Clause con_Clause_LIMIT) (.cons (Cl.alt_con T.cls_Turning con_Turning_LIMIT) (.cons (Cl.alt_con T.cls_Book con_Book_LIMIT) (.cons (Cl.alt_con T.cls_Mixture con_Mixture_LIMIT) .nil)))) (pv 0)) pa_nil)))) pk_nil)))))
theorem sc_Mixture_rmul : FnScope N_Mixture_rmul ["self", "other"] (defScope Hd.s_Mixture_rmul) := ⟨rfl, rfl, rfl, by decide +kernel, rfl, by decide +kernel, by decide +kernel⟩
theorem b_Mixture_rmul (T : Tx w K mg) : Binds K (fdOf K (ma K (ga K "Mixture") "__rmul__")) ["self", "other"] [] := T.fn_Mixture_rmul.bindsN fun _ _ _ _ _ _ us hl => match us, hl with | [_, _], _ => rfl
theorem ok_Mixture_rmul (T : Tx w K mg) : FnOk PySem.Challenge.pw_renamedhorn_k42_mixtures_counted w K mg base (L2N.CX PySem.Challenge.pw_renamedhorn_k42_mixtures_counted w) 8 (ma K (ga K "Mixture") "__rmul__") (fdOf K (ma K (ga K "Mixture") "__rmul__")) ["self", "other"] (sp_Mixture_rmul K) := by
  refine T.fn_Mixture_rmul.ok sc_Mixture_rmul (fun vs H Q E h => len_Mixture_rmul h) (fun cdv A outer s H vs Q E hr h => ⟨t_Mixture_rmul K (fun cls d _ H => E cls d H), ?_, pure_Mixture_rmul h⟩)
  · have tk := L2N.takes_of (X := cxOf (L2N.CX PySem.Challenge.pw_renamedhorn_k42_mixtures_counted w) PySem.Challenge.pw_renamedhorn_k42_mixtures_counted w K mg base N_Mixture_rmul "Mixture.__rmul__" (defScope Hd.s_Mixture_rmul) (ma K (ga K "Mixture") "__rmul__") cdv A outer s H E) (E := E) rfl rfl rfl rfl
    obtain ⟨u_Book_LIMIT, con_Book_LIMIT⟩ := T.con_Book_LIMIT
    obtain ⟨u_Clause_LIMIT, con_Clause_LIMIT⟩ := T.con_Clause_LIMIT
    obtain ⟨u_Mixture_LIMIT, con_Mixture_LIMIT⟩ := T.con_Mixture_LIMIT
    obtain ⟨u_Turning_LIMIT, con_Turning_LIMIT⟩ := T.con_Turning_LIMIT
    exact (pss_cut (ps_if (pt_not (pt_val (pe_callB call_isi (by rfl) T.f_isinstance PyProof.Rows.Boot.«isinstance» (pa_cons (pv 1) (pa_cons (pe_bltn (v := .ty "int") rfl (T.f_int) PyProof.Rows.Boot.«int» rfl) pa_nil))))) (pss_one ps_never) pss_nil)
      (pss_one (ps_ret (Cl.pe_makeSK0 (ks := ["counts"]) T.mk_Mixture (frK_Mixture_init T) (hr.mono (by decide)) rfl T.g_Mixture (fun σ => L2N.passAt tk σ) (pk_cons (pe_callS (ok_multiplied_counts T) (hr.mono (by decide)) rfl T.g_multiplied_counts (T.fn_multiplied_counts).kp (b_multiplied_counts T) (fun σ => L2N.passAt tk σ) (pa_cons (Cl.pe_att (.cons (Cl.alt_fld T.cls_Book T.no_Book_rows) (.cons (Cl.alt_fld T.cls_Mixture T.no_Mixture_rows) .nil)) (pv 0)) (pa_cons (pv 1) (pa_cons (Cl.pe_att (.cons (Cl.alt_con T.cls_Clause con_Clause_LIMIT) (.cons (Cl.alt_con T.cls_Turning con_Turning_LIMIT) (.cons (Cl.alt_con T.cls_Book con_Book_LIMIT) (.cons (Cl.alt_con T.cls_Mixture con_Mixture_LIMIT) .nil)))) (pv 0)) pa_nil)))) pk_nil)))))
theorem sc_law_error : FnScope N_law_error ["_law_mixture", "_law_way", "_law_one", "_law_two"] (defScope Hd.s_law_error) := ⟨rfl, rfl, rfl, by decide +kernel, rfl, by decide +kernel, by decide +kernel⟩
theorem b_law_error (T : Tx w K mg) : Binds K (fdOf K (ga K "_law_error")) ["_law_mixture", "_law_way", "_law_one", "_law_two"] [] := T.fn_law_error.bindsN fun _ _ _ _ _ _ us hl => match us, hl with | [_, _, _, _], _ => rfl
theorem ok_law_error (T : Tx w K mg) : FnOk PySem.Challenge.pw_renamedhorn_k42_mixtures_counted w K mg base (L2N.CX PySem.Challenge.pw_renamedhorn_k42_mixtures_counted w) 12 (ga K "_law_error") (fdOf K (ga K "_law_error")) ["_law_mixture", "_law_way", "_law_one", "_law_two"] (sp_law_error K) := by
  refine T.fn_law_error.ok sc_law_error (fun vs H Q E h => len_law_error h) (fun cdv A outer s H vs Q E hr h => ⟨t_law_error K (fun cls d _ H => E cls d H), ?_, pure_law_error ⟨T.exm_BadNumber_BadNumber, T.excC_BadNumber, T.kit_BadNumber_HornError, T.kit_BadNumber_NoClause, T.exm_BadCount_BadNumber, T.exm_BadCount_BadCount, T.excC_BadCount, T.kit_BadCount_HornError⟩ h⟩)
  · have tk := L2N.takes_of (X := cxOf (L2N.CX PySem.Challenge.pw_renamedhorn_k42_mixtures_counted w) PySem.Challenge.pw_renamedhorn_k42_mixtures_counted w K mg base N_law_error "_law_error" (defScope Hd.s_law_error) (ga K "_law_error") cdv A outer s H E) (E := E) rfl rfl rfl rfl
    exact (pss_cons (ps_asg pe_non (pg_name (i := 4) sc_law_error.nd rfl (Or.inl rfl)))
      (pss_cut (L2N.ps_try_list (tb := fun W1 => (tIfS (tTest (tOp (rEqP K) (tVar 1) (tC (.int 0)))) (tAsg (tCallS (sp_law_mixed K) (WE W1) (tCons (tVar 2) tNil)) (gName 4)) (tIfS (tTest (tOp (rEqP K) (tVar 1) (tC (.int 1)))) (tAsg (Cl.tOpS (Cl.rIxO [(ga K "Mixture", sp_Mixture_getitem K)] (WE W1) (rIxP K)) (tVar 0) (tVar 2)) (gName 4)) (tIfS (tTest (tOp (rEqP K) (tVar 1) (tC (.int 2)))) (tAsg (tVar 3) (Cl.gSubO (tVar 0) (tVar 2) (Cl.rSetO [(ga K "Mixture", sp_Mixture_setitem K)] (WE W1)))) (tIfS (tTest (tOp (rEqP K) (tVar 1) (tC (.int 3)))) (tAsg (Cl.tOpS (Cl.rMix [(ga K "Mixture", sp_Mixture_mul K, sp_Mixture_rmul K)] (WE W1) rMulP) (tVar 0) (tVar 2)) (gName 4)) (tIfS (tTest (tOp (rEqP K) (tVar 1) (tC (.int 4)))) (tAsg (Cl.tOpS (Cl.rMix [(ga K "Mixture", sp_Mixture_mul K, sp_Mixture_rmul K)] (WE W1) rMulP) (tVar 2) (tVar 0)) (gName 4)) (tIfS (tTest (tOp (rEqP K) (tVar 1) (tC (.int 5)))) (tAsg (Cl.tOpS (Cl.rOwn2 [(ga K "Mixture", sp_Mixture_add K)] (WE W1) (rAddP K)) (tVar 0) (tVar 2)) (gName 4)) (Cl.tAugO 0 (tVar 2) (Cl.rInp [(ga K "Mixture", sp_Mixture_iadd K)] (WE W1) (rIn0 fun i j => .int (i + j))))))))))) rfl rfl sc_law_error.nd tk
      (fun W1 pn xe tk1 po_ => (pss_one (ps_if (pt_cmpR (op_eqP hr.units) (pv 1) pe_int (nomark _)) (pss_one (ps_asg (pe_callS (ok_law_mixed T) (hr.mono (by decide)) rfl T.g_law_mixed (T.fn_law_mixed).kp (b_law_mixed T) (fun σ => L2N.passAt tk1 σ) (pa_cons (pv 2) pa_nil)) (pg_name (i := 4) sc_law_error.nd rfl (Or.inl rfl)))) (pss_one (ps_if (pt_cmpR (op_eqP hr.units) (pv 1) pe_int (nomark _)) (pss_one (ps_asg (Cl.pe_ixO (E := (WE W1)) (.cons (Cl.ownM_of T.cls_Mixture T.own_Mixture_getitem T.fn_Mixture_getitem (Cl.toR (ok_Mixture_getitem T) (b_Mixture_getitem T)) (hr.mono (by decide)) (fun σ => L2N.passAt tk1 σ)) .nil) ix_P (pv 0) (pv 2) (fun _ _ => rfl) (fun _ _ => by with_unfolding_all rfl)) (pg_name (i := 4) sc_law_error.nd rfl (Or.inl rfl)))) (pss_one (ps_if (pt_cmpR (op_eqP hr.units) (pv 1) pe_int (nomark _)) (pss_one (ps_asg (pv 3) (Cl.pg_subO (pv 0) (pv 2) (Cl.set_own (E := (WE W1)) hr.units (.cons (Cl.alt_set T.nsq_Mixture T.own_Mixture_setitem (Cl.toR (ok_Mixture_setitem T) (b_Mixture_setitem T)) (hr.mono (by decide)) (fun σ => L2N.passAt tk1 σ)) .nil))))) (pss_one (ps_if (pt_cmpR (op_eqP hr.units) (pv 1) pe_int (nomark _)) (pss_one (ps_asg (Cl.pe_opS (Cl.op_mix (E := (WE W1)) (.cons (Cl.mix_of Cl.int_mul T.mix_Mixture_mul (Cl.toR (ok_Mixture_mul T) (b_Mixture_mul T)) (Cl.toR (ok_Mixture_rmul T) (b_Mixture_rmul T)) (hr.mono (by decide)) (hr.mono (by decide)) (fun σ => L2N.passAt tk1 σ) (fun σ => L2N.passAt tk1 σ)) .nil) op_mulP) (pv 0) (pv 2)) (pg_name (i := 4) sc_law_error.nd rfl (Or.inl rfl)))) (pss_one (ps_if (pt_cmpR (op_eqP hr.units) (pv 1) pe_int (nomark _)) (pss_one (ps_asg (Cl.pe_opS (Cl.op_mix (E := (WE W1)) (.cons (Cl.mix_of Cl.int_mul T.mix_Mixture_mul (Cl.toR (ok_Mixture_mul T) (b_Mixture_mul T)) (Cl.toR (ok_Mixture_rmul T) (b_Mixture_rmul T)) (hr.mono (by decide)) (hr.mono (by decide)) (fun σ => L2N.passAt tk1 σ) (fun σ => L2N.passAt tk1 σ)) .nil) op_mulP) (pv 2) (pv 0)) (pg_name (i := 4) sc_law_error.nd rfl (Or.inl rfl)))) (pss_one (ps_if (pt_cmpR (op_eqP hr.units) (pv 1) pe_int (nomark _)) (pss_one (ps_asg (Cl.pe_opS (Cl.op_own (E := (WE W1)) (.cons (Cl.alt_bin Cl.dd_add T.own_Mixture_add (Cl.toR (ok_Mixture_add T) (b_Mixture_add T)) (hr.mono (by decide)) (fun σ => L2N.passAt tk1 σ)) .nil) op_addP) (pv 0) (pv 2)) (pg_name (i := 4) sc_law_error.nd rfl (Or.inl rfl)))) (pss_one (Cl.ps_augO (i := 0) sc_law_error.nd rfl (Or.inl rfl) (pv 2) (Cl.iop_own (E := (WE W1)) (.cons (Cl.alt_inp Hk.di_add T.own_Mixture_iadd (Cl.toR (ok_Mixture_iadd T) (b_Mixture_iadd T)) (hr.mono (by decide)) (fun σ => L2N.passAt tk1 σ)) .nil) Cl.iop_addP))))))))))))))))
      (.cons (i := 5) (ts := fun a_ cls_ d_ => (tRet (tLst (tCons (tC (.str "number")) (tCons (tErrF (ga K "BadNumber") "number" a_ cls_ d_ (tVar 5)) (tCons (tAndV (tCB (rIsEE K a_ cls_ d_) (tCons (tVar 5) (tCons (tC (.ref (ga K "HornError"))) tNil))) (tNotV (tCB (rIsEE K a_ cls_ d_) (tCons (tVar 5) (tCons (tC (.ref (ga K "NoClause"))) tNil))))) tNil)))))) rfl rfl ⟨rfl, by decide, Or.inl T.g_BadNumber⟩ (fun a oe cls d pn hz hf => (pss_one (ps_ret (pe_lst (pa_cons pe_str (pa_cons (pe_errF T.err_BadNumber hz.zc hf (pv 5)) (pa_cons (pe_and (pe_callB (call_isEE hz.zc hf) (by rfl) T.f_isinstance PyProof.Rows.Boot.«isinstance» (pa_cons (pv 5) (pa_cons (pe_glob (v := .ref (ga K "HornError")) rfl (T.g_HornError) rfl) pa_nil))) (pe_one (pe_not (pe_callB (call_isEE hz.zc hf) (by rfl) T.f_isinstance PyProof.Rows.Boot.«isinstance» (pa_cons (pv 5) (pa_cons (pe_glob (v := .ref (ga K "NoClause")) rfl (T.g_NoClause) rfl) pa_nil)))))) pa_nil)))))))
      (.cons (i := 6) (ts := fun a_ cls_ d_ => (tRet (tLst (tCons (tC (.str "count")) (tCons (tErrF (ga K "BadCount") "count" a_ cls_ d_ (tVar 6)) (tCons (tCB (rIsEE K a_ cls_ d_) (tCons (tVar 6) (tCons (tC (.ref (ga K "HornError"))) tNil))) tNil)))))) rfl rfl ⟨rfl, by decide, Or.inl T.g_BadCount⟩ (fun a oe cls d pn hz hf => (pss_one (ps_ret (pe_lst (pa_cons pe_str (pa_cons (pe_errF T.err_BadCount hz.zc hf (pv 6)) (pa_cons (pe_callB (call_isEE hz.zc hf) (by rfl) T.f_isinstance PyProof.Rows.Boot.«isinstance» (pa_cons (pv 6) (pa_cons (pe_glob (v := .ref (ga K "HornError")) rfl (T.g_HornError) rfl) pa_nil))) pa_nil)))))))
      .nil)))
      (pss_one (ps_ret (pe_lst (pa_cons (pe_cmpR op_isP (pv 4) pe_non (nomark _)) pa_nil))))))
theorem sc_Mixture_total : FnScope N_Mixture_total ["self"] (defScope Hd.s_Mixture_total) := ⟨rfl, rfl, rfl, by decide +kernel, rfl, by decide +kernel, by decide +kernel⟩
theorem b_Mixture_total (T : Tx w K mg) : Binds K (fdOf K (He5.wf K (ga K "Mixture") "property" "total")) ["self"] [] := T.fn_Mixture_total.bindsN fun _ _ _ _ _ _ us hl => match us, hl with | [_], _ => rfl
theorem ok_Mixture_total (T : Tx w K mg) : FnOk PySem.Challenge.pw_renamedhorn_k42_mixtures_counted w K mg base (L2N.CX PySem.Challenge.pw_renamedhorn_k42_mixtures_counted w) 1 (He5.wf K (ga K "Mixture") "property" "total") (fdOf K (He5.wf K (ga K "Mixture") "property" "total")) ["self"] (sp_Mixture_total K) := by
  refine T.fn_Mixture_total.ok sc_Mixture_total (fun vs H Q E h => len_Mixture_total h) (fun cdv A outer s H vs Q E hr h => ⟨t_Mixture_total K (fun cls d _ H => E cls d H), ?_, pure_Mixture_total h⟩)
  · have tk := L2N.takes_of (X := cxOf (L2N.CX PySem.Challenge.pw_renamedhorn_k42_mixtures_counted w) PySem.Challenge.pw_renamedhorn_k42_mixtures_counted w K mg base N_Mixture_total "Mixture.total" (defScope Hd.s_Mixture_total) (He5.wf K (ga K "Mixture") "property" "total") cdv A outer s H E) (E := E) rfl rfl rfl rfl
    exact (pss_one (ps_ret (pe_callB (cr_sum rfl) (by rfl) T.f_sum PyProof.Rows.Boot.«sum» (pa_cons (Cl.pe_listVals rfl (by rfl) T.f_list (Cl.pe_att (.cons (Cl.alt_fld T.cls_Book T.no_Book_rows) (.cons (Cl.alt_fld T.cls_Mixture T.no_Mixture_rows) .nil)) (pv 0))) pa_nil))))
theorem sc_Mixture_len : FnScope N_Mixture_len ["self"] (defScope Hd.s_Mixture_len) := ⟨rfl, rfl, rfl, by decide +kernel, rfl, by decide +kernel, by decide +kernel⟩
theorem b_Mixture_len (T : Tx w K mg) : Binds K (fdOf K (ma K (ga K "Mixture") "__len__")) ["self"] [] := T.fn_Mixture_len.bindsN fun _ _ _ _ _ _ us hl => match us, hl with | [_], _ => rfl
theorem ok_Mixture_len (T : Tx w K mg) : FnOk PySem.Challenge.pw_renamedhorn_k42_mixtures_counted w K mg base (L2N.CX PySem.Challenge.pw_renamedhorn_k42_mixtures_counted w) 1 (ma K (ga K "Mixture") "__len__") (fdOf K (ma K (ga K "Mixture") "__len__")) ["self"] (sp_Mixture_len K) := by
  refine T.fn_Mixture_len.ok sc_Mixture_len (fun vs H Q E h => Sp1.len h) (fun cdv A outer s H vs Q E hr h => ⟨t_Mixture_len K (fun cls d _ H => E cls d H), ?_, pure_Mixture_len h⟩)
  · have tk := L2N.takes_of (X := cxOf (L2N.CX PySem.Challenge.pw_renamedhorn_k42_mixtures_counted w) PySem.Challenge.pw_renamedhorn_k42_mixtures_counted w K mg base N_Mixture_len "Mixture.__len__" (defScope Hd.s_Mixture_len) (ma K (ga K "Mixture") "__len__") cdv A outer s H E) (E := E) rfl rfl rfl rfl
    exact (pss_one (ps_ret (pe_callB Cl.call_lenR (by rfl) T.f_len PyProof.Rows.Boot.«len» (pa_cons (Cl.pe_att (.cons (Cl.alt_fld T.cls_Book T.no_Book_rows) (.cons (Cl.alt_fld T.cls_Mixture T.no_Mixture_rows) .nil)) (pv 0)) pa_nil))))
theorem sc_Mixture_contains : FnScope N_Mixture_contains ["self", "number"] (defScope Hd.s_Mixture_contains) := ⟨rfl, rfl, rfl, by decide +kernel, rfl, by decide +kernel, by decide +kernel⟩
theorem b_Mixture_contains (T : Tx w K mg) : Binds K (fdOf K (ma K (ga K "Mixture") "__contains__")) ["self", "number"] [] := T.fn_Mixture_contains.bindsN fun _ _ _ _ _ _ us hl => match us, hl with | [_, _], _ => rfl
theorem ok_Mixture_contains (T : Tx w K mg) : FnOk PySem.Challenge.pw_renamedhorn_k42_mixtures_counted w K mg base (L2N.CX PySem.Challenge.pw_renamedhorn_k42_mixtures_counted w) 1 (ma K (ga K "Mixture") "__contains__") (fdOf K (ma K (ga K "Mixture") "__contains__")) ["self", "number"] (sp_Mixture_contains K) := by
  refine T.fn_Mixture_contains.ok sc_Mixture_contains (fun vs H Q E h => len_Mixture_contains h) (fun cdv A outer s H vs Q E hr h => ⟨t_Mixture_contains K (fun cls d _ H => E cls d H), ?_, pure_Mixture_contains h⟩)
  · have tk := L2N.takes_of (X := cxOf (L2N.CX PySem.Challenge.pw_renamedhorn_k42_mixtures_counted w) PySem.Challenge.pw_renamedhorn_k42_mixtures_counted w K mg base N_Mixture_contains "Mixture.__contains__" (defScope Hd.s_Mixture_contains) (ma K (ga K "Mixture") "__contains__") cdv A outer s H E) (E := E) rfl rfl rfl rfl
    exact (pss_one (ps_ret (pe_cmpR (op_inP hr.units) (pv 1) (Cl.pe_att (.cons (Cl.alt_fld T.cls_Book T.no_Book_rows) (.cons (Cl.alt_fld T.cls_Mixture T.no_Mixture_rows) .nil)) (pv 0)) (by rfl))))
theorem sc_law_are : FnScope N_law_are ["_law_mixture", "_law_table"] (defScope Hd.s_law_are) := ⟨rfl, rfl, rfl, by decide +kernel, rfl, by decide +kernel, by decide +kernel⟩
theorem b_law_are (T : Tx w K mg) : Binds K (fdOf K (ga K "_law_are")) ["_law_mixture", "_law_table"] [] := T.fn_law_are.bindsN fun _ _ _ _ _ _ us hl => match us, hl with | [_, _], _ => rfl
theorem ok_law_are (T : Tx w K mg) : FnOk PySem.Challenge.pw_renamedhorn_k42_mixtures_counted w K mg base (L2N.CX PySem.Challenge.pw_renamedhorn_k42_mixtures_counted w) 8 (ga K "_law_are") (fdOf K (ga K "_law_are")) ["_law_mixture", "_law_table"] (sp_law_are K) := by
  refine T.fn_law_are.ok sc_law_are (fun vs H Q E h => len_law_are h) (fun cdv A outer s H vs Q E hr h => ⟨t_law_are K (fun cls d _ H => E cls d H), ?_, pure_law_are ⟨T.ins_Mixture, T.kit_Mixture_Mixture⟩ h⟩)
  · have tk := L2N.takes_of (X := cxOf (L2N.CX PySem.Challenge.pw_renamedhorn_k42_mixtures_counted w) PySem.Challenge.pw_renamedhorn_k42_mixtures_counted w K mg base N_law_are "_law_are" (defScope Hd.s_law_are) (ga K "_law_are") cdv A outer s H E) (E := E) rfl rfl rfl rfl
    exact (pss_cons (ps_asg (pe_callB cr_sortedP2 (by rfl) T.f_sorted PyProof.Rows.Boot.«sorted» (pa_cons (pe_lc (own := [("_law_number", 4)]) (g := (gName 4)) (tt := tYes) rfl sc_law_are.nd (pi_anyP (pe_callTy (call_list_dK rfl) (by rfl) T.f_list PyProof.Rows.Boot.«list» (pa_cons (pv 1) pa_nil))) (blkOk_by (own := [("_law_number", 4)]) (N := N_law_are) (sc := defScope Hd.s_law_are) (by decide +kernel)) (fun _ _ _ _ _ => (pg_name (i := 4) sc_law_are.nd rfl (Or.inl rfl))) (fun _ _ _ _ _ => pts_nil) (fun _ _ _ _ _ => (pe_callTy call_intP (by rfl) T.f_int PyProof.Rows.Boot.«int» (pa_cons (pv 4) pa_nil)))) pa_nil)) (pg_name (i := 2) sc_law_are.nd rfl (Or.inl rfl)))
      (pss_cut (ps_if (PW.pt (pw_or (pt_not (pt_val (pe_callB call_isi (by rfl) T.f_isinstance PyProof.Rows.Boot.«isinstance» (pa_cons (pv 0) (pa_cons (pe_glob (v := .ref (ga K "Mixture")) rfl (T.g_Mixture) rfl) pa_nil))))) (pw_or1 (pt_not (pt_val (pe_callS (ok_law_same T) (hr.mono (by decide)) rfl T.g_law_same (T.fn_law_same).kp (b_law_same T) (fun σ => L2N.passAt tk σ) (pa_cons (pe_callTy (Cl.call_listK (.cons ⟨1, _, it_Mixture T, T.own_Mixture_len, (Cl.toR (ok_Mixture_len T) (b_Mixture_len T)).imp (fun _ _ _ _ ⟨a, dx, fs, d, kvs, e, r⟩ => ⟨.ref a, e, a, dx, fs, d, kvs, rfl, r⟩), hr.mono (by decide)⟩ .nil)) (by rfl) T.f_list PyProof.Rows.Boot.«list» (pa_cons (pv 0) pa_nil)) (pa_cons (pv 2) pa_nil)))))))) (pss_one (ps_ret pe_bl)) pss_nil)
      (pss_cons (ps_asg (pe_callB (cr_sum rfl) (by rfl) T.f_sum PyProof.Rows.Boot.«sum» (pa_cons (pe_lc (own := [("_law_number", 4)]) (g := (gName 4)) (tt := tYes) rfl sc_law_are.nd (pi_anyP (pv 2)) (blkOk_by (own := [("_law_number", 4)]) (N := N_law_are) (sc := defScope Hd.s_law_are) (by decide +kernel)) (fun _ _ _ _ _ => (pg_name (i := 4) sc_law_are.nd rfl (Or.inl rfl))) (fun _ _ _ _ _ => pts_nil) (fun _ _ _ _ _ => (pe_dget (Nat.lt_of_le_of_lt (Nat.add_le_add_left (by decide : 1 ≤ 64) _) hr.units) (pv 1) (pv 4) (fun _ _ => rfl)))) pa_nil)) (pg_name (i := 3) sc_law_are.nd rfl (Or.inl rfl)))
      (pss_cut (ps_if (PW.pt (pw_or (pt_not (pt_val (pe_callS (ok_law_same T) (hr.mono (by decide)) rfl T.g_law_same (T.fn_law_same).kp (b_law_same T) (fun σ => L2N.passAt tk σ) (pa_cons (pe_callB (Cl.call_lenK (.cons ⟨1, _, it_Mixture T, T.own_Mixture_len, (Cl.toR (ok_Mixture_len T) (b_Mixture_len T)).imp (fun _ _ _ _ ⟨a, dx, fs, d, kvs, e, r⟩ => ⟨.ref a, e, a, dx, fs, d, kvs, rfl, r⟩), hr.mono (by decide)⟩ .nil)) (by rfl) T.f_len PyProof.Rows.Boot.«len» (pa_cons (pv 0) pa_nil)) (pa_cons (pe_callB (Cl.call_lenK (.cons ⟨1, _, it_Mixture T, T.own_Mixture_len, (Cl.toR (ok_Mixture_len T) (b_Mixture_len T)).imp (fun _ _ _ _ ⟨a, dx, fs, d, kvs, e, r⟩ => ⟨.ref a, e, a, dx, fs, d, kvs, rfl, r⟩), hr.mono (by decide)⟩ .nil)) (by rfl) T.f_len PyProof.Rows.Boot.«len» (pa_cons (pv 2) pa_nil)) pa_nil))))) (pw_or1 (pt_not (pt_val (pe_callS (ok_law_same T) (hr.mono (by decide)) rfl T.g_law_same (T.fn_law_same).kp (b_law_same T) (fun σ => L2N.passAt tk σ) (pa_cons (Cl.pe_att (.cons (Cl.alt_prop T.cls_Mixture T.prop_Mixture_total (ok_Mixture_total T) (hr.mono (by decide)) (b_Mixture_total T) passN) .nil) (pv 0)) (pa_cons (pv 3) pa_nil)))))))) (pss_one (ps_ret pe_bl)) pss_nil)
      (pss_cut (ps_for (passes_of rfl) rfl (pi_anyP (pv 2)) (pg_name (i := 4) sc_law_are.nd rfl (Or.inl rfl)) (pss_one (ps_if (PW.pt (pw_or (Cl.pt_cmpS (Cl.op_ownI (neg := true) (E := (WE fun cls d _ H => E cls d H)) (.cons (Cl.alt_in T.own_Mixture_contains (Cl.toR (ok_Mixture_contains T) (b_Mixture_contains T)) (hr.mono (by decide)) (fun σ => L2N.passAt tk σ)) .nil) (op_ninP hr.units)) (pv 4) (pv 0) (by rfl)) (pw_or1 (pt_not (pt_val (pe_callS (ok_law_same T) (hr.mono (by decide)) rfl T.g_law_same (T.fn_law_same).kp (b_law_same T) (fun σ => L2N.passAt tk σ) (pa_cons (Cl.pe_ixO (E := (WE fun cls d _ H => E cls d H)) (.cons (Cl.ownM_of T.cls_Mixture T.own_Mixture_getitem T.fn_Mixture_getitem (Cl.toR (ok_Mixture_getitem T) (b_Mixture_getitem T)) (hr.mono (by decide)) (fun σ => L2N.passAt tk σ)) .nil) ix_P (pv 0) (pv 4) (fun _ _ => rfl) (fun _ _ => by with_unfolding_all rfl)) (pa_cons (pe_dget (Nat.lt_of_le_of_lt (Nat.add_le_add_left (by decide : 1 ≤ 64) _) hr.units) (pv 1) (pv 4) (fun _ _ => rfl)) pa_nil)))))))) (pss_one (ps_ret pe_bl)) pss_nil)))
      (pss_cut (ps_for (passes_of rfl) rfl (pi_anyP (pe_op op_addP (pe_lst (pa_cons pe_int (pa_cons pe_int (pa_cons pe_int (pa_cons pe_int pa_nil))))) (pe_lc (own := [("_law_each", 5)]) (g := (gName 5)) (tt := (tTest (tOp rLtP (tVar 5) (tC (.int 999))))) rfl sc_law_are.nd (pi_anyP (pv 2)) (blkOk_by (own := [("_law_each", 5)]) (N := N_law_are) (sc := defScope Hd.s_law_are) (by decide +kernel)) (fun _ _ _ _ _ => (pg_name (i := 5) sc_law_are.nd rfl (Or.inl rfl))) (fun _ _ _ _ _ => (pts_one (pt_cmpR op_ltP (pv 5) pe_int (nomark _)))) (fun _ _ _ _ _ => (pe_op op_addP (pv 5) pe_int))))) (pg_name (i := 4) sc_law_are.nd rfl (Or.inl rfl)) (pss_one (ps_if (PW.pt (pw_and (Cl.pt_cmpS (Cl.op_ownI (neg := true) (E := (WE fun cls d _ H => E cls d H)) (.cons (Cl.alt_in T.own_Mixture_contains (Cl.toR (ok_Mixture_contains T) (b_Mixture_contains T)) (hr.mono (by decide)) (fun σ => L2N.passAt tk σ)) .nil) (op_ninP hr.units)) (pv 4) (pv 1) (by rfl)) (pw_and1 (PW.pt (pw_or (Cl.pt_cmpS (Cl.op_ownI (neg := false) (E := (WE fun cls d _ H => E cls d H)) (.cons (Cl.alt_in T.own_Mixture_contains (Cl.toR (ok_Mixture_contains T) (b_Mixture_contains T)) (hr.mono (by decide)) (fun σ => L2N.passAt tk σ)) .nil) (op_inP hr.units)) (pv 4) (pv 0) (by rfl)) (pw_or1 (pt_not (pt_val (pe_callS (ok_law_same T) (hr.mono (by decide)) rfl T.g_law_same (T.fn_law_same).kp (b_law_same T) (fun σ => L2N.passAt tk σ) (pa_cons (Cl.pe_ixO (E := (WE fun cls d _ H => E cls d H)) (.cons (Cl.ownM_of T.cls_Mixture T.own_Mixture_getitem T.fn_Mixture_getitem (Cl.toR (ok_Mixture_getitem T) (b_Mixture_getitem T)) (hr.mono (by decide)) (fun σ => L2N.passAt tk σ)) .nil) ix_P (pv 0) (pv 4) (fun _ _ => rfl) (fun _ _ => by with_unfolding_all rfl)) (pa_cons pe_int pa_nil))))))))))) (pss_one (ps_ret pe_bl)) pss_nil)))
      (pss_one (ps_ret pe_bl))))))))
theorem sc_law_drawn : FnScope N_law_drawn ["_law_source_here", "_law_table"] (defScope Hd.s_law_drawn) := ⟨rfl, rfl, rfl, by decide +kernel, rfl, by decide +kernel, by decide +kernel⟩
theorem b_law_drawn (T : Tx w K mg) : Binds K (fdOf K (ga K "_law_drawn")) ["_law_source_here", "_law_table"] [] := T.fn_law_drawn.bindsN fun _ _ _ _ _ _ us hl => match us, hl with | [_, _], _ => rfl
theorem ok_law_drawn (T : Tx w K mg) : FnOk PySem.Challenge.pw_renamedhorn_k42_mixtures_counted w K mg base (L2N.CX PySem.Challenge.pw_renamedhorn_k42_mixtures_counted w) 2 (ga K "_law_drawn") (fdOf K (ga K "_law_drawn")) ["_law_source_here", "_law_table"] (sp_law_drawn K) := by
  refine T.fn_law_drawn.ok sc_law_drawn (fun vs H Q E h => len_law_drawn h) (fun cdv A outer s H vs Q E hr h => ⟨t_law_drawn K (fun cls d _ H => E cls d H), ?_, pure_law_drawn h⟩)
  · have tk := L2N.takes_of (X := cxOf (L2N.CX PySem.Challenge.pw_renamedhorn_k42_mixtures_counted w) PySem.Challenge.pw_renamedhorn_k42_mixtures_counted w K mg base N_law_drawn "_law_drawn" (defScope Hd.s_law_drawn) (ga K "_law_drawn") cdv A outer s H E) (E := E) rfl rfl rfl rfl
    exact (pss_cons (ps_asg (pe_lst pa_nil) (pg_name (i := 2) sc_law_drawn.nd rfl (Or.inl rfl)))
      (pss_cut (ps_for (passes_of rfl) rfl (pi_range1 (by rfl) T.f_range (pa_cons (pe_callS (ok_law_take T) (hr.mono (by decide)) rfl T.g_law_take (T.fn_law_take).kp (b_law_take T) (fun σ => L2N.passAt tk σ) (pa_cons (pv 0) (pa_cons pe_int pa_nil))) pa_nil)) (pg_name (i := 3) sc_law_drawn.nd rfl (Or.inl rfl)) (pss_cons (ps_asg (pe_op op_addP pe_int (pe_callS (ok_law_take T) (hr.mono (by decide)) rfl T.g_law_take (T.fn_law_take).kp (b_law_take T) (fun σ => L2N.passAt tk σ) (pa_cons (pv 0) (pa_cons pe_int pa_nil)))) (pg_name (i := 4) sc_law_drawn.nd rfl (Or.inl rfl)))
      (pss_cut (ps_if (PW.pt (pw_and (pt_cmpR op_gtP (pv 3) pe_int (nomark _)) (pw_and1 (pt_cmpR (op_eqP hr.units) (pe_callS (ok_law_take T) (hr.mono (by decide)) rfl T.g_law_take (T.fn_law_take).kp (b_law_take T) (fun σ => L2N.passAt tk σ) (pa_cons (pv 0) (pa_cons pe_int pa_nil))) pe_int (nomark _))))) (pss_one (ps_asg (pe_ix ix_P (pv 2) pe_int (fun _ _ => rfl)) (pg_name (i := 4) sc_law_drawn.nd rfl (Or.inl rfl)))) pss_nil)
      (pss_cons (ps_expr (pe_bm PySem.F.plainAttrs_list PySem.F.slot_list_append PySem.F.type_list_append mt_append (pv 2) (pa_cons (pv 4) pa_nil)))
      (pss_one (ps_asg (pe_op op_addP (pe_dget2 (Nat.lt_of_le_of_lt (Nat.add_le_add_left (by decide : 1 ≤ 64) _) hr.units) (pv 1) (pv 4) pe_int ⟨rfl, rfl, rfl, rfl⟩) pe_int) (pg_sub (pv 1) (pv 4) (set_P hr.units))))))))
      (pss_one (ps_ret (pv 2)))))
theorem sc_law_outside : FnScope N_law_outside ["_law_source_here"] (defScope Hd.s_law_outside) := ⟨rfl, rfl, rfl, by decide +kernel, rfl, by decide +kernel, by decide +kernel⟩
theorem b_law_outside (T : Tx w K mg) : Binds K (fdOf K (ga K "_law_outside")) ["_law_source_here"] [] := T.fn_law_outside.bindsN fun _ _ _ _ _ _ us hl => match us, hl with | [_], _ => rfl
theorem ok_law_outside (T : Tx w K mg) : FnOk PySem.Challenge.pw_renamedhorn_k42_mixtures_counted w K mg base (L2N.CX PySem.Challenge.pw_renamedhorn_k42_mixtures_counted w) 2 (ga K "_law_outside") (fdOf K (ga K "_law_outside")) ["_law_source_here"] (sp_law_outside K) := by
  refine T.fn_law_outside.ok sc_law_outside (fun vs H Q E h => len_law_outside h) (fun cdv A outer s H vs Q E hr h => ⟨t_law_outside K (fun cls d _ H => E cls d H), ?_, pure_law_outside h⟩)
  · have tk := L2N.takes_of (X := cxOf (L2N.CX PySem.Challenge.pw_renamedhorn_k42_mixtures_counted w) PySem.Challenge.pw_renamedhorn_k42_mixtures_counted w K mg base N_law_outside "_law_outside" (defScope Hd.s_law_outside) (ga K "_law_outside") cdv A outer s H E) (E := E) rfl rfl rfl rfl
    exact (pss_one (ps_ret (pe_ix ix_P (pe_lst (pa_cons pe_int (pa_cons (pe_op op_subP (pe_un un_neg pe_int) (pe_callS (ok_law_take T) (hr.mono (by decide)) rfl T.g_law_take (T.fn_law_take).kp (b_law_take T) (fun σ => L2N.passAt tk σ) (pa_cons (pv 0) (pa_cons pe_int pa_nil)))) (pa_cons pe_int (pa_cons (pe_op op_addP pe_int (pe_callS (ok_law_take T) (hr.mono (by decide)) rfl T.g_law_take (T.fn_law_take).kp (b_law_take T) (fun σ => L2N.passAt tk σ) (pa_cons (pv 0) (pa_cons (pe_op op_powP pe_int pe_int) pa_nil)))) pa_nil))))) (pe_callS (ok_law_take T) (hr.mono (by decide)) rfl T.g_law_take (T.fn_law_take).kp (b_law_take T) (fun σ => L2N.passAt tk σ) (pa_cons (pv 0) (pa_cons pe_int pa_nil))) (fun _ _ => rfl))))
theorem sc_law_settings : FnScope N_law_settings ["_law_source_here", "_law_mixture", "_law_table"] (defScope Hd.s_law_settings) := ⟨rfl, rfl, rfl, by decide +kernel, rfl, by decide +kernel, by decide +kernel⟩
theorem b_law_settings (T : Tx w K mg) : Binds K (fdOf K (ga K "_law_settings")) ["_law_source_here", "_law_mixture", "_law_table"] [] := T.fn_law_settings.bindsN fun _ _ _ _ _ _ us hl => match us, hl with | [_, _, _], _ => rfl
theorem ok_law_settings (T : Tx w K mg) : FnOk PySem.Challenge.pw_renamedhorn_k42_mixtures_counted w K mg base (L2N.CX PySem.Challenge.pw_renamedhorn_k42_mixtures_counted w) 13 (ga K "_law_settings") (fdOf K (ga K "_law_settings")) ["_law_source_here", "_law_mixture", "_law_table"] (sp_law_settings K) := by
  refine T.fn_law_settings.ok sc_law_settings (fun vs H Q E h => len_law_settings h) (fun cdv A outer s H vs Q E hr h => ⟨t_law_settings K (fun cls d _ H => E cls d H), ?_, pure_law_settings h⟩)
  · have tk := L2N.takes_of (X := cxOf (L2N.CX PySem.Challenge.pw_renamedhorn_k42_mixtures_counted w) PySem.Challenge.pw_renamedhorn_k42_mixtures_counted w K mg base N_law_settings "_law_settings" (defScope Hd.s_law_settings) (ga K "_law_settings") cdv A outer s H E) (E := E) rfl rfl rfl rfl
    exact (pss_cut (ps_for (passes_of rfl) rfl (pi_range1 (by rfl) T.f_range (pa_cons (pe_callS (ok_law_take T) (hr.mono (by decide)) rfl T.g_law_take (T.fn_law_take).kp (b_law_take T) (fun σ => L2N.passAt tk σ) (pa_cons (pv 0) (pa_cons pe_int pa_nil))) pa_nil)) (pg_name (i := 3) sc_law_settings.nd rfl (Or.inl rfl)) (pss_cons (ps_asg (pe_op op_addP pe_int (pe_callS (ok_law_take T) (hr.mono (by decide)) rfl T.g_law_take (T.fn_law_take).kp (b_law_take T) (fun σ => L2N.passAt tk σ) (pa_cons (pv 0) (pa_cons pe_int pa_nil)))) (pg_name (i := 4) sc_law_settings.nd rfl (Or.inl rfl)))
      (pss_cut (ps_if (PW.pt (pw_and (pt_cmpR op_gtP (pe_callB Cl.call_lenR (by rfl) T.f_len PyProof.Rows.Boot.«len» (pa_cons (pv 2) pa_nil)) pe_int (nomark _)) (pw_and1 (pt_cmpR (op_eqP hr.units) (pe_callS (ok_law_take T) (hr.mono (by decide)) rfl T.g_law_take (T.fn_law_take).kp (b_law_take T) (fun σ => L2N.passAt tk σ) (pa_cons (pv 0) (pa_cons pe_int pa_nil))) pe_int (nomark _))))) (pss_one (ps_asg (pe_ix ix_P (pe_callTy (call_list_dK rfl) (by rfl) T.f_list PyProof.Rows.Boot.«list» (pa_cons (pv 2) pa_nil)) (pe_callS (ok_law_take T) (hr.mono (by decide)) rfl T.g_law_take (T.fn_law_take).kp (b_law_take T) (fun σ => L2N.passAt tk σ) (pa_cons (pv 0) (pa_cons (pe_callB Cl.call_lenR (by rfl) T.f_len PyProof.Rows.Boot.«len» (pa_cons (pv 2) pa_nil)) pa_nil))) (fun _ _ => rfl)) (pg_name (i := 4) sc_law_settings.nd rfl (Or.inl rfl)))) pss_nil)
      (pss_cons (ps_asg (pe_callS (ok_law_take T) (hr.mono (by decide)) rfl T.g_law_take (T.fn_law_take).kp (b_law_take T) (fun σ => L2N.passAt tk σ) (pa_cons (pv 0) (pa_cons pe_int pa_nil))) (pg_name (i := 5) sc_law_settings.nd rfl (Or.inl rfl)))
      (pss_cut (ps_if (pt_cmpR (op_eqP hr.units) (pe_callS (ok_law_take T) (hr.mono (by decide)) rfl T.g_law_take (T.fn_law_take).kp (b_law_take T) (fun σ => L2N.passAt tk σ) (pa_cons (pv 0) (pa_cons pe_int pa_nil))) pe_int (nomark _)) (pss_cons (ps_asg (pe_lst (pa_cons pe_int (pa_cons pe_int (pa_cons pe_int (pa_cons (pe_op op_addP pe_int (pv 5)) (pa_cons (pe_op op_subP (pe_un un_neg pe_int) (pv 5)) pa_nil)))))) (pg_name (i := 6) sc_law_settings.nd rfl (Or.inl rfl)))
      (pss_one (ps_asg (pe_ix ix_P (pv 6) (pe_callS (ok_law_take T) (hr.mono (by decide)) rfl T.g_law_take (T.fn_law_take).kp (b_law_take T) (fun σ => L2N.passAt tk σ) (pa_cons (pv 0) (pa_cons pe_int pa_nil))) (fun _ _ => rfl)) (pg_name (i := 5) sc_law_settings.nd rfl (Or.inl rfl))))) pss_nil)
      (pss_cut (ps_if (pt_cmpR (op_eqP hr.units) (pe_callS (ok_law_take T) (hr.mono (by decide)) rfl T.g_law_take (T.fn_law_take).kp (b_law_take T) (fun σ => L2N.passAt tk σ) (pa_cons (pv 0) (pa_cons pe_int pa_nil))) pe_int (nomark _)) (pss_cons (ps_asg (pe_callS (ok_law_outside T) (hr.mono (by decide)) rfl T.g_law_outside (T.fn_law_outside).kp (b_law_outside T) (fun σ => L2N.passAt tk σ) (pa_cons (pv 0) pa_nil)) (pg_name (i := 4) sc_law_settings.nd rfl (Or.inl rfl)))
      (pss_one (ps_asg (pe_lst (pa_cons pe_str (pa_cons (pv 4) (pa_cons pe_bl pa_nil)))) (pg_name (i := 7) sc_law_settings.nd rfl (Or.inl rfl))))) (pss_one (ps_if (PW.pt (pw_or (pt_cmpR op_ltP (pv 5) pe_int (nomark _)) (pw_or1 (pt_cmpR op_gtP (pv 5) pe_int (nomark _))))) (pss_one (ps_asg (pe_lst (pa_cons pe_str (pa_cons (pv 5) (pa_cons pe_bl pa_nil)))) (pg_name (i := 7) sc_law_settings.nd rfl (Or.inl rfl)))) (pss_cons (ps_asg (pe_lst (pa_cons pe_bl pa_nil)) (pg_name (i := 7) sc_law_settings.nd rfl (Or.inl rfl)))
      (pss_cons (ps_asg (pv 5) (pg_sub (pv 2) (pv 4) (set_P hr.units)))
      (pss_one (ps_if (pt_cmpR (op_eqP hr.units) (pv 5) pe_int (nomark _)) (pss_one (ps_expr (pe_dpop1 (pv 2) (pv 4) ⟨rfl, rfl, rfl, rfl⟩))) pss_nil)))))))
      (pss_one (ps_if (PW.pt (pw_or (pt_not (pt_val (pe_callS (ok_law_same T) (hr.mono (by decide)) rfl T.g_law_same (T.fn_law_same).kp (b_law_same T) (fun σ => L2N.passAt tk σ) (pa_cons (pe_callS (ok_law_error T) (hr.mono (by decide)) rfl T.g_law_error (T.fn_law_error).kp (b_law_error T) (fun σ => L2N.passAt tk σ) (pa_cons (pv 1) (pa_cons pe_int (pa_cons (pv 4) (pa_cons (pv 5) pa_nil))))) (pa_cons (pv 7) pa_nil))))) (pw_or1 (pt_not (pt_val (pe_callS (ok_law_are T) (hr.mono (by decide)) rfl T.g_law_are (T.fn_law_are).kp (b_law_are T) (fun σ => L2N.passAt tk σ) (pa_cons (pv 1) (pa_cons (pv 2) pa_nil)))))))) (pss_one (ps_ret pe_bl)) pss_nil))))))))
      (pss_one (ps_ret pe_bl)))
theorem sc_law_sum : FnScope N_law_sum ["_law_one", "_law_two"] (defScope Hd.s_law_sum) := ⟨rfl, rfl, rfl, by decide +kernel, rfl, by decide +kernel, by decide +kernel⟩
theorem b_law_sum (T : Tx w K mg) : Binds K (fdOf K (ga K "_law_sum")) ["_law_one", "_law_two"] [] := T.fn_law_sum.bindsN fun _ _ _ _ _ _ us hl => match us, hl with | [_, _], _ => rfl
theorem ok_law_sum (T : Tx w K mg) : FnOk PySem.Challenge.pw_renamedhorn_k42_mixtures_counted w K mg base (L2N.CX PySem.Challenge.pw_renamedhorn_k42_mixtures_counted w) 1 (ga K "_law_sum") (fdOf K (ga K "_law_sum")) ["_law_one", "_law_two"] (sp_law_sum K) := by
  refine T.fn_law_sum.ok sc_law_sum (fun vs H Q E h => len_law_sum h) (fun cdv A outer s H vs Q E hr h => ⟨t_law_sum K (fun cls d _ H => E cls d H), ?_, pure_law_sum h⟩)
  · have tk := L2N.takes_of (X := cxOf (L2N.CX PySem.Challenge.pw_renamedhorn_k42_mixtures_counted w) PySem.Challenge.pw_renamedhorn_k42_mixtures_counted w K mg base N_law_sum "_law_sum" (defScope Hd.s_law_sum) (ga K "_law_sum") cdv A outer s H E) (E := E) rfl rfl rfl rfl
    exact (pss_cons (ps_asg pe_dnewK (pg_name (i := 2) sc_law_sum.nd rfl (Or.inl rfl)))
      (pss_cut (ps_for (passes_of rfl) rfl (pi_anyP (pe_op op_addP (pe_callTy (call_list_dK rfl) (by rfl) T.f_list PyProof.Rows.Boot.«list» (pa_cons (pv 0) pa_nil)) (pe_callTy (call_list_dK rfl) (by rfl) T.f_list PyProof.Rows.Boot.«list» (pa_cons (pv 1) pa_nil)))) (pg_name (i := 3) sc_law_sum.nd rfl (Or.inl rfl)) (pss_one (ps_asg (pe_op op_addP (pe_dget2 (Nat.lt_of_le_of_lt (Nat.add_le_add_left (by decide : 1 ≤ 64) _) hr.units) (pv 0) (pv 3) pe_int ⟨rfl, rfl, rfl, rfl⟩) (pe_dget2 (Nat.lt_of_le_of_lt (Nat.add_le_add_left (by decide : 1 ≤ 64) _) hr.units) (pv 1) (pv 3) pe_int ⟨rfl, rfl, rfl, rfl⟩)) (pg_sub (pv 2) (pv 3) (set_P hr.units)))))
      (pss_one (ps_ret (pv 2)))))
theorem sc_law_times : FnScope N_law_times ["_law_table", "_law_factor"] (defScope Hd.s_law_times) := ⟨rfl, rfl, rfl, by decide +kernel, rfl, by decide +kernel, by decide +kernel⟩
theorem b_law_times (T : Tx w K mg) : Binds K (fdOf K (ga K "_law_times")) ["_law_table", "_law_factor"] [] := T.fn_law_times.bindsN fun _ _ _ _ _ _ us hl => match us, hl with | [_, _], _ => rfl
theorem ok_law_times (T : Tx w K mg) : FnOk PySem.Challenge.pw_renamedhorn_k42_mixtures_counted w K mg base (L2N.CX PySem.Challenge.pw_renamedhorn_k42_mixtures_counted w) 1 (ga K "_law_times") (fdOf K (ga K "_law_times")) ["_law_table", "_law_factor"] (sp_law_times K) := by
  refine T.fn_law_times.ok sc_law_times (fun vs H Q E h => len_law_times h) (fun cdv A outer s H vs Q E hr h => ⟨t_law_times K (fun cls d _ H => E cls d H), ?_, pure_law_times h⟩)
  · have tk := L2N.takes_of (X := cxOf (L2N.CX PySem.Challenge.pw_renamedhorn_k42_mixtures_counted w) PySem.Challenge.pw_renamedhorn_k42_mixtures_counted w K mg base N_law_times "_law_times" (defScope Hd.s_law_times) (ga K "_law_times") cdv A outer s H E) (E := E) rfl rfl rfl rfl
    exact (pss_cons (ps_asg pe_dnewK (pg_name (i := 2) sc_law_times.nd rfl (Or.inl rfl)))
      (pss_cut (ps_if (pt_cmpR op_gtP (pv 1) pe_int (nomark _)) (pss_one (ps_for (passes_of rfl) rfl (pi_anyP (pe_callTy (call_list_dK rfl) (by rfl) T.f_list PyProof.Rows.Boot.«list» (pa_cons (pv 0) pa_nil))) (pg_name (i := 3) sc_law_times.nd rfl (Or.inl rfl)) (pss_one (ps_asg (pe_op op_mulP (pe_dget (Nat.lt_of_le_of_lt (Nat.add_le_add_left (by decide : 1 ≤ 64) _) hr.units) (pv 0) (pv 3) (fun _ _ => rfl)) (pv 1)) (pg_sub (pv 2) (pv 3) (set_P hr.units)))))) pss_nil)
      (pss_one (ps_ret (pv 2)))))
theorem sc_law_over : FnScope N_law_over ["_law_table"] (defScope Hd.s_law_over) := ⟨rfl, rfl, rfl, by decide +kernel, rfl, by decide +kernel, by decide +kernel⟩
theorem b_law_over (T : Tx w K mg) : Binds K (fdOf K (ga K "_law_over")) ["_law_table"] [] := T.fn_law_over.bindsN fun _ _ _ _ _ _ us hl => match us, hl with | [_], _ => rfl
theorem ok_law_over (T : Tx w K mg) : FnOk PySem.Challenge.pw_renamedhorn_k42_mixtures_counted w K mg base (L2N.CX PySem.Challenge.pw_renamedhorn_k42_mixtures_counted w) 1 (ga K "_law_over") (fdOf K (ga K "_law_over")) ["_law_table"] (sp_law_over K) := by
  refine T.fn_law_over.ok sc_law_over (fun vs H Q E h => len_law_over h) (fun cdv A outer s H vs Q E hr h => ⟨t_law_over K (fun cls d _ H => E cls d H), ?_, pure_law_over h⟩)
  · have tk := L2N.takes_of (X := cxOf (L2N.CX PySem.Challenge.pw_renamedhorn_k42_mixtures_counted w) PySem.Challenge.pw_renamedhorn_k42_mixtures_counted w K mg base N_law_over "_law_over" (defScope Hd.s_law_over) (ga K "_law_over") cdv A outer s H E) (E := E) rfl rfl rfl rfl
    exact (pss_cut (ps_for (passes_of rfl) rfl (pi_anyP (pe_callB cr_sortedP2 (by rfl) T.f_sorted PyProof.Rows.Boot.«sorted» (pa_cons (pe_lc (own := [("_law_each", 2)]) (g := (gName 2)) (tt := tYes) rfl sc_law_over.nd (pi_anyP (pe_callTy (call_list_dK rfl) (by rfl) T.f_list PyProof.Rows.Boot.«list» (pa_cons (pv 0) pa_nil))) (blkOk_by (own := [("_law_each", 2)]) (N := N_law_over) (sc := defScope Hd.s_law_over) (by decide +kernel)) (fun _ _ _ _ _ => (pg_name (i := 2) sc_law_over.nd rfl (Or.inl rfl))) (fun _ _ _ _ _ => pts_nil) (fun _ _ _ _ _ => (pe_callTy call_intP (by rfl) T.f_int PyProof.Rows.Boot.«int» (pa_cons (pv 2) pa_nil)))) pa_nil))) (pg_name (i := 1) sc_law_over.nd rfl (Or.inl rfl)) (pss_one (ps_if (pt_cmpR op_gtP (pe_dget (Nat.lt_of_le_of_lt (Nat.add_le_add_left (by decide : 1 ≤ 64) _) hr.units) (pv 0) (pv 1) (fun _ _ => rfl)) pe_int (nomark _)) (pss_one (ps_ret (pe_dget (Nat.lt_of_le_of_lt (Nat.add_le_add_left (by decide : 1 ≤ 64) _) hr.units) (pv 0) (pv 1) (fun _ _ => rfl)))) pss_nil)))
      (pss_one (ps_ret pe_int)))
theorem sc_law_added : FnScope N_law_added ["_law_mixture", "_law_table", "_law_other", "_law_two"] (defScope Hd.s_law_added) := ⟨rfl, rfl, rfl, by decide +kernel, rfl, by decide +kernel, by decide +kernel⟩
theorem b_law_added (T : Tx w K mg) : Binds K (fdOf K (ga K "_law_added")) ["_law_mixture", "_law_table", "_law_other", "_law_two"] [] := T.fn_law_added.bindsN fun _ _ _ _ _ _ us hl => match us, hl with | [_, _, _, _], _ => rfl
theorem ok_law_added (T : Tx w K mg) : FnOk PySem.Challenge.pw_renamedhorn_k42_mixtures_counted w K mg base (L2N.CX PySem.Challenge.pw_renamedhorn_k42_mixtures_counted w) 13 (ga K "_law_added") (fdOf K (ga K "_law_added")) ["_law_mixture", "_law_table", "_law_other", "_law_two"] (sp_law_added K) := by
  refine T.fn_law_added.ok sc_law_added (fun vs H Q E h => len_law_added h) (fun cdv A outer s H vs Q E hr h => ⟨t_law_added K (fun cls d _ H => E cls d H), ?_, pure_law_added h⟩)
  · have tk := L2N.takes_of (X := cxOf (L2N.CX PySem.Challenge.pw_renamedhorn_k42_mixtures_counted w) PySem.Challenge.pw_renamedhorn_k42_mixtures_counted w K mg base N_law_added "_law_added" (defScope Hd.s_law_added) (ga K "_law_added") cdv A outer s H E) (E := E) rfl rfl rfl rfl
    exact (pss_cons (ps_asg (pe_callS (ok_law_sum T) (hr.mono (by decide)) rfl T.g_law_sum (T.fn_law_sum).kp (b_law_sum T) (fun σ => L2N.passAt tk σ) (pa_cons (pv 1) (pa_cons (pv 3) pa_nil))) (pg_name (i := 4) sc_law_added.nd rfl (Or.inl rfl)))
      (pss_cons (ps_asg (pe_callS (ok_law_over T) (hr.mono (by decide)) rfl T.g_law_over (T.fn_law_over).kp (b_law_over T) (fun σ => L2N.passAt tk σ) (pa_cons (pv 4) pa_nil)) (pg_name (i := 5) sc_law_added.nd rfl (Or.inl rfl)))
      (pss_cut (ps_if (pt_cmpR op_gtP (pv 5) pe_int (nomark _)) (pss_one (ps_for (passes_of rfl) rfl (pi_anyP (pe_lst (pa_cons pe_int (pa_cons pe_int pa_nil)))) (pg_name (i := 6) sc_law_added.nd rfl (Or.inl rfl)) (pss_one (ps_if (pt_not (pt_val (pe_callS (ok_law_same T) (hr.mono (by decide)) rfl T.g_law_same (T.fn_law_same).kp (b_law_same T) (fun σ => L2N.passAt tk σ) (pa_cons (pe_callS (ok_law_error T) (hr.mono (by decide)) rfl T.g_law_error (T.fn_law_error).kp (b_law_error T) (fun σ => L2N.passAt tk σ) (pa_cons (pv 0) (pa_cons (pv 6) (pa_cons (pv 2) (pa_cons pe_int pa_nil))))) (pa_cons (pe_lst (pa_cons pe_str (pa_cons (pv 5) (pa_cons pe_bl pa_nil)))) pa_nil))))) (pss_one (ps_ret pe_bl)) pss_nil)))) (pss_one (ps_if (pt_not (pt_val (pe_callS (ok_law_are T) (hr.mono (by decide)) rfl T.g_law_are (T.fn_law_are).kp (b_law_are T) (fun σ => L2N.passAt tk σ) (pa_cons (Cl.pe_opS (Cl.op_own (E := (WE fun cls d _ H => E cls d H)) (.cons (Cl.alt_bin Cl.dd_add T.own_Mixture_add (Cl.toR (ok_Mixture_add T) (b_Mixture_add T)) (hr.mono (by decide)) (fun σ => L2N.passAt tk σ)) .nil) op_addP) (pv 0) (pv 2)) (pa_cons (pv 4) pa_nil))))) (pss_one (ps_ret pe_bl)) pss_nil)))
      (pss_one (ps_ret (pe_and (pe_callS (ok_law_are T) (hr.mono (by decide)) rfl T.g_law_are (T.fn_law_are).kp (b_law_are T) (fun σ => L2N.passAt tk σ) (pa_cons (pv 0) (pa_cons (pv 1) pa_nil))) (pe_one (pe_callS (ok_law_are T) (hr.mono (by decide)) rfl T.g_law_are (T.fn_law_are).kp (b_law_are T) (fun σ => L2N.passAt tk σ) (pa_cons (pv 2) (pa_cons (pv 3) pa_nil))))))))))
theorem sc_law_multiplied : FnScope N_law_multiplied ["_law_mixture", "_law_table", "_law_factor"] (defScope Hd.s_law_multiplied) := ⟨rfl, rfl, rfl, by decide +kernel, rfl, by decide +kernel, by decide +kernel⟩
theorem b_law_multiplied (T : Tx w K mg) : Binds K (fdOf K (ga K "_law_multiplied")) ["_law_mixture", "_law_table", "_law_factor"] [] := T.fn_law_multiplied.bindsN fun _ _ _ _ _ _ us hl => match us, hl with | [_, _, _], _ => rfl
theorem ok_law_multiplied (T : Tx w K mg) : FnOk PySem.Challenge.pw_renamedhorn_k42_mixtures_counted w K mg base (L2N.CX PySem.Challenge.pw_renamedhorn_k42_mixtures_counted w) 13 (ga K "_law_multiplied") (fdOf K (ga K "_law_multiplied")) ["_law_mixture", "_law_table", "_law_factor"] (sp_law_multiplied K) := by
  refine T.fn_law_multiplied.ok sc_law_multiplied (fun vs H Q E h => len_law_multiplied h) (fun cdv A outer s H vs Q E hr h => ⟨t_law_multiplied K (fun cls d _ H => E cls d H), ?_, pure_law_multiplied h⟩)
  · have tk := L2N.takes_of (X := cxOf (L2N.CX PySem.Challenge.pw_renamedhorn_k42_mixtures_counted w) PySem.Challenge.pw_renamedhorn_k42_mixtures_counted w K mg base N_law_multiplied "_law_multiplied" (defScope Hd.s_law_multiplied) (ga K "_law_multiplied") cdv A outer s H E) (E := E) rfl rfl rfl rfl
    exact (pss_cons (ps_asg (pe_callS (ok_law_times T) (hr.mono (by decide)) rfl T.g_law_times (T.fn_law_times).kp (b_law_times T) (fun σ => L2N.passAt tk σ) (pa_cons (pv 1) (pa_cons (pv 2) pa_nil))) (pg_name (i := 3) sc_law_multiplied.nd rfl (Or.inl rfl)))
      (pss_cons (ps_asg (pe_callS (ok_law_over T) (hr.mono (by decide)) rfl T.g_law_over (T.fn_law_over).kp (b_law_over T) (fun σ => L2N.passAt tk σ) (pa_cons (pv 3) pa_nil)) (pg_name (i := 4) sc_law_multiplied.nd rfl (Or.inl rfl)))
      (pss_cut (ps_if (pt_cmpR op_ltP (pv 2) pe_int (nomark _)) (pss_one (ps_asg (pv 2) (pg_name (i := 4) sc_law_multiplied.nd rfl (Or.inl rfl)))) pss_nil)
      (pss_cut (ps_if (pt_cmpR (op_neP hr.units) (pv 4) pe_int (nomark _)) (pss_one (ps_for (passes_of rfl) rfl (pi_anyP (pe_lst (pa_cons pe_int (pa_cons pe_int pa_nil)))) (pg_name (i := 5) sc_law_multiplied.nd rfl (Or.inl rfl)) (pss_one (ps_if (pt_not (pt_val (pe_callS (ok_law_same T) (hr.mono (by decide)) rfl T.g_law_same (T.fn_law_same).kp (b_law_same T) (fun σ => L2N.passAt tk σ) (pa_cons (pe_callS (ok_law_error T) (hr.mono (by decide)) rfl T.g_law_error (T.fn_law_error).kp (b_law_error T) (fun σ => L2N.passAt tk σ) (pa_cons (pv 0) (pa_cons (pv 5) (pa_cons (pv 2) (pa_cons pe_int pa_nil))))) (pa_cons (pe_lst (pa_cons pe_str (pa_cons (pv 4) (pa_cons pe_bl pa_nil)))) pa_nil))))) (pss_one (ps_ret pe_bl)) pss_nil)))) (pss_one (ps_if (PW.pt (pw_or (pt_not (pt_val (pe_callS (ok_law_are T) (hr.mono (by decide)) rfl T.g_law_are (T.fn_law_are).kp (b_law_are T) (fun σ => L2N.passAt tk σ) (pa_cons (Cl.pe_opS (Cl.op_mix (E := (WE fun cls d _ H => E cls d H)) (.cons (Cl.mix_of Cl.int_mul T.mix_Mixture_mul (Cl.toR (ok_Mixture_mul T) (b_Mixture_mul T)) (Cl.toR (ok_Mixture_rmul T) (b_Mixture_rmul T)) (hr.mono (by decide)) (hr.mono (by decide)) (fun σ => L2N.passAt tk σ) (fun σ => L2N.passAt tk σ)) .nil) op_mulP) (pv 0) (pv 2)) (pa_cons (pv 3) pa_nil))))) (pw_or1 (pt_not (pt_val (pe_callS (ok_law_are T) (hr.mono (by decide)) rfl T.g_law_are (T.fn_law_are).kp (b_law_are T) (fun σ => L2N.passAt tk σ) (pa_cons (Cl.pe_opS (Cl.op_mix (E := (WE fun cls d _ H => E cls d H)) (.cons (Cl.mix_of Cl.int_mul T.mix_Mixture_mul (Cl.toR (ok_Mixture_mul T) (b_Mixture_mul T)) (Cl.toR (ok_Mixture_rmul T) (b_Mixture_rmul T)) (hr.mono (by decide)) (hr.mono (by decide)) (fun σ => L2N.passAt tk σ) (fun σ => L2N.passAt tk σ)) .nil) op_mulP) (pv 2) (pv 0)) (pa_cons (pv 3) pa_nil)))))))) (pss_one (ps_ret pe_bl)) pss_nil)))
      (pss_one (ps_ret (pe_callS (ok_law_are T) (hr.mono (by decide)) rfl T.g_law_are (T.fn_law_are).kp (b_law_are T) (fun σ => L2N.passAt tk σ) (pa_cons (pv 0) (pa_cons (pv 1) pa_nil)))))))))
theorem sc_Mixture_eq : FnScope N_Mixture_eq ["self", "other"] (defScope Hd.s_Mixture_eq) := ⟨rfl, rfl, rfl, by decide +kernel, rfl, by decide +kernel, by decide +kernel⟩
theorem b_Mixture_eq (T : Tx w K mg) : Binds K (fdOf K (ma K (ga K "Mixture") "__eq__")) ["self", "other"] [] := T.fn_Mixture_eq.bindsN fun _ _ _ _ _ _ us hl => match us, hl with | [_, _], _ => rfl
theorem ok_Mixture_eq (T : Tx w K mg) : FnOk PySem.Challenge.pw_renamedhorn_k42_mixtures_counted w K mg base (L2N.CX PySem.Challenge.pw_renamedhorn_k42_mixtures_counted w) 1 (ma K (ga K "Mixture") "__eq__") (fdOf K (ma K (ga K "Mixture") "__eq__")) ["self", "other"] (sp_Mixture_eq K) := by
  refine T.fn_Mixture_eq.ok sc_Mixture_eq (fun vs H Q E h => len_Mixture_eq h) (fun cdv A outer s H vs Q E hr h => ⟨t_Mixture_eq K (fun cls d _ H => E cls d H), ?_, pure_Mixture_eq ⟨T.ins_Mixture, T.kit_Mixture_Mixture⟩ h⟩)
  · have tk := L2N.takes_of (X := cxOf (L2N.CX PySem.Challenge.pw_renamedhorn_k42_mixtures_counted w) PySem.Challenge.pw_renamedhorn_k42_mixtures_counted w K mg base N_Mixture_eq "Mixture.__eq__" (defScope Hd.s_Mixture_eq) (ma K (ga K "Mixture") "__eq__") cdv A outer s H E) (E := E) rfl rfl rfl rfl
    exact (pss_one (ps_ret (pe_and (pe_callB call_isi (by rfl) T.f_isinstance PyProof.Rows.Boot.«isinstance» (pa_cons (pv 1) (pa_cons (pe_glob (v := .ref (ga K "Mixture")) rfl (T.g_Mixture) rfl) pa_nil))) (pe_one (pe_cmpR (Cl.op_eqKI hr.units) (Cl.pe_att (.cons (Cl.alt_fld T.cls_Book T.no_Book_rows) (.cons (Cl.alt_fld T.cls_Mixture T.no_Mixture_rows) .nil)) (pv 0)) (Cl.pe_att (.cons (Cl.alt_fld T.cls_Book T.no_Book_rows) (.cons (Cl.alt_fld T.cls_Mixture T.no_Mixture_rows) .nil)) (pv 1)) (nomark _))))))
theorem sc_law_equal : FnScope N_law_equal ["_law_mixture", "_law_table"] (defScope Hd.s_law_equal) := ⟨rfl, rfl, rfl, by decide +kernel, rfl, by decide +kernel, by decide +kernel⟩
theorem b_law_equal (T : Tx w K mg) : Binds K (fdOf K (ga K "_law_equal")) ["_law_mixture", "_law_table"] [] := T.fn_law_equal.bindsN fun _ _ _ _ _ _ us hl => match us, hl with | [_, _], _ => rfl
theorem ok_law_equal (T : Tx w K mg) : FnOk PySem.Challenge.pw_renamedhorn_k42_mixtures_counted w K mg base (L2N.CX PySem.Challenge.pw_renamedhorn_k42_mixtures_counted w) 12 (ga K "_law_equal") (fdOf K (ga K "_law_equal")) ["_law_mixture", "_law_table"] (sp_law_equal K) := by
  refine T.fn_law_equal.ok sc_law_equal (fun vs H Q E h => len_law_equal h) (fun cdv A outer s H vs Q E hr h => ⟨t_law_equal K (fun cls d _ H => E cls d H), ?_, pure_law_equal h⟩)
  · have tk := L2N.takes_of (X := cxOf (L2N.CX PySem.Challenge.pw_renamedhorn_k42_mixtures_counted w) PySem.Challenge.pw_renamedhorn_k42_mixtures_counted w K mg base N_law_equal "_law_equal" (defScope Hd.s_law_equal) (ga K "_law_equal") cdv A outer s H E) (E := E) rfl rfl rfl rfl
    exact (pss_cons (ps_asg (Cl.pe_makeS0 T.mk_Mixture (fr_Mixture_init T) (hr.mono (by decide)) rfl T.g_Mixture (fun σ => L2N.passAt tk σ)) (pg_name (i := 2) sc_law_equal.nd rfl (Or.inl rfl)))
      (pss_cut (ps_for (passes_of rfl) rfl (pi_anyP (pe_revL (pe_callTy (call_list_dK rfl) (by rfl) T.f_list PyProof.Rows.Boot.«list» (pa_cons (pv 1) pa_nil)))) (pg_name (i := 3) sc_law_equal.nd rfl (Or.inl rfl)) (pss_one (ps_asg (pe_dget (Nat.lt_of_le_of_lt (Nat.add_le_add_left (by decide : 1 ≤ 64) _) hr.units) (pv 1) (pv 3) (fun _ _ => rfl)) (Cl.pg_subO (pv 2) (pv 3) (Cl.set_own (E := (WE fun cls d _ H => E cls d H)) hr.units (.cons (Cl.alt_set T.nsq_Mixture T.own_Mixture_setitem (Cl.toR (ok_Mixture_setitem T) (b_Mixture_setitem T)) (hr.mono (by decide)) (fun σ => L2N.passAt tk σ)) .nil))))))
      (pss_cut (ps_if (PW.pt (pw_or (pt_not (pt_val (pe_callS (ok_law_same T) (hr.mono (by decide)) rfl T.g_law_same (T.fn_law_same).kp (b_law_same T) (fun σ => L2N.passAt tk σ) (pa_cons (Cl.pe_cmpS (Cl.op_own (E := (WE fun cls d _ H => E cls d H)) (.cons (Cl.alt_cmp Cl.dd_eq T.own_Mixture_eq (Cl.toR (ok_Mixture_eq T) (b_Mixture_eq T)) (hr.mono (by decide)) (fun σ => L2N.passAt tk σ)) .nil) (op_eqP hr.units)) (pv 0) (pv 2) (nomark _)) (pa_cons pe_bl pa_nil))))) (pw_or1 (pt_not (pt_val (pe_callS (ok_law_same T) (hr.mono (by decide)) rfl T.g_law_same (T.fn_law_same).kp (b_law_same T) (fun σ => L2N.passAt tk σ) (pa_cons (Cl.pe_cmpS (Cl.op_own (E := (WE fun cls d _ H => E cls d H)) (.cons (Cl.alt_cmp Cl.dd_eq T.own_Mixture_eq (Cl.toR (ok_Mixture_eq T) (b_Mixture_eq T)) (hr.mono (by decide)) (fun σ => L2N.passAt tk σ)) .nil) (op_eqP hr.units)) (pv 2) (pv 0) (nomark _)) (pa_cons pe_bl pa_nil)))))))) (pss_one (ps_ret pe_bl)) pss_nil)
      (pss_cons (ps_asg (Cl.pe_opS (Cl.op_mix (E := (WE fun cls d _ H => E cls d H)) (.cons (Cl.mix_of Cl.int_mul T.mix_Mixture_mul (Cl.toR (ok_Mixture_mul T) (b_Mixture_mul T)) (Cl.toR (ok_Mixture_rmul T) (b_Mixture_rmul T)) (hr.mono (by decide)) (hr.mono (by decide)) (fun σ => L2N.passAt tk σ) (fun σ => L2N.passAt tk σ)) .nil) op_mulP) (pv 0) pe_int) (pg_name (i := 4) sc_law_equal.nd rfl (Or.inl rfl)))
      (pss_cons (ps_asg (pe_op op_addP pe_int (pe_callTy call_intP (by rfl) T.f_int PyProof.Rows.Boot.«int» (pa_cons (Cl.pe_cmpS (Cl.op_own (E := (WE fun cls d _ H => E cls d H)) (.cons (Cl.alt_cmp Cl.dd_eq T.own_Mixture_eq (Cl.toR (ok_Mixture_eq T) (b_Mixture_eq T)) (hr.mono (by decide)) (fun σ => L2N.passAt tk σ)) .nil) (op_eqP hr.units)) (pe_dget2 (Nat.lt_of_le_of_lt (Nat.add_le_add_left (by decide : 1 ≤ 64) _) hr.units) (pv 1) pe_int pe_int ⟨rfl, rfl, rfl, rfl⟩) pe_int (nomark _)) pa_nil))) (Cl.pg_subO (pv 4) pe_int (Cl.set_own (E := (WE fun cls d _ H => E cls d H)) hr.units (.cons (Cl.alt_set T.nsq_Mixture T.own_Mixture_setitem (Cl.toR (ok_Mixture_setitem T) (b_Mixture_setitem T)) (hr.mono (by decide)) (fun σ => L2N.passAt tk σ)) .nil))))
      (pss_one (ps_ret (pe_and (pe_callS (ok_law_same T) (hr.mono (by decide)) rfl T.g_law_same (T.fn_law_same).kp (b_law_same T) (fun σ => L2N.passAt tk σ) (pa_cons (Cl.pe_cmpS (Cl.op_own (E := (WE fun cls d _ H => E cls d H)) (.cons (Cl.alt_cmp Cl.dd_eq T.own_Mixture_eq (Cl.toR (ok_Mixture_eq T) (b_Mixture_eq T)) (hr.mono (by decide)) (fun σ => L2N.passAt tk σ)) .nil) (op_eqP hr.units)) (pv 0) (pv 4) (nomark _)) (pa_cons pe_bl pa_nil))) (pe_one (pe_callS (ok_law_are T) (hr.mono (by decide)) rfl T.g_law_are (T.fn_law_are).kp (b_law_are T) (fun σ => L2N.passAt tk σ) (pa_cons (pv 0) (pa_cons (pv 1) pa_nil))))))))))))
theorem sc_law_in_place : FnScope N_law_in_place ["_law_mixture", "_law_table", "_law_other", "_law_two"] (defScope Hd.s_law_in_place) := ⟨rfl, rfl, rfl, by decide +kernel, rfl, by decide +kernel, by decide +kernel⟩
theorem b_law_in_place (T : Tx w K mg) : Binds K (fdOf K (ga K "_law_in_place")) ["_law_mixture", "_law_table", "_law_other", "_law_two"] [] := T.fn_law_in_place.bindsN fun _ _ _ _ _ _ us hl => match us, hl with | [_, _, _, _], _ => rfl
theorem ok_law_in_place (T : Tx w K mg) : FnOk PySem.Challenge.pw_renamedhorn_k42_mixtures_counted w K mg base (L2N.CX PySem.Challenge.pw_renamedhorn_k42_mixtures_counted w) 9 (ga K "_law_in_place") (fdOf K (ga K "_law_in_place")) ["_law_mixture", "_law_table", "_law_other", "_law_two"] (sp_law_in_place K) := by
  refine T.fn_law_in_place.ok sc_law_in_place (fun vs H Q E h => len_law_in_place h) (fun cdv A outer s H vs Q E hr h => ⟨t_law_in_place K (fun cls d _ H => E cls d H), ?_, pure_law_in_place h⟩)
  · have tk := L2N.takes_of (X := cxOf (L2N.CX PySem.Challenge.pw_renamedhorn_k42_mixtures_counted w) PySem.Challenge.pw_renamedhorn_k42_mixtures_counted w K mg base N_law_in_place "_law_in_place" (defScope Hd.s_law_in_place) (ga K "_law_in_place") cdv A outer s H E) (E := E) rfl rfl rfl rfl
    exact (pss_cons (ps_asg (pv 0) (pg_name (i := 4) sc_law_in_place.nd rfl (Or.inl rfl)))
      (pss_cons (ps_asg (pv 1) (pg_name (i := 5) sc_law_in_place.nd rfl (Or.inl rfl)))
      (pss_cut (ps_for (passes_of rfl) rfl (pi_range1 (by rfl) T.f_range (pa_cons pe_int pa_nil)) (pg_name (i := 6) sc_law_in_place.nd rfl (Or.inl rfl)) (pss_cut (ps_if (pt_cmpR (op_eqP hr.units) (pe_callS (ok_law_over T) (hr.mono (by decide)) rfl T.g_law_over (T.fn_law_over).kp (b_law_over T) (fun σ => L2N.passAt tk σ) (pa_cons (pe_callS (ok_law_sum T) (hr.mono (by decide)) rfl T.g_law_sum (T.fn_law_sum).kp (b_law_sum T) (fun σ => L2N.passAt tk σ) (pa_cons (pv 5) (pa_cons (pv 3) pa_nil))) pa_nil)) pe_int (nomark _)) (pss_cons (ps_asg (pe_callS (ok_law_sum T) (hr.mono (by decide)) rfl T.g_law_sum (T.fn_law_sum).kp (b_law_sum T) (fun σ => L2N.passAt tk σ) (pa_cons (pv 5) (pa_cons (pv 3) pa_nil))) (pg_name (i := 5) sc_law_in_place.nd rfl (Or.inl rfl)))
      (pss_one (Cl.ps_augO (i := 0) sc_law_in_place.nd rfl (Or.inl rfl) (pv 2) (Cl.iop_own (E := (WE fun cls d _ H => E cls d H)) (.cons (Cl.alt_inp Hk.di_add T.own_Mixture_iadd (Cl.toR (ok_Mixture_iadd T) (b_Mixture_iadd T)) (hr.mono (by decide)) (fun σ => L2N.passAt tk σ)) .nil) Cl.iop_addP)))) pss_nil)
      (pss_one (ps_if (PW.pt (pw_or (pt_not (pt_val (pe_callS (ok_law_are T) (hr.mono (by decide)) rfl T.g_law_are (T.fn_law_are).kp (b_law_are T) (fun σ => L2N.passAt tk σ) (pa_cons (pv 0) (pa_cons (pv 5) pa_nil))))) (pw_or (pt_not (pt_val (pe_callS (ok_law_are T) (hr.mono (by decide)) rfl T.g_law_are (T.fn_law_are).kp (b_law_are T) (fun σ => L2N.passAt tk σ) (pa_cons (pv 4) (pa_cons (pv 5) pa_nil))))) (pw_or1 (pt_not (pt_val (pe_callS (ok_law_are T) (hr.mono (by decide)) rfl T.g_law_are (T.fn_law_are).kp (b_law_are T) (fun σ => L2N.passAt tk σ) (pa_cons (pv 2) (pa_cons (pv 3) pa_nil))))))))) (pss_one (ps_ret pe_bl)) pss_nil))))
      (pss_one (ps_ret pe_bl)))))
theorem sc_law : FnScope N_law ["_law_script"] (defScope Hd.s_law) := ⟨rfl, rfl, rfl, by decide +kernel, rfl, by decide +kernel, by decide +kernel⟩
theorem ok_law (T : Tx w K mg) : FnOk PySem.Challenge.pw_renamedhorn_k42_mixtures_counted w K mg base (L2N.CX PySem.Challenge.pw_renamedhorn_k42_mixtures_counted w) 14 (ga K "law") (fdOf K (ga K "law")) ["_law_script"] (sp_law K) := by
  refine T.fn_law.ok sc_law (fun vs H Q E h => Sp1.len h) (fun cdv A outer s H vs Q E hr h => ⟨t_law K (fun cls d _ H => E cls d H), ?_, pure_law h⟩)
  · have tk := L2N.takes_of (X := cxOf (L2N.CX PySem.Challenge.pw_renamedhorn_k42_mixtures_counted w) PySem.Challenge.pw_renamedhorn_k42_mixtures_counted w K mg base N_law "law" (defScope Hd.s_law) (ga K "law") cdv A outer s H E) (E := E) rfl rfl rfl rfl
    obtain ⟨cr_Mixture_LIMIT, w_Mixture_LIMIT, cv_Mixture_LIMIT⟩ := T.cv_Mixture_LIMIT
    exact (pss_cons (ps_asg (pe_callS (ok_law_source T) (hr.mono (by decide)) rfl T.g_law_source (T.fn_law_source).kp (b_law_source T) (fun σ => L2N.passAt tk σ) (pa_cons (pv 0) pa_nil)) (pg_name (i := 1) sc_law.nd rfl (Or.inl rfl)))
      (pss_cons (ps_asg pe_dnewK (pg_name (i := 2) sc_law.nd rfl (Or.inl rfl)))
      (pss_cons (ps_asg (pe_callS (ok_law_drawn T) (hr.mono (by decide)) rfl T.g_law_drawn (T.fn_law_drawn).kp (b_law_drawn T) (fun σ => L2N.passAt tk σ) (pa_cons (pv 1) (pa_cons (pv 2) pa_nil))) (pg_name (i := 3) sc_law.nd rfl (Or.inl rfl)))
      (pss_cons (ps_asg (pe_callS (ok_law_mixed T) (hr.mono (by decide)) rfl T.g_law_mixed (T.fn_law_mixed).kp (b_law_mixed T) (fun σ => L2N.passAt tk σ) (pa_cons (pv 3) pa_nil)) (pg_name (i := 4) sc_law.nd rfl (Or.inl rfl)))
      (pss_cons (ps_asg pe_dnewK (pg_name (i := 5) sc_law.nd rfl (Or.inl rfl)))
      (pss_cons (ps_asg (pe_callS (ok_law_mixed T) (hr.mono (by decide)) rfl T.g_law_mixed (T.fn_law_mixed).kp (b_law_mixed T) (fun σ => L2N.passAt tk σ) (pa_cons (pe_callS (ok_law_drawn T) (hr.mono (by decide)) rfl T.g_law_drawn (T.fn_law_drawn).kp (b_law_drawn T) (fun σ => L2N.passAt tk σ) (pa_cons (pv 1) (pa_cons (pv 5) pa_nil))) pa_nil)) (pg_name (i := 6) sc_law.nd rfl (Or.inl rfl)))
      (pss_cut (ps_if (PW.pt (pw_or (pt_not (pt_val (pe_callS (ok_law_are T) (hr.mono (by decide)) rfl T.g_law_are (T.fn_law_are).kp (b_law_are T) (fun σ => L2N.passAt tk σ) (pa_cons (pv 4) (pa_cons (pv 2) pa_nil))))) (pw_or1 (pt_not (pt_val (pe_callS (ok_law_same T) (hr.mono (by decide)) rfl T.g_law_same (T.fn_law_same).kp (b_law_same T) (fun σ => L2N.passAt tk σ) (pa_cons (Cl.pe_cls cr_Mixture_LIMIT cv_Mixture_LIMIT rfl T.g_Mixture) (pa_cons pe_int pa_nil)))))))) (pss_one (ps_ret pe_bl)) pss_nil)
      (pss_cut (ps_if (PW.pt (pw_or (pt_not (pt_val (pe_callS (ok_law_settings T) (hr.mono (by decide)) rfl T.g_law_settings (T.fn_law_settings).kp (b_law_settings T) (fun σ => L2N.passAt tk σ) (pa_cons (pv 1) (pa_cons (pv 4) (pa_cons (pv 2) pa_nil)))))) (pw_or1 (pt_not (pt_val (pe_callS (ok_law_settings T) (hr.mono (by decide)) rfl T.g_law_settings (T.fn_law_settings).kp (b_law_settings T) (fun σ => L2N.passAt tk σ) (pa_cons (pv 1) (pa_cons (pv 6) (pa_cons (pv 5) pa_nil))))))))) (pss_one (ps_ret pe_bl)) pss_nil)
      (pss_cons (ps_asg (pe_callS (ok_law_outside T) (hr.mono (by decide)) rfl T.g_law_outside (T.fn_law_outside).kp (b_law_outside T) (fun σ => L2N.passAt tk σ) (pa_cons (pv 1) pa_nil)) (pg_name (i := 7) sc_law.nd rfl (Or.inl rfl)))
      (pss_cons (ps_asg (pe_lst (pa_cons pe_str (pa_cons (pv 7) (pa_cons pe_bl pa_nil)))) (pg_name (i := 8) sc_law.nd rfl (Or.inl rfl)))
      (pss_cut (ps_if (PW.pt (pw_or (Cl.pt_cmpS (Cl.op_ownI (neg := false) (E := (WE fun cls d _ H => E cls d H)) (.cons (Cl.alt_in T.own_Mixture_contains (Cl.toR (ok_Mixture_contains T) (b_Mixture_contains T)) (hr.mono (by decide)) (fun σ => L2N.passAt tk σ)) .nil) (op_inP hr.units)) (pv 7) (pv 4) (by rfl)) (pw_or1 (pt_not (pt_val (pe_callS (ok_law_same T) (hr.mono (by decide)) rfl T.g_law_same (T.fn_law_same).kp (b_law_same T) (fun σ => L2N.passAt tk σ) (pa_cons (pe_callS (ok_law_error T) (hr.mono (by decide)) rfl T.g_law_error (T.fn_law_error).kp (b_law_error T) (fun σ => L2N.passAt tk σ) (pa_cons (pv 4) (pa_cons pe_int (pa_cons (pe_op op_addP (pe_slice sl_P (pv 3) po_none (po_some pe_int)) (pe_lst (pa_cons (pv 7) (pa_cons pe_int pa_nil)))) (pa_cons pe_int pa_nil))))) (pa_cons (pv 8) pa_nil)))))))) (pss_one (ps_ret pe_bl)) pss_nil)
      (pss_cut (ps_for (passes_of rfl) rfl (pi_anyP (pe_lst (pa_cons pe_int (pa_cons pe_int pa_nil)))) (pg_name (i := 9) sc_law.nd rfl (Or.inl rfl)) (pss_one (ps_if (pt_not (pt_val (pe_callS (ok_law_same T) (hr.mono (by decide)) rfl T.g_law_same (T.fn_law_same).kp (b_law_same T) (fun σ => L2N.passAt tk σ) (pa_cons (pe_callS (ok_law_error T) (hr.mono (by decide)) rfl T.g_law_error (T.fn_law_error).kp (b_law_error T) (fun σ => L2N.passAt tk σ) (pa_cons (pv 4) (pa_cons (pv 9) (pa_cons (pv 7) (pa_cons (pe_un un_neg pe_int) pa_nil))))) (pa_cons (pv 8) pa_nil))))) (pss_one (ps_ret pe_bl)) pss_nil)))
      (pss_cut (ps_if (PW.pt (pw_or (pt_not (pt_val (pe_callS (ok_law_added T) (hr.mono (by decide)) rfl T.g_law_added (T.fn_law_added).kp (b_law_added T) (fun σ => L2N.passAt tk σ) (pa_cons (pv 4) (pa_cons (pv 2) (pa_cons (pv 6) (pa_cons (pv 5) pa_nil))))))) (pw_or1 (pt_not (pt_val (pe_callS (ok_law_added T) (hr.mono (by decide)) rfl T.g_law_added (T.fn_law_added).kp (b_law_added T) (fun σ => L2N.passAt tk σ) (pa_cons (pv 6) (pa_cons (pv 5) (pa_cons (pv 4) (pa_cons (pv 2) pa_nil)))))))))) (pss_one (ps_ret pe_bl)) pss_nil)
      (pss_cut (ps_if (PW.pt (pw_or (pt_not (pt_val (pe_callS (ok_law_added T) (hr.mono (by decide)) rfl T.g_law_added (T.fn_law_added).kp (b_law_added T) (fun σ => L2N.passAt tk σ) (pa_cons (pv 4) (pa_cons (pv 2) (pa_cons (Cl.pe_opS (Cl.op_mix (E := (WE fun cls d _ H => E cls d H)) (.cons (Cl.mix_of Cl.int_mul T.mix_Mixture_mul (Cl.toR (ok_Mixture_mul T) (b_Mixture_mul T)) (Cl.toR (ok_Mixture_rmul T) (b_Mixture_rmul T)) (hr.mono (by decide)) (hr.mono (by decide)) (fun σ => L2N.passAt tk σ) (fun σ => L2N.passAt tk σ)) .nil) op_mulP) (pv 4) pe_int) (pa_cons (pv 2) pa_nil))))))) (pw_or1 (pt_not (pt_val (pe_callS (ok_law_added T) (hr.mono (by decide)) rfl T.g_law_added (T.fn_law_added).kp (b_law_added T) (fun σ => L2N.passAt tk σ) (pa_cons (pv 4) (pa_cons (pv 2) (pa_cons (Cl.pe_makeS0 T.mk_Mixture (fr_Mixture_init T) (hr.mono (by decide)) rfl T.g_Mixture (fun σ => L2N.passAt tk σ)) (pa_cons pe_dnewK pa_nil)))))))))) (pss_one (ps_ret pe_bl)) pss_nil)
      (pss_cons (ps_asg (pe_callS (ok_law_take T) (hr.mono (by decide)) rfl T.g_law_take (T.fn_law_take).kp (b_law_take T) (fun σ => L2N.passAt tk σ) (pa_cons (pv 1) (pa_cons pe_int pa_nil))) (pg_name (i := 10) sc_law.nd rfl (Or.inl rfl)))
      (pss_cut (ps_for (passes_of rfl) rfl (pi_anyP (pe_lst (pa_cons pe_int (pa_cons pe_int (pa_cons pe_int (pa_cons (pv 10) (pa_cons (pe_op op_subP (pe_un un_neg pe_int) (pv 10)) (pa_cons pe_int (pa_cons (pe_op op_addP (pe_op op_powP pe_int pe_int) (pv 10)) pa_nil))))))))) (pg_name (i := 11) sc_law.nd rfl (Or.inl rfl)) (pss_one (ps_if (pt_not (pt_val (pe_callS (ok_law_multiplied T) (hr.mono (by decide)) rfl T.g_law_multiplied (T.fn_law_multiplied).kp (b_law_multiplied T) (fun σ => L2N.passAt tk σ) (pa_cons (pv 4) (pa_cons (pv 2) (pa_cons (pv 11) pa_nil)))))) (pss_one (ps_ret pe_bl)) pss_nil)))
      (pss_cut (ps_if (pt_not (pt_val (pe_callS (ok_law_equal T) (hr.mono (by decide)) rfl T.g_law_equal (T.fn_law_equal).kp (b_law_equal T) (fun σ => L2N.passAt tk σ) (pa_cons (pv 4) (pa_cons (pv 2) pa_nil))))) (pss_one (ps_ret pe_bl)) pss_nil)
      (pss_one (ps_ret (pe_callS (ok_law_in_place T) (hr.mono (by decide)) rfl T.g_law_in_place (T.fn_law_in_place).kp (b_law_in_place T) (fun σ => L2N.passAt tk σ) (pa_cons (pv 4) (pa_cons (pv 2) (pa_cons (pv 6) (pa_cons (pv 5) pa_nil))))))))))))))))))))))))
end
end Ok
open PySem PySem.W PySem.Calls PyProof.Rows
set_option maxRecDepth 100000 in
set_option maxHeartbeats 8000000 in
theorem PySem.Challenge.cw_renamedhorn_k42_mixtures_counted_holds : PySem.Challenge.rw_renamedhorn_k42_mixtures_counted.Holds := by
  w_on; refine headDone ?hc
  case hc =>
    refine Hk.walk_ofEB (l := PySem.Challenge.rw_renamedhorn_k42_mixtures_counted) (n := 63) (k := 14) (x := "_law_script") (CX := L2N.CX PySem.Challenge.pw_renamedhorn_k42_mixtures_counted) rfl (by decide) (by kernel_rfl) ⟨rfl, by decide, by decide⟩ ?F (fun w H s e s' z => ?X)
    case X =>
      obtain ⟨_, _, _, _, _, _, _, _, _, _, _, _, z⟩ := z
      exact z
    case F =>
      intro w mg fa h Y G hmg0
      obtain ⟨K, KX, c⟩ := Y
      have hmg : mg ("law" : PySem.Str) = some (.ref fa) := by
        have e : (HandSHeadRun.topDef (OpenLaw.row PySem.Challenge.rw_renamedhorn_k42_mixtures_counted).prog 58).name = ("law" : PySem.Str) := by kernel_rfl
        rw [← e]
        exact hmg0
      have T : Ok.Tx w K mg := ⟨c, h, KX, G⟩
      have e := hmg.symm.trans T.g_law
      cases e
      have b := L2.FunD.bindsA (ps := ["_law_script"]) T.fn_law fun _ _ _ _ _ _ us hl => match us, hl with | [_], _ => rfl
      exact ⟨K, Hk.fdOf K (He.ga K "law"), Rd.sp_law K, KX, fun s v => b s [v] rfl, fun H a ns hl _ _ hS => ⟨_, rfl, a, ns, rfl, hS, by omega, fun _ => rfl⟩, fun base _ _ => Ok.ok_law T⟩
