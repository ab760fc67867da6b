import PyProof.Rows.All
import Wide.All
import OpenK.AllK
import Wide.FinOn
import HandS.Exc
import HandS.ExcInit
import KE.KExcSuper
import PyProof.EqAt
import PyProof.EqKinds
import PyProof.TupleCall
import KE.KIsAll
import KE.KTryMore
import KE.KExcMore
import HandS.Base
import HandS.Call
import HandS.List
import HandS.ExcOwn
import HandS.ExcValue
import HandS.ExcField
import HandS.ExcIs
import HandS.ForMost
import HandS.ExcCtx
import HandS.Lambda
import HandS.TupAny
import HandS.Style
import HandS.IsInst
import HandS.TupLe
import HandS.Flow
import HandS.Text
import PyProof.Rows.IntBool
import PyProof.Rows.EqBoolInt
import HandS.RaiseMore
import HandS.Zip
import HandS.Wide
import HandS.HotCalls
import HandS.EndTab
import KE.KExcIs
import KE.KNestM
import KE.GoesComp
import HandS.Deep
import HandS.Conv
import HandS.ReplaceLit
import HandS.Steps
import PySem.Challenge.RW_emptycorners_k13_classes_of_errors
set_option Elab.async false
set_option linter.all false
set_option maxRecDepth 100000
set_option maxHeartbeats 4000000
/-! XS1: an own exception whose __init__ says super().__init__(text) and then self.f = its argument: what a call of that __init__ does to the heap. -/
namespace PySem
namespace TMX
open PySem.W PySem.Calls PyProof.Rows PySem.HandSPX
/-- the body of such an __init__ -/
abbrev tmBody (f m : Str) (j : Nat) (p1 p2 p3 p4 p5 p6 p7 p8 p9 p10 : Pos) : List Stmt := [.Expr (.Call (.Attribute (.Call (.Name "super" p1) [] [] p2) "__init__" p3) [.Constant (.str m) j p4] [] p5) p6, .Assign [.Attribute (.Name "self" p7) f p8] (.Name f p9) p10]
section
variable {prog : Program} {w : World} {A : Around} {E : Value → Shared → Prop} {h : Heap} {g : Array GenState} {d : Drawn} {t : Nat} {os : OsState}
variable {nm q : Str} {C N : Addr} {bs bm : List Value} {hdct : Bool} {sn : List Str} {sub : List Value} {ab : Bool} {col : Option Bool} {dd : Option Addr} {k0 k1 k2 k3 k5 : Option Value}
theorem call_mw {u e t0 : Addr} {rest : List Value} {Q : Value → Shared → Prop}
    (hC : h.get? C = some (excClassObj nm q C N bs bm hdct sn sub ab col dd k0 k1 k2 k3 k5 "ValueError.__new__")) (he : h.get? e = some (excO C t0)) (hu : h.get? u = some (kxs_mw "ValueError.__init__" e)) (hrest : rest.length ≤ sizeLine)
    (hq : ∀ h' t1, (∀ b o, b ≠ e → h.get? b = some o → h'.get? b = some o) → h'.get? e = some (excO C t1) → h'.get? t1 = some (excTup rest) → Q .none ⟨h', g, d, t, os⟩) :
    wpAny (model prog w) A (call (.ref u) rest) Q E ⟨h, g, d, t, os⟩ := by
  refine wpAny_call (codeAny_of_tree ?_)
  show wpAny _ A.in1 (callAny (.ref u) ⟨rest, []⟩) _ _ _
  simp only [callAny]
  refine wpAny_bind (wpAny_load hu ?_)
  simp only [kxs_mw, show (Value.type "method-wrapper" == Value.type "method" || Value.type "method-wrapper" == Value.type "builtin_function_or_method" || Value.type "method-wrapper" == Value.type "method-wrapper") = true by decide, if_true]
  refine W.KFB.if_so (by decide) ?_
  refine wpAny_bind (check_bound_init F.excBase_ValueError.toExcCallFacts hC he rfl ?_)
  refine wpAny_bind (wpAny_pure (wpAny_pure ?_))
  refine ⟨plainId_quiet F.excBase_ValueError.init.plain _, codeAny_builtin F.excBase_ValueError.initEntry ?_⟩
  exact exc_init_tree (cls := .ref C) (t0 := t0) (dv := none) (c2 := .none) (c3 := .none) (b4 := .bool false) he hrest fun h' k e' t' => hq h' _ k e' t'
end
section
variable {M : Model} {A : Around} {E : Value → Shared → Prop} {s : Shared} {i : String} {u x : Addr}
theorem callWith_mw {pos : Pos} {env : Env} {c : Expr} {Q : Value → Shared → Prop} (h : wpAny M A (spliced (backTo pos (starEach [c] env))) (fun vs s₁ => KxsAt i u x s₁.heap ∧ wpAny M A (call (.ref u) vs) Q E s₁) E s)
    (he : starEach [c] env = (false, eval c env) :: starEach [] env := by rfl) : wpAny M A (callWith pos (.ref u) [] (backTo pos (starEach [c] env)) []) Q E s := by
  rw [he] at h ⊢
  refine kxs_callWith (i := i) (x := x) (by rfl) ?_
  exact evalArgs_plain h
end
section
variable {prog : Program} {w : World} {A : Around} {R : Result → Shared → Prop} {h : Heap} {g : Array GenState} {d : Drawn} {t : Nat} {os : OsState} {K : Frag} {mg : Str → Option Value}
variable {nm q qual f m file : Str} {C N fI cc cda e t0 : Addr} {bs bm : List Value} {sn : List Str} {sub : List Value} {ab : Bool} {col : Option Bool} {dd od cdd cld : Option Addr} {k0 k1 k2 k3 k5 : Option Value} {params : Arguments} {scope : Scope} {dV kV doc pm ct oc ccl cl u : Value} {an : Option Addr}
variable {osl ccs csl : Array (Option Value)} {vs : Array Value} {tf : Tok} {j : Nat} {p1 p2 p3 p4 p5 p6 p7 p8 p9 p10 : Pos} {ar : Arg}
theorem init_code (kin : K.In h) (glob : h.Ns mainGlobals mg) (blt : ∃ mb, h.Ns builtinsNs mb ∧ ∀ x : Str, x ≠ "__name__" → mb x = bootBuiltins x) (lim : h.NoLimit)
    (lk : K.lookup fI = some ⟨oc, od, .func (ksFn "__init__" qual params (tmBody f m j p1 p2 p3 p4 p5 p6 p7 p8 p9 p10) scope dV kV doc pm an (.ref cda) ct cc), osl⟩)
    (hcd : codeIn K (.ref cda) qual = true) (hcode : K.lookup cda = some ⟨ccl, cdd, .fields vs, ccs⟩) (hvs : vs[2]? = some (.str file tf)) (hfile : ((prog.main.file : Str) == file) = true)
    (hcell : K.lookup cc = some ⟨cl, cld, .cell (some (.ref C)), csl⟩) (hC : K.lookup C = some (excClassObj nm q C N bs bm true sn sub ab col dd k0 k1 k2 k3 k5 "ValueError.__new__")) (hbm : refsVE bm = true)
    (hsa : findIn K (.ref C) "__setattr__" = some (some (.builtin "object.__setattr__"))) (hno : findIn K (.ref C) f = some none) (hms : mg "super" = none) (hop : nsIn K cStatics "thirdparty.any" = some none)
    (hsup : ks_superIn K C C "__init__" = some (some (.builtin "ValueError.__init__"))) (hB : subIn K (.ref C) (.type "ValueError") = some true) (hmro : mroIn K C (.ref C) = some true)
    (hp : (params.posonlyargs ++ params.args).head? = some ar) (har : ar.arg = "self")
    (hks : scope.names.lookup ("super" : Str) = some .globalImplicit) (hkc : scope.names.lookup ("__class__" : Str) = some .free) (hka : scope.names.lookup ("self" : Str) = some .local) (hkf : scope.names.lookup f = some .local) (hfs : f ≠ "self") (hpos : (p3.endLine == p5.line) = true)
    (hfd : (f == ("__debug__" : Str)) = false) (hk : scope.kind = .function) (hcells : ∀ x ∈ scope.names, x.2 ≠ .cell) (hco : scope.isCoroutine = false) (hgen : scope.isGenerator = false)
    (htop : (prog.main.scope.names.lookup ("super" : Str)).isSome = false)
    (hbind : ∀ s : Shared, BindsTo s (ksFn "__init__" qual params (tmBody f m j p1 p2 p3 p4 p5 p6 p7 p8 p9 p10) scope dV kV doc pm an (.ref cda) ct cc) ⟨[.ref e, u], []⟩ [("self", .ref e), (f, u)])
    (room : A.depth < recursionLimit) (he : h.get? e = some (excO C t0)) (hKe : K.lookup e = none)
    (hq : ∀ h' t1 dx tk', (∀ b o, b ≠ e → h.get? b = some o → h'.get? b = some o) → h'.get? e = some { cls := .ref C, dict := some dx, data := .fields #[.ref t1, .none, .none, .none, .bool false, .none] } → h.objs.size ≤ dx → dx ≠ e →
      h'.Ns1 dx (fun y => if y = f then some u else none) → R (.ok (.ret .none)) ⟨h', g, d, tk', os⟩) :
    codeAny (model prog w) A (.call (.ref fI) ⟨[.ref e, u], []⟩) R ⟨h, g, d, t, os⟩ := by
  have hcd2 : clsIn K C = some { name := nm, bases := bs, mro := .ref C :: bm, ns := N, qualname := q, hasDict := true, slotNames := sn, subclasses := sub, abstract := ab, collection := col, hasDel := false } := by unfold clsIn; rw [hC] <;> rfl
  refine ks_codeAny_call_defAt (binds := [("self", .ref e), (f, u)]) room (kin _ _ lk) rfl lim (codeRec_of kin hcd) rfl (hbind _) hcells (fun x hx => ?_) (fun h₁ hns hk₁ => ?_) hco hgen hk
  · simp only [List.mem_cons, List.not_mem_nil, or_false] at hx
    rcases hx with rfl | rfl
    · exact hka
    · exact hkf
  · have kin1 : K.In h₁ := kin.keeps hk₁
    have hD1 := kin1 _ _ hC
    have he1 := hk₁ _ _ he
    have hself : ([("self", Value.ref e), (f, u)] : List (Str × Value)).reverse.lookup ("self" : Str) = some (Value.ref e) := by
      show ([(f, u), ("self", Value.ref e)] : List (Str × Value)).lookup ("self" : Str) = some (Value.ref e)
      have e1 : (("self" : Str) == f) = false := beq_eq_false_iff_ne.mpr fun z => hfs z.symm
      simp [List.lookup, e1]
    have hfv : ([("self", Value.ref e), (f, u)] : List (Str × Value)).reverse.lookup f = some u := by
      show ([(f, u), ("self", Value.ref e)] : List (Str × Value)).lookup f = some u
      simp [List.lookup]
    have eL : h.objs.size ≠ e := Nat.ne_of_gt (Heap.lt_size he)
    obtain ⟨oL, es, ep, hL, rL⟩ := hns
    obtain ⟨mb, hmb, hmb2⟩ := blt
    show wpAt (model prog w) (A.deeper (ksEnv qual scope h.objs.size fI (.ref cda) cc)) (.func (tmBody f m j p1 p2 p3 p4 p5 p6 p7 p8 p9 p10) (ksEnv qual scope h.objs.size fI (.ref cda) cc)) (execs (tmBody f m j p1 p2 p3 p4 p5 p6 p7 p8 p9 p10) (ksEnv qual scope h.objs.size fI (.ref cda) cc)) _ _ _
    have hev : eval (.Call (.Attribute (.Call (.Name "super" p1) [] [] p2) "__init__" p3) [.Constant (.str m) j p4] [] p5) (ksEnv qual scope h.objs.size fI (.ref cda) cc) = (do
        let ov ← attributeBase (.Call (.Name "super" p1) [] [] p2) "__init__" (ksEnv qual scope h.objs.size fI (.ref cda) cc) (eval (.Call (.Name "super" p1) [] [] p2) (ksEnv qual scope h.objs.size fI (.ref cda) cc))
        standAt p3.atName
        let (f, first) ← holding [ov] (getMethod ov "__init__" (do return (← importBound (.Call (.Name "super" p1) [] [] p2) (ksEnv qual scope h.objs.size fI (.ref cda) cc)).getD true))
        callWith p5 f first (backTo p5 (starEach [.Constant (.str m) j p4] (ksEnv qual scope h.objs.size fI (.ref cda) cc))) []) := by
      have hmp : methodCallPos true (.Call (.Name "super" p1) [] [] p2) (ksEnv qual scope h.objs.size fI (.ref cda) cc) p3 p5 = pure p5 := by
        unfold methodCallPos
        rw [hpos]
        rfl
      have hm : ∀ ov, methodCall (.Call (.Name "super" p1) [] [] p2) "__init__" p3 p5 (ksEnv qual scope h.objs.size fI (.ref cda) cc) ov 1 (backTo p5 (starEach [.Constant (.str m) j p4] (ksEnv qual scope h.objs.size fI (.ref cda) cc))) [] = (do
          let (f, first) ← holding [ov] (getMethod ov "__init__" (do return (← importBound (.Call (.Name "super" p1) [] [] p2) (ksEnv qual scope h.objs.size fI (.ref cda) cc)).getD true))
          callWith p5 f first (backTo p5 (starEach [.Constant (.str m) j p4] (ksEnv qual scope h.objs.size fI (.ref cda) cc))) []) := fun ov => by
        unfold methodCall
        show (do
          let (f, first) ← holding [ov] (calleeOf true (.Call (.Name "super" p1) [] [] p2) (ksEnv qual scope h.objs.size fI (.ref cda) cc) ov "__init__")
          let cp ← methodCallPos true (.Call (.Name "super" p1) [] [] p2) (ksEnv qual scope h.objs.size fI (.ref cda) cc) p3 p5
          callWith cp f first (backTo p5 (starEach [.Constant (.str m) j p4] (ksEnv qual scope h.objs.size fI (.ref cda) cc))) []) = _
        rw [hmp]
        rfl
      show (do
        let ov ← attributeBase (.Call (.Name "super" p1) [] [] p2) "__init__" (ksEnv qual scope h.objs.size fI (.ref cda) cc) (eval (.Call (.Name "super" p1) [] [] p2) (ksEnv qual scope h.objs.size fI (.ref cda) cc))
        standAt p3.atName
        methodCall (.Call (.Name "super" p1) [] [] p2) "__init__" p3 p5 (ksEnv qual scope h.objs.size fI (.ref cda) cc) ov 1 (backTo p5 (starEach [.Constant (.str m) j p4] (ksEnv qual scope h.objs.size fI (.ref cda) cc))) []) = _
      simp only [hm]
    refine ks_wpAt_execs_cons (ks_wpAt_Expr_any (ks_wpAt_MethodCall ?_ (he := hev)) (by show (scope.kind == .module && _) = false; rw [hk]; rfl))
    refine ks_wpAt_super_base (env := ksEnv qual scope h.objs.size fI (.ref cda) cc) hks hkc rfl rfl (kin1 _ _ lk) rfl hp rfl (kin1 _ _ hcode) rfl hvs hfile htop ?_
    refine ks_loadName_global hk hks (loadGlobal_builtin (env := ksEnv qual scope h.objs.size fI (.ref cda) cc) (glob.keeps hk₁) hms (hmb.keeps hk₁) ((hmb2 _ (by decide)).trans (by rfl)) ⟨rfl, ?_⟩)
    refine wpAny_loadName_free hk hkc rfl ⟨_, kin1 _ _ hcell, rfl⟩ ?_
    rw [har]
    refine wpAny_loadName_local hk hka ⟨oL, es, ep, hL, rL⟩ hself ?_
    refine ks_wpAny_isType_cls hD1 rfl ⟨rfl, ?_⟩
    refine ks_wpAny_call_super hD1 rfl he1 rfl (fun c z => nomatch z) (looks_mroIn kin1 hmro) (fun h2 e2 k2 => ?_)
    have kin2 : K.In h2 := kin1.keeps k2
    have he2 := k2 _ _ he1
    have I2 : InstAt h2 e (excO C t0) C none := ⟨he2, rfl, rfl, trivial⟩
    refine kxs_getMethod kxs_ValueError e2 (looks_opaque kin2 hop) (l₀ := .ref C :: bm) ?_ rfl kin2 ?_ (I2.type.andThen (looks_subIn kin2 hB)) (ks_ne kin2 I2 hcd2) rfl ?_
    · exact fun A Q E s k q => wpAny_bind ((looks_clsIn kin2 hcd2) A _ E s k (wpAny_pure q))
    · have z := hsup
      unfold ks_superIn at z
      rw [hcd2] at z
      exact z
    have k3 : ∀ b o, h2.get? b = some o → (h2.push (kxs_mw "ValueError.__init__" e)).get? b = some o := fun b o z => Heap.get?_push_of_some _ z
    refine callWith_mw (i := "ValueError.__init__") (x := e) ?_
    show wpAny _ _ (spliced ((false, eval (.Constant (.str m) j p4) (ksEnv qual scope h.objs.size fI (.ref cda) cc)) :: backTo p5 (starEach [] (ksEnv qual scope h.objs.size fI (.ref cda) cc)))) _ _ _
    refine Calls.spliced_cons (wpAny_Constant_str ?_)
    refine Calls.spliced_nil ⟨Heap.get?_push_at rfl rfl, ?_⟩
    refine call_mw (k3 _ _ (kin2 _ _ hC)) (k3 _ _ he2) (Heap.get?_push_at rfl rfl) (by rw [sizeLine_eq]; simp) (fun h4 t1 k4 e4 t4 => ?_)
    have kin4 : K.In h4 := fun b o z => k4 b o (fun y => by rw [y, hKe] at z; cases z) (k3 _ _ (kin2 _ _ z))
    have hL4 := k4 _ _ eL (k3 _ _ (k2 _ _ hL))
    refine ks_wpAt_execs_cons (ks_wpAt_Assign_Attr ?_)
    refine wpAt_of_wpAny (wpAny_Name (env := ksEnv qual scope h.objs.size fI (.ref cda) cc) ?_ hfd)
    refine wpAny_loadName_local hk hkf ⟨oL, es, ep, hL4, rL⟩ hfv ?_
    refine wpAny_Name (env := ksEnv qual scope h.objs.size fI (.ref cda) cc) ?_ rfl
    refine wpAny_loadName_local hk hka ⟨oL, es, ep, hL4, rL⟩ hself ?_
    refine set_plain kin4 (ox := excO C t1) (od := none) ⟨e4, rfl, rfl, trivial⟩ hsa ?_
    refine exc_osa kin4 e4 hcd2 (show refsVE (.ref C :: bm) = true from hbm) rfl hno (fun h5 tk5 dx k5 dn dne hx5 hn5 => ?_)
    refine wpAt_of_wpAny (wpAny_execs_nil ?_)
    exact hq h5 t1 dx tk5 (fun b o hb z => k5 b o hb (k4 b o hb (k3 _ _ (k2 _ _ (hk₁ _ _ z))))) hx5 (Nat.le_trans (Nat.le_of_lt (Heap.lt_size hL4)) dn) dne hn5
end
end TMX
end PySem

set_option maxRecDepth 100000
set_option maxHeartbeats 4000000
/-! XS2: own exceptions as values: made, asked for their class, their field and their text. -/
namespace PySem.W
open PySem PySem.Spec PySem.Calls PyProof.Rows
section
variable {prog : Program} {w : World} {A : Around} {E : Value → Shared → Prop} {s : Shared} {K : Frag} {x D : Addr} {ox : Obj} {odx : Option Obj}
theorem findObj_dataO {C : Addr} {name : Str} {a g : Value} (hc : (clsIn K C).isSome = true) (ha : findIn K (.ref C) name = some (some a)) (hg : specialIn K a "__get__" = some (some g)) (ht : takesIn K a = some true) : findObj K C odx name = some (.bind g a) := by
  obtain ⟨cd, hc⟩ := Option.isSome_iff_exists.mp hc
  unfold findObj
  rw [hc, Option.bind_some, ha, Option.bind_some]
  simp [hg, ht]
theorem kin_classO {Q : Option Value → Shared → Prop} (C : L2.ExcC K D)
    (X : K.In s.heap) (I : InstAt s.heap x ox D odx) (h : Q (some (.ref D)) { s with toks := s.toks + 1 }) : wpAny (model prog w) A (getAttr? (.ref x) "__class__") Q E s := by
  have hf : findObj K D odx "__class__" = some (.bind (.builtin "getset_descriptor.__get__") (.builtin "object.__class__")) := findObj_dataO (by obtain ⟨cd, hc, _⟩ := any_some C.hd; rw [hc]; rfl) C.ha C.hn C.ht
  obtain ⟨hp, g, d, t, os⟩ := s
  have L0 := I.type (M := model prog w)
  have L1 := looks_findIn (M := model prog w) X C.hg
  have L2 := looks_findIn (M := model prog w) X C.hk
  have L3 := looks_find (M := model prog w) X I hf
  have sub : Looks (model prog w) hp (isInstance (.ref x) (.type "BaseException")) true := L0.andThen (looks_subIn X C.hs)
  have hx0 : (false && onTheHeap (Value.builtin "BaseException.__getattribute__")) = false := rfl
  have hx2 : (Value.builtin "BaseException.__getattribute__" == Value.builtin "object.__getattribute__") = false := by decide +kernel
  have hx1 : (onTheHeap (Value.ref D) && Value.builtin "BaseException.__getattribute__" == Value.builtin "object.__getattribute__") = false := by rw [hx2]; rfl
  unfold getAttr? getAttrBy? getAttrBy
  refine wpAny_bind (wpAny_mkText (wpAny_bind (wpAny_attempt (wpAny_holding (wpAny_bind (L0.at (wpAny_bind (L1.at ?_))))))))
  show wpAny _ _ (if (onTheHeap (Value.ref D) && Value.builtin "BaseException.__getattribute__" == Value.builtin "object.__getattribute__") = true then _ else _) _ _ _
  rw [hx1, if_neg Bool.false_ne_true]
  unfold getAttrByItsOwn hookBefore
  refine wpAny_bind ?_
  rw [if_pos (show onTheHeap (Value.ref D) = true from rfl)]
  refine L2.at ?_
  refine wpAny_bind (wpAny_attempt (wpAny_holding ?_))
  unfold callGetattribute
  rw [hx0, if_neg Bool.false_ne_true]
  unfold boundAndCalled
  rw [PySem.F.excAttr_ValueError.ga.bind (.ref x)]
  refine wpAny_bind (wpAny_pure ?_)
  show wpAny _ _ (call (.builtin "BaseException.__getattribute__") [.ref x, .str "__class__" t]) _ _ _
  refine wpAny_call (codeAny_call_builtin PySem.F.excAttr_ValueError.ga.plain PySem.F.entry_bexc_ga ?_)
  refine @check_slot (model prog w) _ _ ⟨hp, g, d, t + 1, os⟩ "BaseException.__getattribute__" "BaseException" "__getattribute__" (.ref x) [.str "__class__" t] [] _ (by decide +kernel) (by decide +kernel) sub (PySem.F.args_bexc_ga (.ref x) (.str "__class__" t)) ?_
  unfold Builtin.«object.__getattribute__»
  refine wpAny_bind (wpAny_of_eq (a := ((Value.ref x : Value), [Value.str "__class__" t])) (by first | rfl | (simp only [slotArgs]; rfl)) ?_)
  refine wpAny_bind (wpAny_pure (wpAny_bind (L0.at (wpAny_bind (L3.at ?_)))))
  show wpAny _ _ (holding [Value.builtin "object.__class__"] (call (.builtin "getset_descriptor.__get__") [.builtin "object.__class__", .ref x, .ref D]) >>= ret) _ _ _
  refine wpAny_bind (wpAny_holding (wpAny_call (class_get (s := ⟨hp, g, d, t + 1, os⟩) (ox := ox) (od := odx) X I C.hm ?_)))
  refine wpAny_pure ?_
  show wpAny _ _ (handedOut (.ref D)) _ _ _
  rw [handedOut_of (v := .ref D) rfl]
  first
    | exact wpAny_pure (wpAny_pure h)
    | exact wpAny_pure h
    | exact wpAny_pure (wpAny_bind (wpAny_pure (wpAny_pure h)))
theorem kitx_excO (C : L2.ExcC K D) : KitX K (.ref x) (.ref D) (fun h => InstAt h x ox D odx) where
  ty := fun _ _ _ I => I.type
  it := fun _ _ X _ => by
    obtain ⟨cdD, hcD, _⟩ := any_some C.hd
    unfold clsIn at hcD
    split at hcD
    · rename_i c' d' cd' sl' ho
      intro A' Q' E' s' k q
      unfold isType loadHead
      exact wpAny_bind (wpAny_loadPart (k _ _ (X _ _ ho)) (wpAny_pure q))
    · cases hcD
  ne := fun h tp dd its n sl X htp => by
    obtain ⟨cdD, hcD, _⟩ := any_some C.hd
    refine Bool.eq_false_iff.mpr fun q => ?_
    have e : D = tp := Value.ref.inj (beq_iff_eq.mp q)
    subst e
    unfold clsIn at hcD
    split at hcD
    · rename_i c' d' cd' sl' ho
      have z := (X _ _ ho).symm.trans htp
      cases z
    · cases hcD
  ca := fun X I k => kin_classO C X I k
end
end PySem.W
namespace L2
open PySem PySem.Spec PyProof.Rows
abbrev xcV (C t : Addr) (d : Option Addr) : Obj := { cls := .ref C, dict := d, data := .fields #[.ref t, .none, .none, .none, .bool false, .none] }
/-- at a: an exception of the class at C, its arguments the tuple at t, its dict (none | at d) -/
def xcO (a C t : Addr) (d : Option Addr) : HO := .ext fun h => h.get? a = some (xcV C t d)
section
variable {P : Program} {w : World} {H : Hp} {h : Heap} {a C t : Addr} {d : Option Addr}
theorem xcO_ok (e : h.get? a = some (xcV C t d)) : ObjOk P w H h a (xcO a C t d) := ⟨e, ⟨_, e⟩, fun _ _ z k => k _ z⟩
theorem xcO_at (hok : HOk P w H h) (he : H a = some (xcO a C t d)) : h.get? a = some (xcV C t d) := by
  have x : ObjOk P w H h a (.ext fun h => h.get? a = some (xcV C t d)) := hok a _ he
  exact x.1
end
section
variable {X : Cx} {pins : List (Addr × Obj)} {σ : St} {H : Hp} {s : Shared}
/-- two new objects -/
theorem Inv.lay2 (I : Inv X pins σ H s) {h' : Heap} {a t : Addr} {o u : HO} {t' : Nat} (k : ∀ b o, s.heap.get? b = some o → h'.get? b = some o) (ha : s.heap.get? a = none) (ht : s.heap.get? t = none) (na : H a = none) (nt : H t = none) (hat : a ≠ t)
    (newT : ∀ (G : Heap) (U : Hp), (∀ o, h'.get? t = some o → G.get? t = some o) → ObjOk X.prog X.w U G t u) (newA : ∀ U : Hp, ObjOk X.prog X.w U h' a o) : Inv X pins σ (upd (upd H t u) a o) { s with heap := h', toks := t' } := by
  obtain ⟨G, g1, g2⟩ := restrict h' fun b => decide (b ≠ a)
  have gk : ∀ b o, b ≠ a → h'.get? b = some o → G.get? b = some o := fun b o hb e => by rw [g1 b (decide_eq_true hb)]; exact e
  have ga : G.get? a = none := g2 a (by simp)
  have gs : ∀ b o, G.get? b = some o → h'.get? b = some o := fun b o e => by
    by_cases hb : b = a
    · rw [hb, ga] at e; cases e
    · rw [← g1 b (decide_eq_true hb)]; exact e
  have J : Inv X pins σ (upd H t u) { s with heap := G, toks := t' } := I.laidN (fun b o e => gk b o (fun z => by rw [z, ha] at e; cases e) (k b o e)) ht nt (newT G _ fun o e => gk t o hat.symm e)
  exact J.laidN (t' := t') gs ga (by rw [upd_ne hat]; exact na) (newA _)
end
section
variable {X : Cx} {e : Expr} {es : List Expr} {ta : TE} {x f : Str} {C : Addr} {p pos : Pos}
/-- X(e), an own exception class without own __init__, as a value -/
theorem pe_excV {bmB : List Value} {B newId initId : String} (F : ExcBaseFacts B newId initId bmB) (q : PySem.W.excIn X.K C bmB newId = true) (gC : X.mg x = some (.ref C)) (kC : PySem.W.keepIn X.K (.ref C) = true) (hg : Gl X x)
    (he : PE X e ta) (hs : starEach [e] X.env = (false, eval e X.env) :: starEach [] X.env := by rfl) (hdb : (x == ("__debug__" : Str)) = false := by decide) :
    PE X (.Call (.Name x p) [e] [] pos) (fun σ H Q => ta σ H fun v H1 => ∀ a t, H1 a = none → H1 t = none → a ≠ t → Q (.ref a) (upd (upd H1 t (.tup [v])) a (xcO a C t none))) := by
  refine ⟨fun pins s σ H Q I h => ?_⟩
  refine wpAny_Call_Name_kw (ld_glob I hg gC ?_ hdb)
  refine PySem.W.callWith_K (h₀ := X.base) I.ok.mod.kin kC ?_ hs (by rfl)
  rw [hs]
  show wpAny _ _ (spliced ((false, eval e X.env) :: backTo pos (starEach [] X.env))) _ _ s
  refine Calls.spliced_cons (thn (he.run pins s σ H _ I h) fun u s1 ⟨v, H1, I1, r1, q1⟩ => ?_)
  refine Calls.spliced_nil ⟨I1.kIn, ?_⟩
  show wpAny _ _ (call (.ref C) [u]) _ _ _
  obtain ⟨bm, N, nm, qn, bs, hdct, sn, sub, ab, col, dd, k0, k1, k2, k3, k5, mN, hC, hN, hni, T⟩ := exc_obj I1.kIn q
  refine wpAny_call_exc_subT F T hC hN hni (fun h' a hm => ?_) (by show 1 ≤ sizeLine; rw [sizeLine_eq]; omega)
  obtain ⟨t, ha', ht0, ht'⟩ := hm.there
  have hn : H1 a = none := I1.hok.gone hm.new
  have hnt : H1 t = none := I1.hok.gone ht0
  have hat : a ≠ t := fun z => by
    rw [z, ht'] at ha'
    cases ha'
  exact ⟨.ref a, upd (upd H1 t (.tup [v])) a (xcO a C t none), I1.lay2 hm.keeps hm.new ht0 hn hnt hat (fun G U k => ⟨by show 1 ≤ sizeLine; rw [sizeLine_eq]; omega, [u], .cons r1 .nil, _, k _ ht', rfl, _, rfl⟩) (fun U => xcO_ok ha'), rfl, q1 a t hn hnt hat⟩
/-- isinstance(e, c) of such -/
def rIsX (K : PySem.W.Frag) : List V → Hp → VK → Prop := fun xs H Q => ∃ (a C t : Addr) (d : Option Addr) (c : V) (cv : Value) (b : Bool), xs = [.ref a, c] ∧ H a = some (xcO a C t d) ∧ (∀ dx, d = some dx → ∃ fs, H dx = some (.xd fs)) ∧ ExcC K C ∧ (∀ u, RelV c u → u = cv) ∧ PySem.W.kitOne K (.ref C) cv = some b ∧ Q (.bl b) H
theorem call_isX : CallR X (.builtin "isinstance") (rIsX X.K) := by
  intro pins s σ H xs us Q I r h
  obtain ⟨a, C, t, d, c, cv, b, rfl, ha, hd, T, hcv, e, q⟩ := h
  cases r with
  | cons rx rr =>
    cases rr with
    | cons rt rr =>
      cases rr
      cases rx
      have ec := hcv _ rt
      subst ec
      have hget := xcO_at I.hok ha
      have J : ∃ od, PySem.W.InstAt s.heap a (xcV C t d) C od := by
        cases d with
        | none => exact ⟨none, hget, rfl, rfl, trivial⟩
        | some dx =>
          obtain ⟨fs, hx⟩ := hd dx rfl
          have z : ObjOk X.prog X.w H s.heap dx (.xd fs) := I.hok dx _ hx
          obtain ⟨mA, ⟨od, es, ep, ho, _⟩, _⟩ := z
          exact ⟨some od, hget, rfl, rfl, ho⟩
      obtain ⟨od, J⟩ := J
      exact PySem.W.kia_one (PySem.W.kitx_excO T) I.kIn J e (fun z => nomatch z) fun tk => ⟨.bl b, H, I.kept (t' := tk) fun _ _ z => z, rfl, q⟩
/-- e.f of such -/
theorem pe_xcF {te : TE} {n : Str} (he : PE X e te) (hb : attributeBase e n X.env (eval e X.env) = eval e X.env := by rfl) :
    PE X (.Attribute e n pos) (fun σ H Q => te σ H fun x H1 => ∃ (a C t dd : Addr) (fs : List (Str × V)) (v : V), x = .ref a ∧ H1 a = some (xcO a C t (some dd)) ∧ H1 dd = some (.xd fs) ∧ XfC X.K C ∧ PySem.W.findIn X.K (.ref C) n = some none ∧ fs.lookup n = some v ∧ Q v H1) := by
  refine ⟨fun pins s σ H Q I h => ?_⟩
  refine attr_of hb (thn (he.run pins s σ H _ I h) fun u s1 hh => ?_)
  obtain ⟨x, H1, I1, rx, a, C, t, dd, fs, v, ex, eo, ea, T, hno, l, q⟩ := hh
  subst ex
  obtain rfl : u = Value.ref a := rx
  have ha := xcO_at I1.hok eo
  have hx : ObjOk X.prog X.w H1 s1.heap dd (.xd fs) := I1.hok dd _ ea
  obtain ⟨mA, hns, hr⟩ := hx
  obtain ⟨od, ho, hl⟩ := lookIn_ns hns
  obtain ⟨u, hu, ru⟩ := RelO.some_of (v := v) (o := mA n) (by rw [← l]; exact hr n)
  have J : PySem.W.InstAt s1.heap a (xcV C t (some dd)) C (some od) := ⟨ha, rfl, rfl, ho⟩
  exact HandSPX.exc_get I1.kIn J T.ga T.gg T.exC (PySem.W.findObj_own T.hdC hno rfl (by rw [hl, hu])) (handed_of ru) ⟨v, H1, I1.tok _, ru, q⟩
end
end L2

set_option maxRecDepth 100000
set_option maxHeartbeats 4000000
/-! XS3: an own exception class whose __init__ says super().__init__(text) and self.f = its argument: made, raised. -/
namespace L2
open PySem PySem.Spec PyProof.Rows PySem.W
/-- what the written part says of such a class -/
structure Tm (K : Frag) (prog : Program) (mg : Str → Option Value) (x f : Str) (C fI : Addr) : Prop where
  gC : mg x = some (.ref C)
  kC : keepIn K (.ref C) = true
  iC : findIn K (.ref C) "__init__" = some (some (.ref fI))
  tI : typeIn K (.ref fI) = some (.type "function")
  exC : subIn K (.ref C) (.type "BaseException") = some true
  tyC : typeIn K (.ref C) = some (.type "type")
  cls : ∃ nm q N bs bm sn sub ab col dd k0 k1 k2 k3 k5, K.lookup C = some (excClassObj nm q C N bs bm true sn sub ab col dd k0 k1 k2 k3 k5 "ValueError.__new__") ∧ PySem.HandSPX.refsVE bm = true
  sa : findIn K (.ref C) "__setattr__" = some (some (.builtin "object.__setattr__"))
  no : findIn K (.ref C) f = some none
  ms : mg "super" = none
  op : nsIn K cStatics "thirdparty.any" = some none
  sup : ks_superIn K C C "__init__" = some (some (.builtin "ValueError.__init__"))
  isV : subIn K (.ref C) (.type "ValueError") = some true
  own : mroIn K C (.ref C) = some true
  top : (prog.main.scope.names.lookup ("super" : Str)).isSome = false
  fs : f ≠ "self"
  fd : (f == ("__debug__" : Str)) = false
  fn : ∃ qual params m j p1 p2 p3 p4 p5 p6 p7 p8 p9 p10 scope dV kV doc pm an cda ct cc oc od osl ccl cdd vs ccs file tf cl cld csl ar,
    K.lookup fI = some ⟨oc, od, .func (ksFn "__init__" qual params (TMX.tmBody f m j p1 p2 p3 p4 p5 p6 p7 p8 p9 p10) scope dV kV doc pm an (.ref cda) ct cc), osl⟩ ∧ codeIn K (.ref cda) qual = true ∧ K.lookup cda = some ⟨ccl, cdd, .fields vs, ccs⟩ ∧
    vs[2]? = some (.str file tf) ∧ ((prog.main.file : Str) == file) = true ∧ K.lookup cc = some ⟨cl, cld, .cell (some (.ref C)), csl⟩ ∧ (params.posonlyargs ++ params.args).head? = some ar ∧ ar.arg = "self" ∧
    scope.names.lookup ("super" : Str) = some .globalImplicit ∧ scope.names.lookup ("__class__" : Str) = some .free ∧ scope.names.lookup ("self" : Str) = some .local ∧ scope.names.lookup f = some .local ∧ scope.kind = .function ∧ (∀ x ∈ scope.names, x.2 ≠ .cell) ∧
    scope.isCoroutine = false ∧ scope.isGenerator = false ∧ (p3.endLine == p5.line) = true ∧
    ∀ (e u : Value) (s : Shared), BindsTo s (ksFn "__init__" qual params (TMX.tmBody f m j p1 p2 p3 p4 p5 p6 p7 p8 p9 p10) scope dV kV doc pm an (.ref cda) ct cc) ⟨[e, u], []⟩ [("self", e), (f, u)]
section
variable {X : Cx} {pins : List (Addr × Obj)} {σ : St} {H H1 : Hp} {s : Shared} {e : Expr} {ta : TE} {x f : Str} {C fI : Addr} {p pos : Pos} {k : Nat}
/-- the call, up to its end: what the heap is like -/
theorem tm_call (T : Tm X.K X.prog X.mg x f C fI) (hr : Room (k + 1) X.A) {hp : Heap} {g : Array GenState} {dr : Drawn} {tk : Nat} {os : OsState} {v : V} {u : Value} {Q : Value → Shared → Prop} (I : Inv X pins σ H ⟨hp, g, dr, tk, os⟩) (r : RelV v u)
    (hq : ∀ a t dx h' tk', hp.get? a = none → hp.get? dx = none → dx ≠ a → (∀ b o, hp.get? b = some o → h'.get? b = some o) → h'.get? a = some (xcV C t (some dx)) → h'.Ns1 dx (fun y => if y = f then some u else none) → Q (.ref a) ⟨h', g, dr, tk', os⟩) :
    wpAny (model X.prog X.w) X.A (call (.ref C) [u]) Q X.xe ⟨hp, g, dr, tk, os⟩ := by
  obtain ⟨nm, q, N, bs, bm, sn, sub, ab, col, dd, k0, k1, k2, k3, k5, hC, hbm⟩ := T.cls
  obtain ⟨qual, params, m, j, p1, p2, p3, p4, p5, p6, p7, p8, p9, p10, scope, dV, kV, doc, pm, an, cda, ct, cc, oc, od, osl, ccl, cdd, vs, ccs, file, tf, cl, cld, csl, ar, f1, f2, f3, f4, f5, f6, f7, f8, f9, f10, f11, f12, f13, f14, f15, f16, f18, f17⟩ := T.fn
  have kk : ∀ b o, hp.get? b = some o → ((hp.push (kdv_tup [u])).push (PySem.HandSPX.excO C hp.objs.size)).get? b = some o := fun b o e => Heap.get?_push_of_some _ (Heap.get?_push_of_some _ e)
  have hget : ((hp.push (kdv_tup [u])).push (PySem.HandSPX.excO C hp.objs.size)).get? (hp.objs.size + 1) = some (PySem.HandSPX.excO C hp.objs.size) := by heap_get
  have nb : ∀ b, hp.objs.size ≤ b → hp.get? b = none := fun b hb => by
    cases z : hp.get? b with
    | none => rfl
    | some o => exact absurd (Heap.lt_size z) (Nat.not_lt.mpr hb)
  have kin : X.K.In ((hp.push (kdv_tup [u])).push (PySem.HandSPX.excO C hp.objs.size)) := I.kIn.keeps kk
  obtain ⟨mb, hmb, hmb2⟩ := I.mod.blt
  refine wpAny_call (PySem.HandSPX.call_own F.excBase_ValueError (fun Y => PySem.HandSPX.refsVE_contains Y bm hbm) (I.kIn _ _ hC) (looks_findIn I.kIn T.iC) (fun self => bind_fn I.kIn self T.tI) (by show 1 ≤ sizeLine; rw [sizeLine_eq]; omega) ?_)
  refine TMX.init_code (e := hp.objs.size + 1) kin ((I.mod.glob.keeps I.bk).keeps kk) ⟨mb, (hmb.keeps I.bk).keeps kk, hmb2⟩ (I.nolimit.keeps kk) f1 f2 f3 f4 f5 f6 hC hbm T.sa T.no T.ms T.op T.sup T.isV T.own f7 f8 f9 f10 f11 f12 T.fs f18 T.fd f13 f14 f15 f16 T.top (fun s => f17 _ _ s) (hr.make C [u] []).depth hget ?_ ?_
  · cases z : X.K.lookup (hp.objs.size + 1) with
    | none => rfl
    | some o => exact absurd (Heap.lt_size (I.kIn _ _ z)) (Nat.not_lt.mpr (Nat.le_succ hp.objs.size))
  · intro h' t1 dx tk' k' e' hd hne hns
    refine ⟨rfl, hq _ t1 dx h' tk' (nb _ (by omega)) (nb _ ?_) hne (fun b o z => k' b o (fun y => by rw [y, nb _ (by omega)] at z; cases z) (kk _ _ z)) e' hns⟩
    have : ((hp.push (kdv_tup [u])).push (PySem.HandSPX.excO C hp.objs.size)).objs.size = hp.objs.size + 2 := by simp [Heap.push]
    omega
/-- x(e), as a value -/
theorem pe_tm (T : Tm X.K X.prog X.mg x f C fI) (hr : Room (k + 1) X.A) (hg : Gl X x) (he : PE X e ta) (hs : starEach [e] X.env = (false, eval e X.env) :: starEach [] X.env := by rfl) (hdb : (x == ("__debug__" : Str)) = false := by decide) :
    PE X (.Call (.Name x p) [e] [] pos) (fun σ H Q => ta σ H fun v H1 => ∀ a t d, H1 a = none → H1 d = none → a ≠ d → Q (.ref a) (upd (upd H1 d (.xd [(f, v)])) a (xcO a C t (some d)))) := by
  refine ⟨fun pins s σ H Q I h => ?_⟩
  refine wpAny_Call_Name_kw (ld_glob I hg T.gC ?_ hdb)
  refine PySem.W.callWith_K (h₀ := X.base) I.ok.mod.kin T.kC ?_ hs (by rfl)
  rw [hs]
  show wpAny _ _ (spliced ((false, eval e X.env) :: backTo pos (starEach [] X.env))) _ _ s
  refine Calls.spliced_cons (thn (he.run pins s σ H _ I h) fun u s1 ⟨v, H1, I1, r1, q1⟩ => ?_)
  refine Calls.spliced_nil ⟨I1.kIn, ?_⟩
  show wpAny _ _ (call (.ref C) [u]) _ _ _
  obtain ⟨hp, g, dr, tk, os⟩ := s1
  refine tm_call T hr I1 r1 fun a t dx h' tk' ha hd hne kk e' hns => ?_
  have hn : H1 a = none := I1.hok.gone ha
  have hnd : H1 dx = none := I1.hok.gone hd
  exact ⟨.ref a, upd (upd H1 dx (.xd [(f, v)])) a (xcO a C t (some dx)), I1.lay2 (t' := tk') kk ha hd hn hnd hne.symm (fun G U kG => ⟨_, hns.at fun o q => kG o q, relO_put (fs := []) r1 fun g => True.intro⟩) (fun U => xcO_ok e'), rfl, q1 a t dx hn hnd hne.symm⟩
/-- x(e), to be raised -/
theorem pmk_tm (T : Tm X.K X.prog X.mg x f C fI) (hr : Room (k + 1) X.A) (hg : Gl X x) (he : PE X e ta) (hs : starEach [e] X.env = (false, eval e X.env) :: starEach [] X.env := by rfl) (hdb : (x == ("__debug__" : Str)) = false := by decide) :
    PMk X (.Call (.Name x p) [e] [] pos) (fun σ H Q => ta σ H fun v H1 => ∀ d, H1 d = none → Q (.ref C) (some d) (upd H1 d (.xd [(f, v)]))) := by
  intro pins s σ H Q I h
  refine wpAny_Call_Name_kw (ld_glob I hg T.gC ?_ hdb)
  refine PySem.W.callWith_K (h₀ := X.base) I.ok.mod.kin T.kC ?_ hs (by rfl)
  rw [hs]
  show wpAny _ _ (spliced ((false, eval e X.env) :: backTo pos (starEach [] X.env))) _ _ s
  refine Calls.spliced_cons (thn (he.run pins s σ H _ I h) fun u s1 ⟨v, H1, I1, r1, q1⟩ => ?_)
  refine Calls.spliced_nil ⟨I1.kIn, ?_⟩
  show wpAny _ _ (call (.ref C) [u]) _ _ _
  obtain ⟨hp, g, dr, tk, os⟩ := s1
  refine tm_call T hr I1 r1 fun a t dx h' tk' ha hd hne kk e' hns => ?_
  have hn : H1 a = none := I1.hok.gone ha
  have hnd : H1 dx = none := I1.hok.gone hd
  obtain ⟨G, g1, g2⟩ := restrict h' fun b => decide (b ≠ a)
  have gk : ∀ b o, b ≠ a → h'.get? b = some o → G.get? b = some o := fun b o hb e => by rw [g1 b (decide_eq_true hb)]; exact e
  have ga : G.get? a = none := g2 a (by simp)
  have gs : ∀ b o, G.get? b = some o → h'.get? b = some o := fun b o e => by
    by_cases hb : b = a
    · rw [hb, ga] at e; cases e
    · rw [← g1 b (decide_eq_true hb)]; exact e
  have J : Inv X pins σ (upd H1 dx (.xd [(f, v)])) ⟨G, g, dr, tk', os⟩ := I1.laidN (t' := tk') (fun b o z => gk b o (fun y => by rw [y, ha] at z; cases z) (kk b o z)) hd hnd ⟨_, hns.at fun o q => gk _ o hne q, relO_put (fs := []) r1 fun g => True.intro⟩
  exact ⟨a, _, _, ⟨G, g, dr, tk', os⟩, _, .ref C, some dx, rfl, J, gs, ga, e', ⟨rfl, rfl⟩, rfl, rfl, by rw [upd_ne hne.symm]; exact hn, rfl, I1.bare, raises_own T.exC T.tyC, q1 dx hnd⟩
end
end L2

set_option maxRecDepth 100000
set_option maxHeartbeats 4000000
/-! DA1: plain data D over the layer: what a value is worth (Den), the state (Rep), readings over data (eT, aT, sT), expressions. -/
namespace DL
open PySem PySem.Spec PyProof.Rows L2

inductive D where
  | non | bl (b : Bool) | int (i : Int) | str (x : Str) | tup (xs : List D) | lst (xs : List D) | ptr (a : Addr) | ty (n : String) | drum | exc (x m : Str) | lim (x : Str) (i : Int)

/-- a drum: a list of two ints, the second one small; which ones is left open -/
def DrumP (a : Addr) (h : Heap) : Prop := ∃ (x y : Int) (t u : Tok) (n : Nat), 0 ≤ y ∧ y < 4294967296 ∧ h.get? a = some { cls := .type "list", data := .seq #[.int x t, .int y u] n }
def DrumO (a : Addr) : HO := .ext (DrumP a)
/-- the class that a name of the module means -/
def refOf (K : PySem.W.Frag) (x : Str) : Option Addr := match PySem.W.nsIn K mainGlobals x with
  | some (some (.ref a)) => some a
  | _ => none
mutual
inductive Den (K : PySem.W.Frag) (I : Hp) : V → D → Prop
  | non : Den K I .non .non
  | bl (b : Bool) : Den K I (.bl b) (.bl b)
  | int (i : Int) : Den K I (.int i) (.int i)
  | str (x : Str) : Den K I (.str x) (.str x)
  | tup {a : Addr} {xs : List V} {ds : List D} : SqT K I a xs → DenA K I xs ds → Den K I (.ref a) (.tup ds)
  | lst {a : Addr} {xs : List V} {ds : List D} : Rd I a (.lst xs) → DenA K I xs ds → Den K I (.ref a) (.lst ds)
  | ptr (a : Addr) : Den K I (.ref a) (.ptr a)
  | ty (n : String) : Den K I (.ty n) (.ty n)
  | drum {a : Addr} : I a = some (DrumO a) → Den K I (.ref a) .drum
  | exc {a t C : Addr} {x m : Str} : refOf K x = some C → I a = some (xcO a C t none) → SqT K I t [.str m] → Den K I (.ref a) (.exc x m)
  | lim {a t d C : Addr} {x : Str} {i : Int} : refOf K x = some C → I a = some (xcO a C t (some d)) → I d = some (.xd [("limit", .int i)]) → Den K I (.ref a) (.lim x i)
inductive DenA (K : PySem.W.Frag) (I : Hp) : List V → List D → Prop
  | nil : DenA K I [] []
  | cons {v : V} {vs : List V} {d : D} {ds : List D} : Den K I v d → DenA K I vs ds → DenA K I (v :: vs) (d :: ds)
end
theorem seqT {K : PySem.W.Frag} {H H' : Hp} {a : Addr} {xs : List V} (e : Same H H') (h : SqT K H a xs) : SqT K H' a xs := by
  rcases h with (h | ⟨o, h⟩) | h
  · exact .inl (.inl (e _ _ h))
  · exact .inl (.inr ⟨o, e _ _ h⟩)
  · exact .inr h
theorem rdMono {H H' : Hp} {a : Addr} {u : HO} (e : Same H H') (h : Rd H a u) : Rd H' a u := by
  rcases h with h | ⟨o, h⟩
  · exact .inl (e _ _ h)
  · exact .inr ⟨o, e _ _ h⟩
mutual
theorem Den.mono {K : PySem.W.Frag} {I I' : Hp} (e : Same I I') : ∀ {v : V} {d : D}, Den K I v d → Den K I' v d
  | _, _, .non => .non
  | _, _, .bl b => .bl b
  | _, _, .int i => .int i
  | _, _, .str x => .str x
  | _, _, .tup h r => .tup (seqT e h) (DenA.mono e r)
  | _, _, .lst h r => .lst (rdMono e h) (DenA.mono e r)
  | _, _, .ptr a => .ptr a
  | _, _, .ty a => .ty a
  | _, _, .drum h => .drum (e _ _ h)
  | _, _, .exc g h r => .exc g (e _ _ h) (seqT e r)
  | _, _, .lim g h r => .lim g (e _ _ h) (e _ _ r)
theorem DenA.mono {K : PySem.W.Frag} {I I' : Hp} (e : Same I I') : ∀ {vs : List V} {ds : List D}, DenA K I vs ds → DenA K I' vs ds
  | _, _, .nil => .nil
  | _, _, .cons h r => .cons (Den.mono e h) (DenA.mono e r)
end
section
variable {K : PySem.W.Frag} {I : Hp}
theorem DenA.length : ∀ {vs : List V} {ds : List D}, DenA K I vs ds → vs.length = ds.length
  | _, _, .nil => rfl
  | _, _, .cons _ r => by simp [DenA.length r]
theorem DenA.get : ∀ {vs : List V} {ds : List D}, DenA K I vs ds → ∀ {i : Nat} {d : D}, ds[i]? = some d → ∃ v, vs[i]? = some v ∧ Den K I v d
  | _, _, .nil, i, d, h => by simp at h
  | _, _, .cons h r, 0, d, e => by simp at e; subst e; exact ⟨_, rfl, h⟩
  | _, _, .cons h r, i + 1, d, e => by
    obtain ⟨v, e1, e2⟩ := DenA.get r (i := i) (d := d) (by simpa using e)
    exact ⟨v, by simpa using e1, e2⟩
theorem DenA.getV : ∀ {vs : List V} {ds : List D}, DenA K I vs ds → ∀ {i : Nat} {v : V}, vs[i]? = some v → ∃ d, ds[i]? = some d ∧ Den K I v d
  | _, _, .nil, i, v, h => by simp at h
  | _, _, .cons h r, 0, v, e => by simp at e; subst e; exact ⟨_, rfl, h⟩
  | _, _, .cons h r, i + 1, v, e => by
    obtain ⟨v, e1, e2⟩ := DenA.getV r (i := i) (v := v) (by simpa using e)
    exact ⟨v, by simpa using e1, e2⟩
theorem DenA.app : ∀ {vs ws : List V} {ds es : List D}, DenA K I vs ds → DenA K I ws es → DenA K I (vs ++ ws) (ds ++ es)
  | _, _, _, _, .nil, s => s
  | _, _, _, _, .cons h r, s => .cons h (DenA.app r s)
theorem DenA.take : ∀ {vs : List V} {ds : List D} (n : Nat), DenA K I vs ds → DenA K I (vs.take n) (ds.take n)
  | _, _, 0, _ => .nil
  | _, _, _ + 1, .nil => .nil
  | _, _, n + 1, .cons h r => .cons h (DenA.take n r)
theorem DenA.drop : ∀ {vs : List V} {ds : List D} (n : Nat), DenA K I vs ds → DenA K I (vs.drop n) (ds.drop n)
  | _, _, 0, r => r
  | _, _, _ + 1, .nil => .nil
  | _, _, n + 1, .cons _ r => DenA.drop n r
theorem DenA.set : ∀ {vs : List V} {ds : List D} (i : Nat) {v : V} {d : D}, DenA K I vs ds → Den K I v d → DenA K I (vs.set i v) (ds.set i d)
  | _, _, _, _, _, .nil, _ => .nil
  | _, _, 0, _, _, .cons _ t, q => .cons q t
  | _, _, i + 1, _, _, .cons h t, q => .cons h (DenA.set i t q)
theorem DenA.rev {vs : List V} {ds : List D} : DenA K I vs ds → DenA K I vs.reverse ds.reverse
  | .nil => .nil
  | .cons h t => by rw [List.reverse_cons, List.reverse_cons]; exact (DenA.rev t).app (.cons h .nil)
theorem DenA.rep {vs : List V} {ds : List D} (h : DenA K I vs ds) : ∀ k : Nat, DenA K I (List.replicate k vs).flatten (List.replicate k ds).flatten
  | 0 => .nil
  | k + 1 => by rw [List.replicate_succ, List.replicate_succ, List.flatten_cons, List.flatten_cons]; exact h.app (DenA.rep h k)
theorem DenA.ints : ∀ {vs : List V} {ns : List Int}, DenA K I vs (ns.map D.int) → vs = ns.map V.int
  | _, [], .nil => rfl
  | _, n :: ns, .cons h r => by cases h; rw [DenA.ints r]; rfl
theorem DenA.ofInts : ∀ ns : List Int, DenA K I (ns.map V.int) (ns.map D.int)
  | [] => .nil
  | n :: ns => .cons (.int n) (DenA.ofInts ns)
theorem DenA.bls : ∀ {vs : List V} {ns : List Bool}, DenA K I vs (ns.map D.bl) → vs = ns.map V.bl
  | _, [], .nil => rfl
  | _, n :: ns, .cons h r => by cases h; rw [DenA.bls r]; rfl
theorem DenA.strs : ∀ {vs : List V} {ns : List Str}, DenA K I vs (ns.map D.str) → vs = ns.map V.str
  | _, [], .nil => rfl
  | _, n :: ns, .cons h r => by cases h; rw [DenA.strs r]; rfl
theorem DenA.ofStrs : ∀ ns : List Str, DenA K I (ns.map V.str) (ns.map D.str)
  | [] => .nil
  | n :: ns => .cons (.str n) (DenA.ofStrs ns)
end

/-! ### the state -/
/-- what may change: a list that is filled, an instance -/
inductive MO where
  | lst (ds : List D)
  | ins (C : Addr) (fs : List (Str × D))
abbrev Sto := Addr → Option MO
def sput (S : Sto) (a : Addr) (m : MO) : Sto := fun b => if b = a then some m else S b
theorem sput_same {S : Sto} {a : Addr} {m : MO} : sput S a m a = some m := if_pos rfl
theorem sput_ne {S : Sto} {a b : Addr} {m : MO} (h : b ≠ a) : sput S a m b = S b := if_neg h
theorem sput_sput {S : Sto} {a : Addr} {m n : MO} : sput (sput S a m) a n = sput S a n := by
  funext b; unfold sput; split <;> rfl
def FsOk (K : PySem.W.Frag) (I : Hp) : List (Str × V) → List (Str × D) → Prop := Paired fun p q => p.1 = q.1 ∧ Den K I p.2 q.2
def MOk (K : PySem.W.Frag) (I H : Hp) (a : Addr) : MO → Prop
  | .lst ds => ∃ xs, H a = some (.lst xs) ∧ DenA K I xs ds
  | .ins C fs => ∃ dx vs, H a = some (.ins C dx vs) ∧ FsOk K I vs fs
theorem FsOk.mono {K : PySem.W.Frag} {I I' : Hp} (e : Same I I') {vs : List (Str × V)} {fs : List (Str × D)} (h : FsOk K I vs fs) : FsOk K I' vs fs := Paired.mapP h fun _ _ z => ⟨z.1, z.2.mono e⟩

/-- I: what stands for good; S: what may change; F: what others keep -/
structure Rep (K : PySem.W.Frag) (T : List (Addr × Str)) (F I : Hp) (S : Sto) (H : Hp) : Prop where
  imm : Same I H
  frm : ∀ a o, F a = some o → H a = some o ∧ I a = none
  mto : ∀ a m, S a = some m → I a = none ∧ F a = none ∧ MOk K I H a m
  tab : LamX.Tabs T H
  ntb : ∀ a ps, I a ≠ some (.tbl ps) ∧ F a ≠ some (.tbl ps)

section
variable {K : PySem.W.Frag} {T : List (Addr × Str)} {F I : Hp} {S : Sto} {H : Hp}
theorem Rep.freeI (r : Rep K T F I S H) {p : Addr} (h : H p = none) : I p = none := r.imm.free h
theorem Rep.freeF (r : Rep K T F I S H) {p : Addr} (h : H p = none) : F p = none := by
  cases q : F p with
  | none => rfl
  | some o => rw [(r.frm p o q).1] at h; cases h
theorem Rep.freeS (r : Rep K T F I S H) {p : Addr} (h : H p = none) : S p = none := by
  cases q : S p with
  | none => rfl
  | some o =>
    have z := (r.mto p o q).2.2
    cases o with
    | lst ds => obtain ⟨_, e, _⟩ := z; rw [e] at h; cases h
    | ins C fs => obtain ⟨_, _, e, _⟩ := z; rw [e] at h; cases h
theorem same_upd {I : Hp} {p : Addr} {o : HO} (h : I p = none) : Same I (upd I p o) := fun b u e => by rw [upd_ne (ne_of_none e h)]; exact e
theorem Rep.same (r : Rep K T F I S H) {p : Addr} {o : HO} (h : H p = none) : Same I (upd I p o) := same_upd (r.freeI h)
theorem MOk.mono {I' H' : Hp} {a : Addr} {m : MO} (h : MOk K I H a m) (e : Same I I') (k : ∀ o, H a = some o → H' a = some o) : MOk K I' H' a m := by
  cases m with
  | lst ds => obtain ⟨xs, e1, e2⟩ := h; exact ⟨xs, k _ e1, e2.mono e⟩
  | ins C fs => obtain ⟨dx, vs, e1, e2⟩ := h; exact ⟨dx, vs, k _ e1, e2.mono e⟩
/-- a new thing that stands for good -/
theorem Rep.new (r : Rep K T F I S H) {p : Addr} {o : HO} (h : H p = none) (nt : ∀ ps, o ≠ .tbl ps) : Rep K T F (upd I p o) S (upd H p o) where
  imm := fun b u e => by
    by_cases hb : b = p
    · subst hb; rw [upd_same] at e ⊢; exact e
    · rw [upd_ne hb] at e ⊢; exact r.imm b u e
  frm := fun a u e => by
    have hb : a ≠ p := ne_of_none e (r.freeF h)
    rw [upd_ne hb, upd_ne hb]; exact r.frm a u e
  mto := fun a m e => by
    have hb : a ≠ p := fun z => by subst z; rw [r.freeS h] at e; cases e
    obtain ⟨e1, e2, e3⟩ := r.mto a m e
    exact ⟨by rw [upd_ne hb]; exact e1, e2, e3.mono (r.same h) fun o q => by rw [upd_ne hb]; exact q⟩
  tab := r.tab.ext fun b u e => by rw [upd_ne (ne_of_none e h)]; exact e
  ntb := fun a ps => ⟨fun e => by
    by_cases hb : a = p
    · subst hb; rw [upd_same] at e; exact nt ps (Option.some.inj e)
    · rw [upd_ne hb] at e; exact (r.ntb a ps).1 e, (r.ntb a ps).2⟩
end

/-- what a name that is not known as a value stands for: a list that is filled is read as it stands -/
def res (S : Sto) : D → D
  | .ptr a => match S a with
    | some (.lst ds) => .lst ds
    | _ => .ptr a
  | d => d
theorem Rep.lst {K : PySem.W.Frag} {T : List (Addr × Str)} {F I : Hp} {S : Sto} {H : Hp} (r : Rep K T F I S H) {v : V} {d : D} {ds : List D} (h : Den K I v d) (e : res S d = .lst ds) : ∃ a xs, v = .ref a ∧ Rd H a (.lst xs) ∧ DenA K I xs ds := by
  cases h with
  | lst h1 h2 => cases e; exact ⟨_, _, rfl, rdMono r.imm h1, h2⟩
  | ptr a =>
    cases q : S a with
    | none => simp [res, q] at e
    | some m =>
      cases m with
      | ins C fs => simp [res, q] at e
      | lst es =>
        simp [res, q] at e
        subst e
        obtain ⟨xs, e1, e2⟩ := (r.mto a _ q).2.2
        exact ⟨a, xs, rfl, .of e1, e2⟩
  | non => cases e
  | bl b => cases e
  | int i => cases e
  | str x => cases e
  | ty x => cases e
  | tup _ _ => cases e
  | drum _ => cases e
  | exc _ _ _ => cases e
  | lim _ _ _ => cases e
theorem Rep.tup {K : PySem.W.Frag} {T : List (Addr × Str)} {F I : Hp} {S : Sto} {H : Hp} (r : Rep K T F I S H) {v : V} {ds : List D} (h : Den K I v (.tup ds)) : ∃ a xs, v = .ref a ∧ SqT K H a xs ∧ DenA K I xs ds := by
  cases h with
  | tup h1 h2 => exact ⟨_, _, rfl, seqT r.imm h1, h2⟩

/-! ### names -/
abbrev Ro := List (Option D)
structure Slots (K : PySem.W.Frag) (I : Hp) (σ : L2.St) (ρ : Ro) : Prop where
  len : σ.length = ρ.length
  get : ∀ (i : Nat) (d : D), ρ[i]? = some (some d) → ∃ v, σ[i]? = some (some v) ∧ Den K I v d
section
variable {K : PySem.W.Frag} {I I' : Hp} {σ : L2.St} {ρ : Ro}
theorem Slots.mono (h : Slots K I σ ρ) (e : Same I I') : Slots K I' σ ρ := ⟨h.len, fun i d q => let ⟨v, e1, e2⟩ := h.get i d q; ⟨v, e1, e2.mono e⟩⟩
theorem Slots.set (h : Slots K I σ ρ) (i : Nat) {v : V} {d : D} (q : Den K I v d) : Slots K I (σ.set i (some v)) (ρ.set i (some d)) := by
  refine ⟨by rw [List.length_set, List.length_set, h.len], fun j e hj => ?_⟩
  by_cases hij : j = i
  · subst hij
    have hl : j < ρ.length := by
      have := (List.getElem?_eq_some_iff.mp hj).1
      rwa [List.length_set] at this
    rw [List.getElem?_set_self hl] at hj
    cases hj
    exact ⟨v, List.getElem?_set_self (by rw [h.len]; exact hl), q⟩
  · rw [List.getElem?_set_ne (Ne.symm hij)] at hj ⊢
    exact h.get j e hj
theorem Slots.unset (h : Slots K I σ ρ) (i : Nat) : Slots K I (σ.set i none) (ρ.set i none) := by
  refine ⟨by rw [List.length_set, List.length_set, h.len], fun j e hj => ?_⟩
  by_cases hij : j = i
  · subst hij
    have hl : j < ρ.length := by
      have := (List.getElem?_eq_some_iff.mp hj).1
      rwa [List.length_set] at this
    rw [List.getElem?_set_self hl] at hj
    cases hj
  · rw [List.getElem?_set_ne (Ne.symm hij)] at hj ⊢
    exact h.get j e hj
theorem DenA.someA : ∀ {vs : List V} {ds : List D}, DenA K I vs ds → ∀ (i : Nat) (d : D), (ds.map some)[i]? = some (some d) → ∃ v, (vs.map some)[i]? = some (some v) ∧ Den K I v d := fun {vs ds} h i d e => by
  rw [List.getElem?_map] at e
  cases q : ds[i]? with
  | none => rw [q] at e; cases e
  | some d' =>
    rw [q] at e
    cases e
    obtain ⟨v, e1, e2⟩ := h.get q
    exact ⟨v, by rw [List.getElem?_map, e1]; rfl, e2⟩
end
def estart (n : Nat) (ds : List D) : Ro := ds.map some ++ List.replicate (n - ds.length) none
theorem Slots.start {K : PySem.W.Frag} {I : Hp} {vs : List V} {ds : List D} (h : DenA K I vs ds) (N : List Str) : Slots K I (L2.start N vs) (estart N.length ds) := by
  refine ⟨by unfold L2.start estart; simp [h.length], fun i d e => ?_⟩
  unfold estart at e
  unfold L2.start
  rw [List.getElem?_append] at e ⊢
  rw [List.length_map] at e ⊢
  rw [h.length]
  split at e
  · rename_i hl
    rw [if_pos hl]
    exact h.someA i d e
  · rename_i hl
    rw [List.getElem?_replicate] at e
    split at e <;> cases e

/-! ### readings over data -/
/-- around a body: the tables, what stood at its entry, what is wanted of an error (by its class) -/
structure Bx where
  T : List (Addr × Str)
  F : Hp
  I : Hp
  E : Str → Sto → Prop
abbrev WR := Str → Sto → Prop
abbrev WE := WR → Ro → Sto → (D → Sto → Prop) → Prop
abbrev WT := WR → Ro → Sto → (Bool → Sto → Prop) → Prop
abbrev WA := WR → Ro → Sto → (List D → Sto → Prop) → Prop
structure DEnds where
  nx : Ro → Sto → Prop
  rt : D → Sto → Prop
  bk : Ro → Sto → Prop := fun _ _ => False
  ct : Ro → Sto → Prop := fun _ _ => False
abbrev WS := WR → DEnds → Ro → Sto → Prop
abbrev WG := WR → D → Ro → Sto → (Ro → Sto → Prop) → Prop
abbrev WGs := WR → List D → Ro → Sto → (Ro → Sto → Prop) → Prop
section
variable (K : PySem.W.Frag) (B : Bx)
/-- the state's part of every reading: F more than the entry's frame -/
structure Now (F I : Hp) (S : Sto) (σ : L2.St) (ρ : Ro) (H : Hp) : Prop where
  fr : Same B.F F
  en : Same B.I I
  rep : Rep K B.T F I S H
  sl : Slots K I σ ρ
def Aft (F I : Hp) (Φ : D → Sto → Prop) (v : V) (H' : Hp) : Prop := ∃ I' S' d, Same I I' ∧ Rep K B.T F I' S' H' ∧ Den K I' v d ∧ Φ d S'
def AftA (F I : Hp) (n : Nat) (Φ : List D → Sto → Prop) (vs : List V) (H' : Hp) : Prop := ∃ I' S' ds, Same I I' ∧ Rep K B.T F I' S' H' ∧ DenA K I' vs ds ∧ ds.length = n ∧ Φ ds S'
def AftT (F I : Hp) (Φ : Bool → Sto → Prop) (b : Bool) (H' : Hp) : Prop := ∃ I' S', Same I I' ∧ Rep K B.T F I' S' H' ∧ Φ b S'
def AftS (F I : Hp) (Φ : Ro → Sto → Prop) (σ' : L2.St) (H' : Hp) : Prop := ∃ I' S' ρ', Same I I' ∧ Rep K B.T F I' S' H' ∧ Slots K I' σ' ρ' ∧ Φ ρ' S'
def eT (w : WE) : TE := fun σ H Q => ∃ F I S ρ Φ, Now K B F I S σ ρ H ∧ w B.E ρ S Φ ∧ ∀ v H', Aft K B F I Φ v H' → Q v H'
def tT (w : WT) : TT := fun σ H Q => ∃ F I S ρ Φ, Now K B F I S σ ρ H ∧ w B.E ρ S Φ ∧ ∀ b H', AftT K B F I Φ b H' → Q b H'
def aT (n : Nat) (w : WA) : TA := fun σ H Q => ∃ F I S ρ Φ, Now K B F I S σ ρ H ∧ w B.E ρ S Φ ∧ ∀ vs H', AftA K B F I n Φ vs H' → Q vs H'
def sT (w : WS) : TS := fun Dn σ H => ∃ F I S ρ dn, Now K B F I S σ ρ H ∧ w B.E dn ρ S ∧ (∀ σ' H', AftS K B F I dn.nx σ' H' → Dn.nx σ' H') ∧ (∀ v H', Aft K B F I dn.rt v H' → Dn.rt v H') ∧
  (∀ σ' H', AftS K B F I dn.bk σ' H' → Dn.bk σ' H') ∧ ∀ σ' H', AftS K B F I dn.ct σ' H' → Dn.ct σ' H'
def gT (g : WG) : TG := fun v σ H Q => ∃ F I S ρ d Φ, Now K B F I S σ ρ H ∧ Den K I v d ∧ g B.E d ρ S Φ ∧ ∀ σ' H', AftS K B F I Φ σ' H' → Q σ' H'
def gsT (g : WGs) : TGs := fun vs σ H Q => ∃ F I S ρ ds Φ, Now K B F I S σ ρ H ∧ DenA K I vs ds ∧ g B.E ds ρ S Φ ∧ ∀ σ' H', AftS K B F I Φ σ' H' → Q σ' H'
end
def DE (X : Cx) (B : Bx) (e : Expr) (w : WE) : Prop := PE X e (eT X.K B w)
def DT (X : Cx) (B : Bx) (e : Expr) (w : WT) : Prop := PT X e (tT X.K B w)
def DW (X : Cx) (B : Bx) (e : Expr) (w : WT) : Prop := PW X e (tT X.K B w)
def DA (X : Cx) (B : Bx) (es : List Expr) (n : Nat) (w : WA) : Prop := PA X es (aT X.K B n w)
def DS (X : Cx) (B : Bx) (st : Stmt) (w : WS) : Prop := PS X st (sT X.K B w)
def DSs (X : Cx) (B : Bx) (st : List Stmt) (w : WS) : Prop := PSs X st (sT X.K B w)
def DG (X : Cx) (B : Bx) (tg : Expr) (w : WG) : Prop := PG X tg (gT X.K B w)
def DGs (X : Cx) (B : Bx) (tg : List Expr) (w : WGs) : Prop := PGs X tg (gsT X.K B w)
section
variable {X : Cx} {B : Bx}
theorem PE_imp {e : Expr} {t t' : TE} (h : PE X e t) (q : ∀ σ H Q, t' σ H Q → t σ H Q) : PE X e t' := ⟨fun pins s σ H Q I z => h.run pins s σ H Q I (q _ _ _ z)⟩
theorem PT_imp {e : Expr} {t t' : TT} (h : PT X e t) (q : ∀ σ H Q, t' σ H Q → t σ H Q) : PT X e t' := ⟨fun pins s σ H Q I z => h.run pins s σ H Q I (q _ _ _ z)⟩
theorem PW_imp {e : Expr} {t t' : TT} (h : PW X e t) (q : ∀ σ H Q, t' σ H Q → t σ H Q) : PW X e t' := ⟨fun wh pins s σ H Q I z => h.run wh pins s σ H Q I (q _ _ _ z)⟩
theorem PA_imp {e : List Expr} {t t' : TA} (h : PA X e t) (q : ∀ σ H Q, t' σ H Q → t σ H Q) : PA X e t' := ⟨fun p pins s σ H Q I z => h.run p pins s σ H Q I (q _ _ _ z)⟩
theorem PS_imp {e : Stmt} {t t' : TS} (h : PS X e t) (q : ∀ Dn σ H, t' Dn σ H → t Dn σ H) : PS X e t' := ⟨fun pins s σ H Dn I z => h.run pins s σ H Dn I (q _ _ _ z)⟩
theorem PSs_imp {e : List Stmt} {t t' : TS} (h : PSs X e t) (q : ∀ Dn σ H, t' Dn σ H → t Dn σ H) : PSs X e t' := ⟨fun pins s σ H Dn I z => h.run pins s σ H Dn I (q _ _ _ z)⟩
end
end DL

set_option maxRecDepth 100000
set_option maxHeartbeats 4000000
/-! DA2: expressions over data. -/
namespace DL
open PySem PySem.Spec PyProof.Rows L2

section
variable {K : PySem.W.Frag} {B : Bx} {F I : Hp} {S : Sto} {σ : L2.St} {ρ : Ro} {H : Hp}
theorem Now.next (n : Now K B F I S σ ρ H) {I' : Hp} {S' : Sto} {H' : Hp} (e : Same I I') (r : Rep K B.T F I' S' H') : Now K B F I' S' σ ρ H' := ⟨n.fr, n.en.trans e, r, n.sl.mono e⟩
theorem Now.env (n : Now K B F I S σ ρ H) {I' : Hp} {S' : Sto} {H' : Hp} {σ' : L2.St} {ρ' : Ro} (e : Same I I') (r : Rep K B.T F I' S' H') (s : Slots K I' σ' ρ') : Now K B F I' S' σ' ρ' H' := ⟨n.fr, n.en.trans e, r, s⟩
theorem Now.here (n : Now K B F I S σ ρ H) {Φ : D → Sto → Prop} {v : V} {d : D} (h : Den K I v d) (q : Φ d S) : Aft K B F I Φ v H := ⟨I, S, d, Same.refl _, n.rep, h, q⟩
end
theorem Aft.from {K : PySem.W.Frag} {B : Bx} {F I I1 : Hp} {Φ : D → Sto → Prop} {v : V} {H' : Hp} (e : Same I I1) (h : Aft K B F I1 Φ v H') : Aft K B F I Φ v H' :=
  let ⟨I', S', d, a, b, c, q⟩ := h
  ⟨I', S', d, e.trans a, b, c, q⟩
theorem AftS.from {K : PySem.W.Frag} {B : Bx} {F I I1 : Hp} {Φ : Ro → Sto → Prop} {v : L2.St} {H' : Hp} (e : Same I I1) (h : AftS K B F I1 Φ v H') : AftS K B F I Φ v H' :=
  let ⟨I', S', d, a, b, c, q⟩ := h
  ⟨I', S', d, e.trans a, b, c, q⟩
theorem AftA.from {K : PySem.W.Frag} {B : Bx} {F I I1 : Hp} {n : Nat} {Φ : List D → Sto → Prop} {v : List V} {H' : Hp} (e : Same I I1) (h : AftA K B F I1 n Φ v H') : AftA K B F I n Φ v H' :=
  let ⟨I', S', d, a, b, c, q⟩ := h
  ⟨I', S', d, e.trans a, b, c, q⟩
theorem AftT.from {K : PySem.W.Frag} {B : Bx} {F I I1 : Hp} {Φ : Bool → Sto → Prop} {v : Bool} {H' : Hp} (e : Same I I1) (h : AftT K B F I1 Φ v H') : AftT K B F I Φ v H' :=
  let ⟨I', S', a, b, q⟩ := h
  ⟨I', S', e.trans a, b, q⟩

/-! ### names, constants -/
def wVar (i : Nat) : WE := fun _ ρ S Φ => match ρ[i]? with
  | some (some d) => Φ d S
  | _ => False
def wC (d : D) : WE := fun _ _ S Φ => Φ d S
section
variable {X : Cx} {B : Bx} {e a b c : Expr} {wa wb wc : WE} {pos : Pos}
theorem de_var (i : Nat) {x : Str} {pos : Pos} (hN : X.N[i]? = some x := by rfl) (hv : Vis X.env.scope x := by first | exact Or.inl rfl | exact Or.inr (Or.inl rfl) | exact Or.inr (Or.inr rfl)) (hd : (x == ("__debug__" : Str)) = false := by decide)
    (hcd : (x == ("__classdict__" : Str)) = false := by decide) : DE X B (.Name x pos) (wVar i) :=
  PE_imp (pe_var hN hv hd hcd) fun σ H Q ⟨F, I, S, ρ, Φ, n, hw, hq⟩ => by
    unfold wVar at hw
    split at hw
    · rename_i d e
      obtain ⟨v, e1, e2⟩ := n.sl.get i d e
      exact ⟨v, e1, hq _ _ (n.here e2 hw)⟩
    · exact hw.elim
theorem de_C {e : Expr} {v : V} {d : D} (h : PE X e (tC v)) (q : ∀ K I, Den K I v d) : DE X B e (wC d) := PE_imp h fun σ H Q ⟨F, I, S, ρ, Φ, n, hw, hq⟩ => hq _ _ (n.here (q _ _) hw)
theorem de_int {i j pos} : DE X B (.Constant (.int i) j pos) (wC (.int i)) := de_C pe_int fun _ _ => .int i
theorem de_bl {b j pos} : DE X B (.Constant (.bool b) j pos) (wC (.bl b)) := de_C pe_bl fun _ _ => .bl b
theorem de_non {j pos} : DE X B (.Constant .none j pos) (wC .non) := de_C pe_non fun _ _ => .non
theorem de_str {x j pos} : DE X B (.Constant (.str x) j pos) (wC (.str x)) := de_C pe_str fun _ _ => .str x
/-- a name of the module whose value is an int -/
theorem de_gint {x : Str} {i : Int} {t : Tok} {pos : Pos} (hg : Gl X x) (hm : X.mg x = some (.int i t)) (hd : (x == ("__debug__" : Str)) = false := by decide) : DE X B (.Name x pos) (wC (.int i)) :=
  de_C (pe_glob hg hm (v := .int i) ⟨_, rfl⟩ hd) fun _ _ => .int i
/-- a name of the module whose value stands in the written part -/
theorem de_gref {x : Str} {p : Addr} {d : D} {pos : Pos} (hg : Gl X x) (hm : X.mg x = some (.ref p)) (q : ∀ I, Den X.K I (.ref p) d) (hd : (x == ("__debug__" : Str)) = false := by decide) : DE X B (.Name x pos) (wC d) :=
  PE_imp (pe_glob hg hm (v := .ref p) rfl hd) fun σ H Q ⟨F, I, S, ρ, Φ, n, hw, hq⟩ => hq _ _ (n.here (q _) hw)

/-! ### operators -/
/-- what an operator's rule by values asks is had from the data -/
def BinR (K : PySem.W.Frag) (r : R2) (f : Sto → D → D → (D → Prop) → Prop) : Prop := ∀ (T : List (Addr × Str)) (F I H : Hp) (S : Sto) (x y : V) (a b : D) (Φ : D → Prop) (Q : VK), Rep K T F I S H → Den K I x a → Den K I y b → f S a b Φ →
  (∀ v H' I' d, Same I I' → Rep K T F I' S H' → Den K I' v d → Φ d → Q v H') → r x y H Q
def UnaR (K : PySem.W.Frag) (r : V → Hp → VK → Prop) (f : Sto → D → (D → Prop) → Prop) : Prop := ∀ (T : List (Addr × Str)) (F I H : Hp) (S : Sto) (x : V) (a : D) (Φ : D → Prop) (Q : VK), Rep K T F I S H → Den K I x a → f S a Φ →
  (∀ v H' I' d, Same I I' → Rep K T F I' S H' → Den K I' v d → Φ d → Q v H') → r x H Q
def FnR (K : PySem.W.Frag) (r : List V → Hp → VK → Prop) (f : Sto → List D → (D → Prop) → Prop) : Prop := ∀ (T : List (Addr × Str)) (F I H : Hp) (S : Sto) (xs : List V) (as : List D) (Φ : D → Prop) (Q : VK), Rep K T F I S H → DenA K I xs as → f S as Φ →
  (∀ v H' I' d, Same I I' → Rep K T F I' S H' → Den K I' v d → Φ d → Q v H') → r xs H Q
def wBin (f : Sto → D → D → (D → Prop) → Prop) (wa wb : WE) : WE := fun E ρ S Φ => wa E ρ S fun x S1 => wb E ρ S1 fun y S2 => f S2 x y fun z => Φ z S2
def wUna (f : Sto → D → (D → Prop) → Prop) (wa : WE) : WE := fun E ρ S Φ => wa E ρ S fun x S1 => f S1 x fun z => Φ z S1
theorem bin_read {r : R2} {f : Sto → D → D → (D → Prop) → Prop} (hr : BinR X.K r f) {σ : L2.St} {H : Hp} {Q : VK} (h : eT X.K B (wBin f wa wb) σ H Q) : tOp r (eT X.K B wa) (eT X.K B wb) σ H Q := by
  obtain ⟨F, I, S, ρ, Φ, n, hw, hq⟩ := h
  refine ⟨F, I, S, ρ, _, n, hw, ?_⟩
  rintro x H1 ⟨I1, S1, d1, e1, r1, q1, hw1⟩
  refine ⟨F, I1, S1, ρ, _, n.next e1 r1, hw1, ?_⟩
  rintro y H2 ⟨I2, S2, d2, e2, r2, q2, hf⟩
  refine hr _ _ _ _ _ _ _ _ _ _ _ r2 (q1.mono e2) q2 hf fun v H' I' d e3 r3 q3 hz => ?_
  exact hq _ _ ⟨I', S2, d, (e1.trans e2).trans e3, r3, q3, hz⟩
theorem de_op {op : Operator} {r : R2} {f : Sto → D → D → (D → Prop) → Prop} (ho : OpR X (binaryOp op) r) (hr : BinR X.K r f) (ha : DE X B a wa) (hb : DE X B b wb) : DE X B (.BinOp a op b pos) (wBin f wa wb) :=
  PE_imp (pe_op ho ha hb) fun σ H Q h => bin_read hr h
theorem de_un {op : UnaryOp} {r : V → Hp → VK → Prop} {f : Sto → D → (D → Prop) → Prop} (ho : UnR X (unaryOp op) r) (hr : UnaR X.K r f) (ha : DE X B a wa) : DE X B (.UnaryOp op a pos) (wUna f wa) :=
  PE_imp (pe_un ho ha) fun σ H Q ⟨F, I, S, ρ, Φ, n, hw, hq⟩ => by
    refine ⟨F, I, S, ρ, _, n, hw, ?_⟩
    rintro x H1 ⟨I1, S1, d1, e1, r1, q1, hw1⟩
    exact hr _ _ _ _ _ _ _ _ _ r1 q1 hw1 fun v H' I' d e3 r3 q3 hz => hq _ _ ⟨I', S1, d, e1.trans e3, r3, q3, hz⟩
theorem de_cmp {op : CmpOp} {r : R2} {f : Sto → D → D → (D → Prop) → Prop} (ho : OpR X (compareOp op) r) (hr : BinR X.K r f) (ha : DE X B a wa) (hb : DE X B b wb) (hm : behindInMarks op b = false) : DE X B (.Compare a [op] [b] pos) (wBin f wa wb) :=
  PE_imp (pe_cmpR ho ha hb hm) fun σ H Q h => bin_read hr h
/-- a value that is a bool, as a test -/
def wTst (w : WE) : WT := fun E ρ S Φ => w E ρ S fun d S1 => match d with
  | .bl b => Φ b S1
  | _ => False
theorem tst_read {w : WE} {t : TE} {σ : L2.St} {H : Hp} {Q : Bool → Hp → Prop} (imp : ∀ Q', eT X.K B w σ H Q' → t σ H Q') (h : tT X.K B (wTst w) σ H Q) : t σ H fun x H' => ∃ k, x = .bl k ∧ Q k H' := by
  obtain ⟨F, I, S, ρ, Φ, n, hw, hq⟩ := h
  refine imp _ ⟨F, I, S, ρ, _, n, hw, ?_⟩
  rintro x H1 ⟨I1, S1, d1, e1, r1, q1, hw1⟩
  cases q1 with
  | bl b => exact ⟨b, rfl, hq _ _ ⟨I1, S1, e1, r1, hw1⟩⟩
  | _ => exact hw1.elim
theorem dt_cmp {op : CmpOp} {r : R2} {f : Sto → D → D → (D → Prop) → Prop} (ho : OpR X (compareOp op) r) (hr : BinR X.K r f) (ha : DE X B a wa) (hb : DE X B b wb) (hm : behindInMarks op b = false) : DT X B (.Compare a [op] [b] pos) (wTst (wBin f wa wb)) :=
  PT_imp (pt_cmpR ho ha hb hm) fun σ H Q h => tst_read (fun Q' z => bin_read hr z) h
theorem dt_val {e : Expr} {w : WE} (h : DE X B e w) (he : ∀ whole, isTrue e X.env whole = (do let v ← whole; standAt e.pos; holding [v] (truthy v)) := by intro _; rfl) : DT X B e (wTst w) :=
  PT_imp (pt_val h he) fun σ H Q z => tst_read (fun Q' z => z) z
/-- a < b < c -/
def wChain (f g : Sto → D → D → (D → Prop) → Prop) (wa wb wc : WE) : WE := fun E ρ S Φ => wa E ρ S fun x S1 => wb E ρ S1 fun y S2 => f S2 x y fun z => match z with
  | .bl true => wc E ρ S2 fun u S3 => g S3 y u fun d => Φ d S3
  | .bl false => Φ (.bl false) S2
  | _ => False
theorem chain_read {r r' : R2} {f g : Sto → D → D → (D → Prop) → Prop} (hr : BinR X.K r f) (hr' : BinR X.K r' g) {σ : L2.St} {H : Hp} {Q : VK} (h : eT X.K B (wChain f g wa wb wc) σ H Q) : tChain r r' (eT X.K B wa) (eT X.K B wb) (eT X.K B wc) σ H Q := by
  obtain ⟨F, I, S, ρ, Φ, n, hw, hq⟩ := h
  refine ⟨F, I, S, ρ, _, n, hw, ?_⟩
  rintro x H1 ⟨I1, S1, d1, e1, r1, q1, hw1⟩
  refine ⟨F, I1, S1, ρ, _, n.next e1 r1, hw1, ?_⟩
  rintro y H2 ⟨I2, S2, d2, e2, r2, q2, hf⟩
  refine hr _ _ _ _ _ _ _ _ _ _ _ r2 (q1.mono e2) q2 hf fun v H' I' d e3 r3 q3 hz => ?_
  cases q3 with
  | bl b =>
    refine ⟨b, rfl, ?_⟩
    cases b with
    | false => exact iteF (hq _ _ ⟨I', S2, _, (e1.trans e2).trans e3, r3, .bl false, hz⟩)
    | true =>
      refine iteT ⟨F, I', S2, ρ, _, n.next ((e1.trans e2).trans e3) r3, hz, ?_⟩
      rintro u H4 ⟨I4, S4, d4, e4, r4, q4, hg⟩
      refine hr' _ _ _ _ _ _ _ _ _ _ _ r4 (q2.mono (e3.trans e4)) q4 hg fun v H' I' d e5 r5 q5 hz => ?_
      exact hq _ _ ⟨I', S4, d, (((e1.trans e2).trans e3).trans e4).trans e5, r5, q5, hz⟩
  | _ => exact hz.elim
theorem de_chain {op op' : CmpOp} {r r' : R2} {f g : Sto → D → D → (D → Prop) → Prop} (ho : OpR X (compareOp op) r) (ho' : OpR X (compareOp op') r') (hr : BinR X.K r f) (hr' : BinR X.K r' g) (ha : DE X B a wa) (hb : DE X B b wb) (hc : DE X B c wc)
    (hm : lastMarks [op, op'] [b, c] = false := by with_unfolding_all rfl) : DE X B (.Compare a [op, op'] [b, c] pos) (wChain f g wa wb wc) :=
  PE_imp (pe_chain ho ho' ha hb hc hm) fun σ H Q h => chain_read hr hr' h
theorem dt_chain {op op' : CmpOp} {r r' : R2} {f g : Sto → D → D → (D → Prop) → Prop} (ho : OpR X (compareOp op) r) (ho' : OpR X (compareOp op') r') (hr : BinR X.K r f) (hr' : BinR X.K r' g) (ha : DE X B a wa) (hb : DE X B b wb) (hc : DE X B c wc)
    (hm : lastMarks [op, op'] [b, c] = false := by with_unfolding_all rfl) : DT X B (.Compare a [op, op'] [b, c] pos) (wTst (wChain f g wa wb wc)) :=
  PT_imp (pt_chain ho ho' ha hb hc hm) fun σ H Q h => tst_read (fun Q' z => chain_read hr hr' z) h

/-! ### and, or, not, if -/
def wAndT (t u : WT) : WT := fun E ρ S Φ => t E ρ S fun c S1 => if c = true then u E ρ S1 Φ else Φ false S1
def wOrT (t u : WT) : WT := fun E ρ S Φ => t E ρ S fun c S1 => if c = true then Φ true S1 else u E ρ S1 Φ
def wNotT (t : WT) : WT := fun E ρ S Φ => t E ρ S fun c S1 => Φ (!c) S1
variable {ta tb : WT} {rest : List Expr}
theorem dw_pt (h : DW X B e ta) : DT X B e ta := PW.pt h
theorem dw_and1 (h : DT X B a ta) : DW X B (.BoolOp .And [a] pos) ta := pw_and1 h
theorem dw_or1 (h : DT X B a ta) : DW X B (.BoolOp .Or [a] pos) ta := pw_or1 h
theorem dw_and (ha : DT X B a ta) (hb : DW X B (.BoolOp .And (b :: rest) pos) tb) : DW X B (.BoolOp .And (a :: b :: rest) pos) (wAndT ta tb) :=
  PW_imp (pw_and ha hb) fun σ H Q ⟨F, I, S, ρ, Φ, n, hw, hq⟩ => by
    refine ⟨F, I, S, ρ, _, n, hw, ?_⟩
    rintro k H1 ⟨I1, S1, e1, r1, hw1⟩
    cases k with
    | true => exact iteT ⟨F, I1, S1, ρ, _, n.next e1 r1, (by simpa using hw1), fun k2 H2 h2 => hq _ _ (h2.from e1)⟩
    | false => exact iteF (hq _ _ ⟨I1, S1, e1, r1, by simpa using hw1⟩)
theorem dw_or (ha : DT X B a ta) (hb : DW X B (.BoolOp .Or (b :: rest) pos) tb) : DW X B (.BoolOp .Or (a :: b :: rest) pos) (wOrT ta tb) :=
  PW_imp (pw_or ha hb) fun σ H Q ⟨F, I, S, ρ, Φ, n, hw, hq⟩ => by
    refine ⟨F, I, S, ρ, _, n, hw, ?_⟩
    rintro k H1 ⟨I1, S1, e1, r1, hw1⟩
    cases k with
    | false => exact iteF ⟨F, I1, S1, ρ, _, n.next e1 r1, (by simpa using hw1), fun k2 H2 h2 => hq _ _ (h2.from e1)⟩
    | true => exact iteT (hq _ _ ⟨I1, S1, e1, r1, by simpa using hw1⟩)
theorem dt_not (ha : DT X B a ta) : DT X B (.UnaryOp .Not a pos) (wNotT ta) :=
  PT_imp (pt_not ha) fun σ H Q ⟨F, I, S, ρ, Φ, n, hw, hq⟩ => by
    refine ⟨F, I, S, ρ, _, n, hw, ?_⟩
    rintro k H1 ⟨I1, S1, e1, r1, hw1⟩
    exact hq _ _ ⟨I1, S1, e1, r1, hw1⟩
/-- the same as values: all but the last are bools -/
def wAnd (wa wb : WE) : WE := fun E ρ S Φ => wa E ρ S fun x S1 => match x with
  | .bl true => wb E ρ S1 Φ
  | .bl false => Φ (.bl false) S1
  | _ => False
def wOr (wa wb : WE) : WE := fun E ρ S Φ => wa E ρ S fun x S1 => match x with
  | .bl true => Φ (.bl true) S1
  | .bl false => wb E ρ S1 Φ
  | _ => False
def wNot (wa : WE) : WE := fun E ρ S Φ => wa E ρ S fun x S1 => match x with
  | .bl b => Φ (.bl (!b)) S1
  | _ => False
theorem de_one {op} (h : DE X B a wa) : DE X B (.BoolOp op [a] pos) wa := pe_one h
theorem de_and (ha : DE X B a wa) (hb : DE X B (.BoolOp .And (b :: rest) pos) wb) : DE X B (.BoolOp .And (a :: b :: rest) pos) (wAnd wa wb) :=
  PE_imp (pe_and ha hb) fun σ H Q ⟨F, I, S, ρ, Φ, n, hw, hq⟩ => by
    refine ⟨F, I, S, ρ, _, n, hw, ?_⟩
    rintro x H1 ⟨I1, S1, d1, e1, r1, q1, hw1⟩
    cases q1 with
    | bl k =>
      refine ⟨k, rfl, ?_⟩
      cases k with
      | true => exact iteT ⟨F, I1, S1, ρ, _, n.next e1 r1, hw1, fun k2 H2 h2 => hq _ _ (h2.from e1)⟩
      | false => exact iteF (hq _ _ ⟨I1, S1, _, e1, r1, .bl false, hw1⟩)
    | _ => exact hw1.elim
theorem de_or (ha : DE X B a wa) (hb : DE X B (.BoolOp .Or (b :: rest) pos) wb) : DE X B (.BoolOp .Or (a :: b :: rest) pos) (wOr wa wb) :=
  PE_imp (pe_or ha hb) fun σ H Q ⟨F, I, S, ρ, Φ, n, hw, hq⟩ => by
    refine ⟨F, I, S, ρ, _, n, hw, ?_⟩
    rintro x H1 ⟨I1, S1, d1, e1, r1, q1, hw1⟩
    cases q1 with
    | bl k =>
      refine ⟨k, rfl, ?_⟩
      cases k with
      | false => exact iteF ⟨F, I1, S1, ρ, _, n.next e1 r1, hw1, fun k2 H2 h2 => hq _ _ (h2.from e1)⟩
      | true => exact iteT (hq _ _ ⟨I1, S1, _, e1, r1, .bl true, hw1⟩)
    | _ => exact hw1.elim
theorem de_not (ha : DE X B a wa) : DE X B (.UnaryOp .Not a pos) (wNot wa) :=
  PE_imp (pe_not ha) fun σ H Q ⟨F, I, S, ρ, Φ, n, hw, hq⟩ => by
    refine ⟨F, I, S, ρ, _, n, hw, ?_⟩
    rintro x H1 ⟨I1, S1, d1, e1, r1, q1, hw1⟩
    cases q1 with
    | bl k => exact ⟨k, rfl, hq _ _ ⟨I1, S1, _, e1, r1, .bl _, hw1⟩⟩
    | _ => exact hw1.elim
def wIf (t : WT) (wa wb : WE) : WE := fun E ρ S Φ => t E ρ S fun c S1 => if c = true then wa E ρ S1 Φ else wb E ρ S1 Φ
theorem de_if {c : Expr} (hc : DT X B c ta) (ha : DE X B a wa) (hb : DE X B b wb) : DE X B (.IfExp c a b pos) (wIf ta wa wb) :=
  PE_imp (pe_ifExp hc ha hb) fun σ H Q ⟨F, I, S, ρ, Φ, n, hw, hq⟩ => by
    refine ⟨F, I, S, ρ, _, n, hw, ?_⟩
    rintro k H1 ⟨I1, S1, e1, r1, hw1⟩
    cases k with
    | true => exact iteT ⟨F, I1, S1, ρ, _, n.next e1 r1, (by simpa using hw1), fun k2 H2 h2 => hq _ _ (h2.from e1)⟩
    | false => exact iteF ⟨F, I1, S1, ρ, _, n.next e1 r1, (by simpa using hw1), fun k2 H2 h2 => hq _ _ (h2.from e1)⟩

/-! ### arguments, displays -/
def wNil : WA := fun _ _ S Φ => Φ [] S
def wCons (wa : WE) (wr : WA) : WA := fun E ρ S Φ => wa E ρ S fun x S1 => wr E ρ S1 fun xs S2 => Φ (x :: xs) S2
variable {es : List Expr} {n : Nat} {ws : WA}
theorem da_nil : DA X B [] 0 wNil := PA_imp pa_nil fun σ H Q ⟨F, I, S, ρ, Φ, n, hw, hq⟩ => hq _ _ ⟨I, S, [], Same.refl _, n.rep, .nil, rfl, hw⟩
theorem da_cons (ha : DE X B e wa) (hr : DA X B es n ws) (hs : starEach (e :: es) X.env = (false, eval e X.env) :: starEach es X.env := by rfl) : DA X B (e :: es) (n + 1) (wCons wa ws) :=
  PA_imp (pa_cons ha hr hs) fun σ H Q ⟨F, I, S, ρ, Φ, n, hw, hq⟩ => by
    refine ⟨F, I, S, ρ, _, n, hw, ?_⟩
    rintro x H1 ⟨I1, S1, d1, e1, r1, q1, hw1⟩
    refine ⟨F, I1, S1, ρ, _, n.next e1 r1, hw1, ?_⟩
    rintro xs H2 ⟨I2, S2, ds, e2, r2, q2, hl, hw2⟩
    exact hq _ _ ⟨I2, S2, d1 :: ds, e1.trans e2, r2, .cons (q1.mono e2) q2, by simp [hl], hw2⟩
def wTup (ws : WA) : WE := fun E ρ S Φ => ws E ρ S fun ds S1 => Φ (.tup ds) S1
def wLst (ws : WA) : WE := fun E ρ S Φ => ws E ρ S fun ds S1 => Φ (.lst ds) S1
theorem nt_tup {xs : List V} : ∀ ps, HO.tup xs ≠ .tbl ps := fun _ z => nomatch z
theorem nt_lst {xs : List V} : ∀ ps, HO.lst xs ≠ .tbl ps := fun _ z => nomatch z
theorem de_tup {x1} (h : DA X B es n ws) (hn : n ≤ sizeLine := by decide) : DE X B (.Tuple es x1 pos) (wTup ws) :=
  PE_imp (pe_tup h) fun σ H Q ⟨F, I, S, ρ, Φ, n, hw, hq⟩ => by
    refine ⟨F, I, S, ρ, _, n, hw, ?_⟩
    rintro xs H1 ⟨I1, S1, ds, e1, r1, q1, hl, hw1⟩
    refine ⟨by rw [q1.length, hl]; exact hn, fun p hp => hq _ _ ⟨_, S1, .tup ds, e1.trans (r1.same hp), r1.new hp nt_tup, .tup (.of upd_same) (q1.mono (r1.same hp)), hw1⟩⟩
theorem de_lst (h : DA X B es n ws) (hn : n ≤ sizeLine := by decide) : DE X B (.List es pos) (wLst ws) :=
  PE_imp (pe_lst h) fun σ H Q ⟨F, I, S, ρ, Φ, n, hw, hq⟩ => by
    refine ⟨F, I, S, ρ, _, n, hw, ?_⟩
    rintro xs H1 ⟨I1, S1, ds, e1, r1, q1, hl, hw1⟩
    refine ⟨by rw [q1.length, hl]; exact hn, fun p hp => hq _ _ ⟨_, S1, .lst ds, e1.trans (r1.same hp), r1.new hp nt_lst, .lst (.of upd_same) (q1.mono (r1.same hp)), hw1⟩⟩
/-- a list that will be filled -/
def wLstM (ws : WA) : WE := fun E ρ S Φ => ws E ρ S fun ds S1 => ∀ p, S1 p = none → Φ (.ptr p) (sput S1 p (.lst ds))
theorem Rep.newM {K : PySem.W.Frag} {T : List (Addr × Str)} {F I : Hp} {S : Sto} {H : Hp} (r : Rep K T F I S H) {p : Addr} {o : HO} {m : MO} (h : H p = none) (nt : ∀ ps, o ≠ .tbl ps) (q : MOk K I (upd H p o) p m) : Rep K T F I (sput S p m) (upd H p o) where
  imm := fun b u e => by rw [upd_ne (ne_of_none e (r.freeI h))]; exact r.imm b u e
  frm := fun a u e => by rw [upd_ne (ne_of_none e (r.freeF h))]; exact r.frm a u e
  mto := fun a m' e => by
    by_cases hb : a = p
    · subst hb
      rw [sput_same] at e
      cases e
      exact ⟨r.freeI h, r.freeF h, q⟩
    · rw [sput_ne hb] at e
      obtain ⟨e1, e2, e3⟩ := r.mto a m' e
      exact ⟨e1, e2, e3.mono (Same.refl _) fun o q => by rw [upd_ne hb]; exact q⟩
  tab := r.tab.ext fun b u e => by rw [upd_ne (ne_of_none e h)]; exact e
  ntb := r.ntb
theorem de_lstM (h : DA X B es n ws) (hn : n ≤ sizeLine := by decide) : DE X B (.List es pos) (wLstM ws) :=
  PE_imp (pe_lst h) fun σ H Q ⟨F, I, S, ρ, Φ, n, hw, hq⟩ => by
    refine ⟨F, I, S, ρ, _, n, hw, ?_⟩
    rintro xs H1 ⟨I1, S1, ds, e1, r1, q1, hl, hw1⟩
    exact ⟨by rw [q1.length, hl]; exact hn, fun p hp => hq _ _ ⟨I1, sput S1 p (.lst ds), .ptr p, e1, r1.newM (m := .lst ds) hp nt_lst ⟨xs, upd_same, q1⟩, .ptr p, hw1 p (r1.freeS hp)⟩⟩
end
end DL

set_option maxRecDepth 100000
set_option maxHeartbeats 4000000
/-! DA3: the operators and built-ins by data. -/
namespace DL
open PySem PySem.Spec PyProof.Rows L2

/-! ### data as the library's plain data -/
mutual
def py : D → PyData
  | .non => .none
  | .bl b => .bool b
  | .int i => .int i
  | .str x => .str x
  | .tup xs => .tuple (pyA xs)
  | .lst xs => .list (pyA xs)
  | .ptr _ => .none
  | .ty _ => .none
  | .drum => .none
  | .exc _ _ => .none
  | .lim _ _ => .none
def pyA : List D → List PyData
  | [] => []
  | x :: xs => py x :: pyA xs
end
mutual
def plainD : D → Bool
  | .non => true
  | .bl _ => true
  | .int _ => true
  | .str _ => true
  | .tup xs => plainA xs
  | .lst xs => plainA xs
  | .ptr _ => false
  | .ty _ => false
  | .drum => false
  | .exc _ _ => false
  | .lim _ _ => false
def plainA : List D → Bool
  | [] => true
  | x :: xs => plainD x && plainA xs
end
mutual
theorem dp_of {K : PySem.W.Frag} {I : Hp} : ∀ {v : V} {d : D}, Den K I v d → plainD d = true → Dp K I v (py d)
  | _, _, .non, _ => by rw [py]; exact .non
  | _, _, .bl b, _ => by rw [py]; exact .bl b
  | _, _, .int i, _ => by rw [py]; exact .int i
  | _, _, .str x, _ => by rw [py]; exact .str x
  | _, _, .tup h r, p => by rw [py]; rw [plainD] at p; exact .tup h (dpA_of r p)
  | _, _, .lst h r, p => by rw [py]; rw [plainD] at p; exact .lst (.inl h) (dpA_of r p)
  | _, _, .ptr a, p => by rw [plainD] at p; cases p
  | _, _, .ty a, p => by rw [plainD] at p; cases p
  | _, _, .drum h, p => by rw [plainD] at p; cases p
  | _, _, .exc _ _ _, p => by rw [plainD] at p; cases p
  | _, _, .lim _ _ _, p => by rw [plainD] at p; cases p
theorem dpA_of {K : PySem.W.Frag} {I : Hp} : ∀ {vs : List V} {ds : List D}, DenA K I vs ds → plainA ds = true → DpAll K I vs (pyA ds)
  | _, _, .nil, _ => by rw [pyA]; exact .nil
  | _, _, .cons h r, p => by
    rw [plainA, Bool.and_eq_true] at p
    rw [pyA]
    exact .cons (dp_of h p.1) (dpA_of r p.2)
end
mutual
theorem Dp_mono {K : PySem.W.Frag} {I I' : Hp} (e : Same I I') : ∀ {v : V} {d : PyData}, Dp K I v d → Dp K I' v d
  | _, _, .non => .non
  | _, _, .bl b => .bl b
  | _, _, .int i => .int i
  | _, _, .str x => .str x
  | _, _, .lst h r => .lst (e.seq h) (DpAll_mono e r)
  | _, _, .tup h r => .tup (seqT e h) (DpAll_mono e r)
theorem DpAll_mono {K : PySem.W.Frag} {I I' : Hp} (e : Same I I') : ∀ {vs : List V} {ds : List PyData}, DpAll K I vs ds → DpAll K I' vs ds
  | _, _, .nil => .nil
  | _, _, .cons h r => .cons (Dp_mono e h) (DpAll_mono e r)
end
/-- what may be compared -/
def okD (d : D) : Bool := plainD d && SeqAt.shaped (py d)
def eqD (a b : D) : Bool := PyData.eqv (py a) (py b)
theorem Rep.dp {K : PySem.W.Frag} {T : List (Addr × Str)} {F I : Hp} {S : Sto} {H : Hp} (r : Rep K T F I S H) {v : V} {d : D} (h : Den K I v d) (p : plainD (res S d) = true) : Dp K H v (py (res S d)) := by
  cases h with
  | ptr a =>
    unfold res at p ⊢
    dsimp only at p ⊢
    split
    · rename_i ds q
      rw [q] at p
      obtain ⟨xs, e1, e2⟩ := (r.mto a _ q).2.2
      rw [py]
      dsimp only at p
      rw [plainD] at p
      exact .lst (.of e1) (DpAll_mono r.imm (dpA_of e2 p))
    · rename_i q
      split at p
      · rename_i ds q2
        exact absurd q2 (q ds)
      · rw [plainD] at p; cases p
  | non => exact Dp_mono r.imm (dp_of .non p)
  | bl b => exact Dp_mono r.imm (dp_of (.bl b) p)
  | int b => exact Dp_mono r.imm (dp_of (.int b) p)
  | str b => exact Dp_mono r.imm (dp_of (.str b) p)
  | tup h1 h2 => exact Dp_mono r.imm (dp_of (.tup h1 h2) p)
  | lst h1 h2 => exact Dp_mono r.imm (dp_of (.lst h1 h2) p)
  | ty b => exact absurd (show plainD (.ty _) = true from p) (by rw [plainD]; decide)
  | drum b => exact absurd (show plainD .drum = true from p) (by rw [plainD]; decide)
  | exc g b c => exact absurd (show plainD (.exc _ _) = true from p) (by rw [plainD]; decide)
  | lim g b c => exact absurd (show plainD (.lim _ _) = true from p) (by rw [plainD]; decide)

/-! ### + - * // % ** and order -/
def num : D → Option Int
  | .int i => some i
  | .bl b => some (if b = true then 1 else 0)
  | _ => none
def fAdd (S : Sto) (x y : D) (Φ : D → Prop) : Prop := match res S x, res S y with
  | .int i, .int j => Φ (.int (i + j))
  | .int i, .bl b => Φ (.int (i + if b = true then 1 else 0))
  | .bl b, .int j => Φ (.int ((if b = true then 1 else 0) + j))
  | .str a, .str b => a.length + b.length ≤ sizeLine ∧ Φ (.str (a ++ b))
  | .tup a, .tup b => a.length + b.length ≤ sizeLine ∧ Φ (.tup (a ++ b))
  | .lst a, .lst b => a.length + b.length ≤ sizeLine ∧ Φ (.lst (a ++ b))
  | _, _ => False
def fSub (_ : Sto) (x y : D) (Φ : D → Prop) : Prop := match x, y with
  | .int i, .int j => Φ (.int (i - j))
  | .int i, .bl b => Φ (.int (i - if b = true then 1 else 0))
  | .bl b, .int j => Φ (.int ((if b = true then 1 else 0) - j))
  | _, _ => False
/-- two ints whose product the rule serves -/
def MulOk (i j : Int) : Prop := IntMulOk i j
def fMul (S : Sto) (x y : D) (Φ : D → Prop) : Prop := match res S x, res S y with
  | .int i, .int j => MulOk i j ∧ Φ (.int (i * j))
  | .lst a, .int k => (-(2 ^ 63) ≤ k ∧ k < 2 ^ 63 ∧ a.length * k.toNat ≤ sizeLine) ∧ Φ (.lst (List.replicate k.toNat a).flatten)
  | _, _ => False
/-- a divisor that the rule serves -/
def DivOk (j : Int) : Prop := j ≠ 0 ∧ j.natAbs.log2 < 9000
def fDiv (_ : Sto) (x y : D) (Φ : D → Prop) : Prop := match x, y with
  | .int i, .int j => DivOk j ∧ Φ (.int (i.fdiv j))
  | _, _ => False
def fMod (_ : Sto) (x y : D) (Φ : D → Prop) : Prop := match x, y with
  | .int i, .int j => j ≠ 0 ∧ Φ (.int (i.fmod j))
  | _, _ => False
def fPow (_ : Sto) (x y : D) (Φ : D → Prop) : Prop := match x, y with
  | .int i, .int j => CPow i j ∧ Φ (.int (i ^ j.toNat))
  | _, _ => False
def fNeg (_ : Sto) (x : D) (Φ : D → Prop) : Prop := match x with
  | .int i => Φ (.int (-i))
  | _ => False
def fOrd (p : Int → Int → Bool) (_ : Sto) (x y : D) (Φ : D → Prop) : Prop := match x, y with
  | .int i, .int j => Φ (.bl (p i j))
  | _, _ => False
def fEq (S : Sto) (x y : D) (Φ : D → Prop) : Prop := okD (res S x) = true ∧ okD (res S y) = true ∧ Φ (.bl (eqD (res S x) (res S y)))
def fNe (S : Sto) (x y : D) (Φ : D → Prop) : Prop := okD (res S x) = true ∧ okD (res S y) = true ∧ Φ (.bl (!eqD (res S x) (res S y)))
def fIsN (_ : Sto) (x y : D) (Φ : D → Prop) : Prop := match y with
  | .non => Φ (.bl (match x with | .non => true | _ => false))
  | _ => False
def fNotN (_ : Sto) (x y : D) (Φ : D → Prop) : Prop := match y with
  | .non => Φ (.bl (match x with | .non => false | _ => true))
  | _ => False
def fIsB (_ : Sto) (x y : D) (Φ : D → Prop) : Prop := match x, y with
  | .bl a, .bl b => Φ (.bl (decide (a = b)))
  | _, _ => False
def fNotB (_ : Sto) (x y : D) (Φ : D → Prop) : Prop := match x, y with
  | .bl a, .bl b => Φ (.bl (!decide (a = b)))
  | _, _ => False
section
variable {X : Cx}
def rLs : R2 := fun x y H Q => ∃ l b xs zs, x = .ref l ∧ y = .ref b ∧ Rd H l (.lst xs) ∧ Rd H b (.lst zs) ∧ xs.length + zs.length ≤ sizeLine ∧ ∀ p, H p = none → Q (.ref p) (upd H p (.lst (xs ++ zs)))
def rAddIB : R2 := fun x y H Q => ∃ i k, x = .int i ∧ y = .bl k ∧ Q (.int (i + if k = true then 1 else 0)) H
def rAddBI : R2 := fun x y H Q => ∃ i k, x = .bl k ∧ y = .int i ∧ Q (.int ((if k = true then 1 else 0) + i)) H
def rSubIB : R2 := fun x y H Q => ∃ i k, x = .int i ∧ y = .bl k ∧ Q (.int (i - if k = true then 1 else 0)) H
def rSubBI : R2 := fun x y H Q => ∃ i k, x = .bl k ∧ y = .int i ∧ Q (.int ((if k = true then 1 else 0) - i)) H
theorem op_addIB : OpR X (binaryOp .Add) rAddIB := by
  intro pins s σ H x y v u Q I rx ry h
  obtain ⟨i, k, rfl, rfl, q⟩ := h
  obtain ⟨t, rfl⟩ := rx
  cases ry
  exact add_int_bool ⟨.int _, H, I.tok _, ⟨_, rfl⟩, q⟩
theorem op_addBI : OpR X (binaryOp .Add) rAddBI := by
  intro pins s σ H x y v u Q I rx ry h
  obtain ⟨i, k, rfl, rfl, q⟩ := h
  obtain ⟨t, rfl⟩ := ry
  cases rx
  exact PySem.IntBool.add_bool_int ⟨.int _, H, I.tok _, ⟨_, rfl⟩, q⟩
theorem op_subIB : OpR X (binaryOp .Sub) rSubIB := by
  intro pins s σ H x y v u Q I rx ry h
  obtain ⟨i, k, rfl, rfl, q⟩ := h
  obtain ⟨t, rfl⟩ := rx
  cases ry
  exact PySem.IntBool.sub_int_bool ⟨.int _, H, I.tok _, ⟨_, rfl⟩, q⟩
theorem op_subBI : OpR X (binaryOp .Sub) rSubBI := by
  intro pins s σ H x y v u Q I rx ry h
  obtain ⟨i, k, rfl, rfl, q⟩ := h
  obtain ⟨t, rfl⟩ := ry
  cases rx
  exact PySem.IntBool.sub_bool_int ⟨.int _, H, I.tok _, ⟨_, rfl⟩, q⟩
theorem op_catR : OpR X (binaryOp .Add) rLs := by
  intro pins s σ H x y v u Q I rx ry h
  obtain ⟨l, b, xs, zs, rfl, rfl, hx, hy, hz, q⟩ := h
  cases rx
  cases ry
  obtain ⟨z1, its, n, r1, e1⟩ := hx.ok I.hok
  obtain ⟨z2, its2, n2, r2, e2⟩ := hy.ok I.hok
  have l1 := r1.length
  have l2 := r2.length
  refine PySem.P.add_list e1 e2 ?_ (by rw [List.size_toArray, List.size_toArray]; omega)
  rw [show its.toArray ++ its2.toArray = (its ++ its2).toArray from by simp]
  exact ⟨.ref _, _, I.lnew (t' := s.toks) (r1.append r2) (by rw [List.length_append]; exact hz), rfl, q _ I.fresh⟩
/-- a list times an int -/
def rRepR : R2 := fun x y H Q => ∃ l k xs, x = .ref l ∧ y = .int k ∧ Rd H l (.lst xs) ∧ (-(2 ^ 63) ≤ k ∧ k < 2 ^ 63 ∧ xs.length * k.toNat ≤ sizeLine) ∧
  ∀ p, H p = none → Q (.ref p) (upd H p (.lst (List.replicate k.toNat xs).flatten))
theorem op_repR : OpR X (binaryOp .Mult) rRepR := by
  intro pins s σ H x y v u Q I rx ry h
  obtain ⟨l, k, xs, rfl, rfl, hx, ⟨h1, h2, hz⟩, q⟩ := h
  cases rx
  obtain ⟨t, rfl⟩ := ry
  obtain ⟨z1, its, n, r1, e⟩ := hx.ok I.hok
  have l1 := r1.length
  have g1 : its.toArray.size * k.toNat ≤ sizeLine := by rw [List.size_toArray, ← l1]; exact hz
  have g2 : ¬ its.toArray.size * k.toNat > (2 ^ 63 - 1) / 8 := by
    have g : (sizeLine : Nat) ≤ (2 ^ 63 - 1) / 8 := by decide
    omega
  have g3 : ¬ (!Builtin.List.listFitsIndex k) = true := by rw [fitsIndex_both h1 h2]; decide
  have g4 : ¬ Builtin.List.listTooLong (its.toArray.size * k.toNat) = true := by rw [notLongL g1]; decide
  have g5 : List.foldl (fun x1 x2 => x1 ++ x2) #[] (List.replicate (if its.toArray.isEmpty = true then 0 else k.toNat) its.toArray) = (List.replicate k.toNat its).flatten.toArray := by
    have f0 : ∀ m : Nat, List.foldl (fun x1 x2 => x1 ++ x2) #[] (List.replicate m its.toArray) = (List.replicate m its).flatten.toArray := fun m => by
      have z := foldl_rep its m []
      rwa [List.nil_append] at z
    rw [f0]
    cases its with
    | nil => simp
    | cons a r' => rw [if_neg (by simp)]
  refine wpAny_binaryOp_repeat_ref (T := "list") (U := "int") (by decide) ⟨_, e, rfl⟩ (fun s' => typeIs_int s' k t) noFill_list_mul F.fills_int_mul F.slot_int_rmul repeat_list
    F.slot_int_index.lookup (call_meets F.slot_int_rmul (typeIs_int s k t) F.entry_int_rmul (F.args_int_rmul_2 _ _) (int___rmul___int_list k t l its.toArray n) ⟨e, rfl, ⟨_, e, rfl⟩,
    call_meets F.slot_list_mul ⟨_, e, rfl⟩ F.entry_list_mul (F.args_list_mul_2 _ _) (AutoListH.list___mul___list_int_3 l its.toArray n k t g3 g2 g4) ⟨e, ?_⟩⟩)
  rw [g5]
  exact ⟨.ref _, _, I.lnew (t' := s.toks) (r1.rep k.toNat) (by rw [PyProof.Rows.lm_len_rep_flat, Nat.mul_comm]; exact hz), rfl, q _ I.fresh⟩
theorem op_mulA : OpR X (binaryOp .Mult) (rI IntMulOk fun i j => .int (i * j)) := opI fun _ _ _ _ _ _ _ hc q => mul_int q hc
theorem op_divA : OpR X (binaryOp .FloorDiv) (rI (fun _ j => DivOk j) fun i j => .int (i.fdiv j)) := opI fun _ _ _ _ _ _ _ hc q => floordiv_int hc.1 q (.inl (PyProof.noPylong_of_log2 hc.2))

def rAddA : R2 := fun x y H Q => rI0 (fun i j => .int (i + j)) x y H Q ∨ rAddIB x y H Q ∨ rAddBI x y H Q ∨ (∃ i j, x = .str i ∧ y = .str j ∧ i.length + j.length ≤ sizeLine ∧ Q (.str (i ++ j)) H) ∨ rLs x y H Q
def rAddK (K : PySem.W.Frag) : R2 := fun x y H Q => rAddA x y H Q ∨ rCatA K x y H Q
theorem op_addD : OpR X (binaryOp .Add) (rAddK X.K) := OpR.or (op_add.or (op_addIB.or (op_addBI.or (op_add_str.or op_catR)))) op_catA
theorem op_subD : OpR X (binaryOp .Sub) (fun x y H Q => rI0 (fun i j => .int (i - j)) x y H Q ∨ rSubIB x y H Q ∨ rSubBI x y H Q) := op_sub.or (op_subIB.or op_subBI)
theorem op_mulD : OpR X (binaryOp .Mult) (fun x y H Q => rI IntMulOk (fun i j => .int (i * j)) x y H Q ∨ rRepR x y H Q) := op_mulA.or op_repR
end
section
variable {K : PySem.W.Frag}
theorem res_int {S : Sto} {x : D} {i : Int} (h : res S x = .int i) : x = .int i := by
  cases x <;> first | exact h | (unfold res at h; dsimp only at h; split at h <;> cases h)
theorem res_bl {S : Sto} {x : D} {i : Bool} (h : res S x = .bl i) : x = .bl i := by
  cases x <;> first | exact h | (unfold res at h; dsimp only at h; split at h <;> cases h)
theorem res_str {S : Sto} {x : D} {i : Str} (h : res S x = .str i) : x = .str i := by
  cases x <;> first | exact h | (unfold res at h; dsimp only at h; split at h <;> cases h)
theorem res_tup {S : Sto} {x : D} {i : List D} (h : res S x = .tup i) : x = .tup i := by
  cases x <;> first | exact h | (unfold res at h; dsimp only at h; split at h <;> cases h)
theorem br_add : BinR K (rAddK K) fAdd := by
  intro T F I H S x y a b Φ Q r ha hb hf hq
  unfold fAdd at hf
  split at hf
  · rename_i i j e1 e2
    cases res_int e1
    cases res_int e2
    cases ha
    cases hb
    exact .inl (.inl ⟨i, j, rfl, rfl, hq _ _ I _ (Same.refl _) r (.int _) hf⟩)
  · rename_i i j e1 e2
    cases res_int e1
    cases res_bl e2
    cases ha
    cases hb
    exact .inl (.inr (.inl ⟨i, j, rfl, rfl, hq _ _ I _ (Same.refl _) r (.int _) hf⟩))
  · rename_i i j e1 e2
    cases res_bl e1
    cases res_int e2
    cases ha
    cases hb
    exact .inl (.inr (.inr (.inl ⟨j, i, rfl, rfl, hq _ _ I _ (Same.refl _) r (.int _) hf⟩)))
  · rename_i i j e1 e2
    cases res_str e1
    cases res_str e2
    cases ha
    cases hb
    exact .inl (.inr (.inr (.inr (.inl ⟨i, j, rfl, rfl, hf.1, hq _ _ I _ (Same.refl _) r (.str _) hf.2⟩))))
  · rename_i i j e1 e2
    cases res_tup e1
    cases res_tup e2
    obtain ⟨l, xs, rfl, h1, h2⟩ := r.tup ha
    obtain ⟨m, ys, rfl, h3, h4⟩ := r.tup hb
    have l1 := h2.length
    have l2 := h4.length
    refine .inr ⟨l, m, xs, ys, rfl, rfl, h1, h3, by omega, fun z => ?_, fun _ z => ?_, fun _ _ p hp => ?_⟩
    · subst z
      have z : i = [] := by simpa using l1.symm
      subst z
      exact hq _ _ I _ (Same.refl _) r hb hf.2
    · subst z
      have z : j = [] := by simpa using l2.symm
      subst z
      rw [List.append_nil] at hf
      exact hq _ _ I _ (Same.refl _) r ha hf.2
    · exact hq _ _ _ _ (r.same hp) (r.new hp nt_tup) (.tup (.of upd_same) ((h2.app h4).mono (r.same hp))) hf.2
  · rename_i i j e1 e2
    obtain ⟨l, xs, rfl, h1, h2⟩ := r.lst ha e1
    obtain ⟨m, ys, rfl, h3, h4⟩ := r.lst hb e2
    have l1 := h2.length
    have l2 := h4.length
    exact .inl (.inr (.inr (.inr (.inr ⟨l, m, xs, ys, rfl, rfl, h1, h3, by omega, fun p hp => hq _ _ _ _ (r.same hp) (r.new hp nt_lst) (.lst (.inl upd_same) ((h2.app h4).mono (r.same hp))) hf.2⟩))))
  · exact hf.elim
theorem br_sub : BinR K (fun x y H Q => rI0 (fun i j => .int (i - j)) x y H Q ∨ rSubIB x y H Q ∨ rSubBI x y H Q) fSub := by
  intro T F I H S x y a b Φ Q r ha hb hf hq
  unfold fSub at hf
  split at hf
  · cases ha; cases hb; exact .inl ⟨_, _, rfl, rfl, hq _ _ I _ (Same.refl _) r (.int _) hf⟩
  · cases ha; cases hb; exact .inr (.inl ⟨_, _, rfl, rfl, hq _ _ I _ (Same.refl _) r (.int _) hf⟩)
  · cases ha; cases hb; exact .inr (.inr ⟨_, _, rfl, rfl, hq _ _ I _ (Same.refl _) r (.int _) hf⟩)
  · exact hf.elim
theorem br_mul : BinR K (fun x y H Q => rI IntMulOk (fun i j => .int (i * j)) x y H Q ∨ rRepR x y H Q) fMul := by
  intro T F I H S x y a b Φ Q r ha hb hf hq
  unfold fMul at hf
  split at hf
  · rename_i i j e1 e2
    cases res_int e1
    cases res_int e2
    cases ha; cases hb; exact .inl ⟨_, _, rfl, rfl, hf.1, hq _ _ I _ (Same.refl _) r (.int _) hf.2⟩
  · rename_i i j e1 e2
    cases res_int e2
    cases hb
    obtain ⟨l, xs, rfl, h1, h2⟩ := r.lst ha e1
    refine .inr ⟨l, j, xs, rfl, rfl, h1, ⟨hf.1.1, hf.1.2.1, by rw [h2.length]; exact hf.1.2.2⟩, fun p hp => ?_⟩
    exact hq _ _ _ _ (r.same hp) (r.new hp nt_lst) (.lst (.inl upd_same) ((h2.rep _).mono (r.same hp))) hf.2
  · exact hf.elim
theorem br_int {C : Int → Int → Prop} {g : Int → Int → Int} {f : Sto → D → D → (D → Prop) → Prop} (h : ∀ S a b Φ, f S a b Φ → ∃ i j, a = .int i ∧ b = .int j ∧ C i j ∧ Φ (.int (g i j))) : BinR K (rI C fun i j => .int (g i j)) f := by
  intro T F I H S x y a b Φ Q r ha hb hf hq
  obtain ⟨i, j, rfl, rfl, hc, hp⟩ := h _ _ _ _ hf
  cases ha; cases hb
  exact ⟨i, j, rfl, rfl, hc, hq _ _ I _ (Same.refl _) r (.int _) hp⟩
theorem br_div : BinR K (rI (fun _ j => DivOk j) fun i j => .int (i.fdiv j)) fDiv := br_int fun S a b Φ h => by
  unfold fDiv at h
  split at h
  · exact ⟨_, _, rfl, rfl, h.1, h.2⟩
  · exact h.elim
theorem br_mod : BinR K (rI (fun _ j => j ≠ 0) fun i j => .int (i.fmod j)) fMod := br_int fun S a b Φ h => by
  unfold fMod at h
  split at h
  · exact ⟨_, _, rfl, rfl, h.1, h.2⟩
  · exact h.elim
theorem br_pow : BinR K (rI CPow fun i j => .int (i ^ j.toNat)) fPow := br_int (g := fun i j => i ^ j.toNat) fun S a b Φ h => by
  unfold fPow at h
  split at h
  · exact ⟨_, _, rfl, rfl, h.1, h.2⟩
  · exact h.elim
theorem ur_neg : UnaR K (rU fun i => .int (-i)) fNeg := by
  intro T F I H S x a Φ Q r ha hf hq
  unfold fNeg at hf
  split at hf
  · cases ha; exact ⟨_, rfl, hq _ _ I _ (Same.refl _) r (.int _) hf⟩
  · exact hf.elim
theorem br_ord {p : Int → Int → Bool} : BinR K (rI0 fun i j => .bl (p i j)) (fOrd p) := by
  intro T F I H S x y a b Φ Q r ha hb hf hq
  unfold fOrd at hf
  split at hf
  · cases ha; cases hb; exact ⟨_, _, rfl, rfl, hq _ _ I _ (Same.refl _) r (.bl _) hf⟩
  · exact hf.elim
theorem br_eq : BinR K (rEqD K) fEq := by
  intro T F I H S x y a b Φ Q r ha hb ⟨h1, h2, hf⟩ hq
  have o1 := Bool.and_eq_true_iff.mp h1
  have o2 := Bool.and_eq_true_iff.mp h2
  exact ⟨_, _, r.dp ha o1.1, r.dp hb o2.1, o1.2, o2.2, hq _ _ I _ (Same.refl _) r (.bl _) hf⟩
theorem br_ne : BinR K (rNeD K) fNe := by
  intro T F I H S x y a b Φ Q r ha hb ⟨h1, h2, hf⟩ hq
  have o1 := Bool.and_eq_true_iff.mp h1
  have o2 := Bool.and_eq_true_iff.mp h2
  exact ⟨_, _, r.dp ha o1.1, r.dp hb o2.1, o1.2, o2.2, hq _ _ I _ (Same.refl _) r (.bl _) hf⟩
theorem br_isN : BinR K (fun x y H Q => y = .non ∧ Q (.bl (decide (x = .non))) H) fIsN := by
  intro T F I H S x y a b Φ Q r ha hb hf hq
  unfold fIsN at hf
  split at hf
  · cases hb
    refine ⟨rfl, hq _ _ I _ (Same.refl _) r (.bl _) ?_⟩
    cases ha <;> exact hf
  · exact hf.elim
theorem br_notN : BinR K (fun x y H Q => y = .non ∧ Q (.bl (!decide (x = .non))) H) fNotN := by
  intro T F I H S x y a b Φ Q r ha hb hf hq
  unfold fNotN at hf
  split at hf
  · cases hb
    refine ⟨rfl, hq _ _ I _ (Same.refl _) r (.bl _) ?_⟩
    cases ha <;> exact hf
  · exact hf.elim
theorem br_isB : BinR K rIsB fIsB := by
  intro T F I H S x y a b Φ Q r ha hb hf hq
  unfold fIsB at hf
  split at hf
  · cases ha; cases hb; exact ⟨_, _, rfl, rfl, hq _ _ I _ (Same.refl _) r (.bl _) hf⟩
  · exact hf.elim
theorem br_notB : BinR K rNotB fNotB := by
  intro T F I H S x y a b Φ Q r ha hb hf hq
  unfold fNotB at hf
  split at hf
  · cases ha; cases hb; exact ⟨_, _, rfl, rfl, hq _ _ I _ (Same.refl _) r (.bl _) hf⟩
  · exact hf.elim
end
end DL

set_option maxRecDepth 100000
set_option maxHeartbeats 4000000
/-! DA4: built-ins, subscripts, slices, methods of lists and texts by data. -/
namespace DL
open PySem PySem.Spec PyProof.Rows L2

/-! ### built-ins by their arguments -/
def wFn (f : Sto → List D → (D → Prop) → Prop) (ws : WA) : WE := fun E ρ S Φ => ws E ρ S fun ds S1 => f S1 ds fun d => Φ d S1
section
variable {X : Cx} {B : Bx} {e a b : Expr} {es : List Expr} {n : Nat} {ws : WA} {wa wb : WE} {pos p : Pos} {x : Str}
theorem fn_read {r : List V → Hp → VK → Prop} {f : Sto → List D → (D → Prop) → Prop} (hr : FnR X.K r f) {σ : L2.St} {H : Hp} {Q : VK} (h : eT X.K B (wFn f ws) σ H Q) : tCB r (aT X.K B n ws) σ H Q := by
  obtain ⟨F, I, S, ρ, Φ, n, hw, hq⟩ := h
  refine ⟨F, I, S, ρ, _, n, hw, ?_⟩
  rintro xs H1 ⟨I1, S1, ds, e1, r1, q1, hl, hw1⟩
  exact hr _ _ _ _ _ _ _ _ _ r1 q1 hw1 fun v H' I' d e3 r3 q3 hz => hq _ _ ⟨I', S1, d, e1.trans e3, r3, q3, hz⟩
theorem de_fnB {id : String} {r : List V → Hp → VK → Prop} {f : Sto → List D → (D → Prop) → Prop} (hc : CallR X (.builtin id) r) (hr : FnR X.K r f) (hg : Gl X x) (hm : X.mg x = none) (hv : bootBuiltins x = some (.builtin id)) (ha : DA X B (e :: es) n ws)
    (hn : x ≠ "__name__" := by decide) (hdb : (x == ("__debug__" : Str)) = false := by decide) (he : starEach (e :: es) X.env = (false, eval e X.env) :: starEach es X.env := by rfl) (hpl : (backTo pos (starEach es X.env)).any (·.1) = false := by rfl) :
    DE X B (.Call (.Name x p) (e :: es) [] pos) (wFn f ws) := PE_imp (pe_callB hc hg hm hv ha hn hdb he hpl) fun σ H Q h => fn_read hr h
theorem de_fnT {T : String} {r : List V → Hp → VK → Prop} {f : Sto → List D → (D → Prop) → Prop} (hc : CallR X (.type T) r) (hr : FnR X.K r f) (hg : Gl X x) (hm : X.mg x = none) (hv : bootBuiltins x = some (.type T)) (ha : DA X B (e :: es) n ws)
    (hn : x ≠ "__name__" := by decide) (hdb : (x == ("__debug__" : Str)) = false := by decide) (he : starEach (e :: es) X.env = (false, eval e X.env) :: starEach es X.env := by rfl) (hpl : (backTo pos (starEach es X.env)).any (·.1) = false := by rfl) :
    DE X B (.Call (.Name x p) (e :: es) [] pos) (wFn f ws) := PE_imp (pe_callTy hc hg hm hv ha hn hdb he hpl) fun σ H Q h => fn_read hr h
/-- a built-in class as a value -/
theorem de_ty {n : String} (hg : Gl X x) (hm : X.mg x = none) (hv : bootBuiltins x = some (.type n)) (hn : x ≠ "__name__" := by decide) (hd : (x == ("__debug__" : Str)) = false := by decide) : DE X B (.Name x pos) (wC (.ty n)) :=
  de_C (pe_bltn (v := .ty n) hg hm hv rfl hn hd) fun _ _ => .ty n
end
def fLen (S : Sto) (ds : List D) (Φ : D → Prop) : Prop := match ds with
  | [d] => (match res S d with
    | .lst xs => Φ (.int xs.length)
    | .tup xs => Φ (.int xs.length)
    | .str z => z.length ≤ sizeLine ∧ Φ (.int z.length)
    | _ => False)
  | _ => False
def fAbs (_ : Sto) (ds : List D) (Φ : D → Prop) : Prop := match ds with
  | [.int i] => Φ (.int (if i < 0 then -i else i))
  | _ => False
def fMin2 (_ : Sto) (ds : List D) (Φ : D → Prop) : Prop := match ds with
  | [.int i, .int j] => Φ (.int (if j < i then j else i))
  | _ => False
def fInt (_ : Sto) (ds : List D) (Φ : D → Prop) : Prop := match ds with
  | [.int i] => Φ (.int i)
  | [.bl b] => Φ (.int (if b = true then 1 else 0))
  | [.str a] => ∃ n, PySem.intText? a = some n ∧ a.length ≤ 640 ∧ Φ (.int n)
  | _ => False
def fBool (_ : Sto) (ds : List D) (Φ : D → Prop) : Prop := match ds with
  | [.int i] => Φ (.bl (i != 0))
  | [.bl b] => Φ (.bl b)
  | _ => False
def fStrI (_ : Sto) (ds : List D) (Φ : D → Prop) : Prop := match ds with
  | [.int i] => i.natAbs.log2 < 1920 ∧ Φ (.str (toString i))
  | [.str a] => Φ (.str a)
  | _ => False
def fTuple (S : Sto) (ds : List D) (Φ : D → Prop) : Prop := match ds with
  | [d] => (match res S d with
    | .lst xs => Φ (.tup xs)
    | .tup xs => Φ (.tup xs)
    | _ => False)
  | _ => False
def fList (S : Sto) (ds : List D) (Φ : D → Prop) : Prop := match ds with
  | [d] => (match res S d with
    | .lst xs => Φ (.lst xs)
    | .tup xs => Φ (.lst xs)
    | _ => False)
  | _ => False
def intsOf : List D → Option (List Int)
  | [] => some []
  | .int i :: r => (intsOf r).map (i :: ·)
  | _ :: _ => none
theorem intsOf_eq : ∀ {ds : List D} {ns : List Int}, intsOf ds = some ns → ds = ns.map D.int
  | [], _, h => by cases h; rfl
  | d :: r, ns, h => by
    unfold intsOf at h
    split at h
    · rename_i e; cases e
    · rename_i i r' e
      cases e
      cases q : intsOf r with
      | none => rw [q] at h; cases h
      | some m => rw [q] at h; cases h; rw [List.map_cons, intsOf_eq q]
    · cases h
theorem intsOf_map : ∀ ns : List Int, intsOf (ns.map D.int) = some ns
  | [] => rfl
  | n :: r => by rw [List.map_cons, intsOf, intsOf_map r]; rfl
def blsOf : List D → Option (List Bool)
  | [] => some []
  | .bl i :: r => (blsOf r).map (i :: ·)
  | _ :: _ => none
theorem blsOf_eq : ∀ {ds : List D} {ns : List Bool}, blsOf ds = some ns → ds = ns.map D.bl
  | [], _, h => by cases h; rfl
  | d :: r, ns, h => by
    unfold blsOf at h
    split at h
    · rename_i e; cases e
    · rename_i i r' e
      cases e
      cases q : blsOf r with
      | none => rw [q] at h; cases h
      | some m => rw [q] at h; cases h; rw [List.map_cons, blsOf_eq q]
    · cases h
theorem blsOf_map : ∀ ns : List Bool, blsOf (ns.map D.bl) = some ns
  | [] => rfl
  | n :: r => by rw [List.map_cons, blsOf, blsOf_map r]; rfl
def strsOf : List D → Option (List Str)
  | [] => some []
  | .str i :: r => (strsOf r).map (i :: ·)
  | _ :: _ => none
theorem strsOf_eq : ∀ {ds : List D} {ns : List Str}, strsOf ds = some ns → ds = ns.map D.str
  | [], _, h => by cases h; rfl
  | d :: r, ns, h => by
    unfold strsOf at h
    split at h
    · rename_i e; cases e
    · rename_i i r' e
      cases e
      cases q : strsOf r with
      | none => rw [q] at h; cases h
      | some m => rw [q] at h; cases h; rw [List.map_cons, strsOf_eq q]
    · cases h
theorem strsOf_map : ∀ ns : List Str, strsOf (ns.map D.str) = some ns
  | [] => rfl
  | n :: r => by rw [List.map_cons, strsOf, strsOf_map r]; rfl
def fOverInts (g : List Int → (D → Prop) → Prop) (S : Sto) (ds : List D) (Φ : D → Prop) : Prop := match ds with
  | [d] => (match res S d with
    | .lst xs => (match intsOf xs with
      | some ns => g ns Φ
      | none => False)
    | _ => False)
  | _ => False
def fSum : Sto → List D → (D → Prop) → Prop := fOverInts fun ns Φ => Φ (.int ns.sum)
def fMax : Sto → List D → (D → Prop) → Prop := fOverInts fun ns Φ => 0 < ns.length ∧ ∀ m, m ∈ ns → (∀ y, y ∈ ns → y ≤ m) → Φ (.int m)
def fMin : Sto → List D → (D → Prop) → Prop := fOverInts fun ns Φ => 0 < ns.length ∧ ∀ m, m ∈ ns → (∀ y, y ∈ ns → m ≤ y) → Φ (.int m)
def fOverBls (g : List Bool → Bool) (S : Sto) (ds : List D) (Φ : D → Prop) : Prop := match ds with
  | [d] => (match res S d with
    | .lst xs => (match blsOf xs with
      | some ns => Φ (.bl (g ns))
      | none => False)
    | _ => False)
  | _ => False
def fAll : Sto → List D → (D → Prop) → Prop := fOverBls fun bs => bs.all id
def fAny : Sto → List D → (D → Prop) → Prop := fOverBls fun bs => bs.any id
/-- the name of a value's class -/
def typD (S : Sto) (d : D) : Option String := match res S d with
  | .non => some "NoneType"
  | .bl _ => some "bool"
  | .int _ => some "int"
  | .str _ => some "str"
  | .tup _ => some "tuple"
  | .lst _ => some "list"
  | _ => none
def isT (t n : String) : Bool := t == n || (t == "bool" && n == "int")
def fIsi (S : Sto) (ds : List D) (Φ : D → Prop) : Prop := match ds with
  | [d, .ty n] => (match typD S d with
    | some t => (n = "int" ∨ n = "bool" ∨ n = "tuple" ∨ n = "str" ∨ n = "list") ∧ Φ (.bl (isT t n))
    | none => False)
  | _ => False
section
variable {K : PySem.W.Frag}
theorem DenA.one {I : Hp} {xs : List V} {d : D} (h : DenA K I xs [d]) : ∃ v, xs = [v] ∧ Den K I v d := by
  cases h with | cons h r => cases r; exact ⟨_, rfl, h⟩
theorem DenA.two {I : Hp} {xs : List V} {d e : D} (h : DenA K I xs [d, e]) : ∃ v w, xs = [v, w] ∧ Den K I v d ∧ Den K I w e := by
  cases h with | cons h t => obtain ⟨w, rfl, q⟩ := t.one; exact ⟨_, _, rfl, h, q⟩
def rLenD (K : PySem.W.Frag) : List V → Hp → VK → Prop := fun xs H Q => (∃ p ys, xs = [.ref p] ∧ (SqL K H p ys ∨ SqT K H p ys) ∧ Q (.int ys.length) H) ∨ (∃ z, xs = [.str z] ∧ z.length ≤ sizeLine ∧ Q (.int z.length) H)
theorem call_lenD' {X : Cx} : CallR X (.builtin "len") (rLenD X.K) := call_len_seq.or call_len_str
theorem fr_len : FnR K (rLenD K) fLen := by
  intro T F I H S xs as Φ Q r ha hf hq
  unfold fLen at hf
  split at hf
  · obtain ⟨v, rfl, hd⟩ := ha.one
    split at hf
    · rename_i ys e
      obtain ⟨p, zs, rfl, h1, h2⟩ := r.lst hd e
      exact .inl ⟨p, zs, rfl, .inl (.inl h1), hq _ _ I _ (Same.refl _) r (.int _) (by rw [h2.length]; exact hf)⟩
    · rename_i ys e
      cases res_tup e
      obtain ⟨p, zs, rfl, h1, h2⟩ := r.tup hd
      exact .inl ⟨p, zs, rfl, .inr h1, hq _ _ I _ (Same.refl _) r (.int _) (by rw [h2.length]; exact hf)⟩
    · rename_i z e
      cases res_str e
      cases hd
      exact .inr ⟨z, rfl, hf.1, hq _ _ I _ (Same.refl _) r (.int _) hf.2⟩
    · exact hf.elim
  · exact hf.elim
theorem fr_abs : FnR K (fun xs H Q => ∃ i, xs = [.int i] ∧ Q (.int (if i < 0 then -i else i)) H) fAbs := by
  intro T F I H S xs as Φ Q r ha hf hq
  unfold fAbs at hf
  split at hf
  · obtain ⟨v, rfl, hd⟩ := ha.one
    cases hd
    exact ⟨_, rfl, hq _ _ I _ (Same.refl _) r (.int _) hf⟩
  · exact hf.elim
theorem fr_min2 : FnR K (fun xs H Q => ∃ i j, xs = [.int i, .int j] ∧ Q (.int (if j < i then j else i)) H) fMin2 := by
  intro T F I H S xs as Φ Q r ha hf hq
  unfold fMin2 at hf
  split at hf
  · obtain ⟨v, w, rfl, hd, hd2⟩ := ha.two
    cases hd
    cases hd2
    exact ⟨_, _, rfl, hq _ _ I _ (Same.refl _) r (.int _) hf⟩
  · exact hf.elim
def rIntD : List V → Hp → VK → Prop := fun xs H Q => ((∃ i, xs = [.int i] ∧ Q (.int i) H) ∨ ∃ k, xs = [.bl k] ∧ Q (.int (if k then 1 else 0)) H) ∨ ∃ a n, xs = [.str a] ∧ PySem.intText? a = some n ∧ a.length ≤ 640 ∧ Q (.int n) H
theorem call_intD {X : Cx} : CallR X (.type "int") rIntD := call_int1.or call_int_str
theorem fr_int : FnR K rIntD fInt := by
  intro T F I H S xs as Φ Q r ha hf hq
  unfold fInt at hf
  split at hf
  · obtain ⟨v, rfl, hd⟩ := ha.one
    cases hd
    exact .inl (.inl ⟨_, rfl, hq _ _ I _ (Same.refl _) r (.int _) hf⟩)
  · obtain ⟨v, rfl, hd⟩ := ha.one
    cases hd
    exact .inl (.inr ⟨_, rfl, hq _ _ I _ (Same.refl _) r (.int _) hf⟩)
  · obtain ⟨v, rfl, hd⟩ := ha.one
    cases hd
    obtain ⟨n, h1, h2, h3⟩ := hf
    exact .inr ⟨_, n, rfl, h1, h2, hq _ _ I _ (Same.refl _) r (.int _) h3⟩
  · exact hf.elim
theorem fr_bool : FnR K (fun xs H Q => (∃ i, xs = [.int i] ∧ Q (.bl (i != 0)) H) ∨ ∃ k, xs = [.bl k] ∧ Q (.bl k) H) fBool := by
  intro T F I H S xs as Φ Q r ha hf hq
  unfold fBool at hf
  split at hf
  · obtain ⟨v, rfl, hd⟩ := ha.one
    cases hd
    exact .inl ⟨_, rfl, hq _ _ I _ (Same.refl _) r (.bl _) hf⟩
  · obtain ⟨v, rfl, hd⟩ := ha.one
    cases hd
    exact .inr ⟨_, rfl, hq _ _ I _ (Same.refl _) r (.bl _) hf⟩
  · exact hf.elim
def rStrD : List V → Hp → VK → Prop := fun xs H Q => (∃ i, xs = [.int i] ∧ i.natAbs.log2 < 1920 ∧ Q (.str (toString i)) H) ∨ (∃ a, xs = [.str a] ∧ Q (.str a) H)
theorem call_strD {X : Cx} : CallR X (.type "str") rStrD := call_str_int.or SkE.call_str_str
theorem fr_str : FnR K rStrD fStrI := by
  intro T F I H S xs as Φ Q r ha hf hq
  unfold fStrI at hf
  split at hf
  · obtain ⟨v, rfl, hd⟩ := ha.one
    cases hd
    exact .inl ⟨_, rfl, hf.1, hq _ _ I _ (Same.refl _) r (.str _) hf.2⟩
  · obtain ⟨v, rfl, hd⟩ := ha.one
    cases hd
    exact .inr ⟨_, rfl, hq _ _ I _ (Same.refl _) r (.str _) hf⟩
  · exact hf.elim
theorem fr_tuple : FnR K (fun xs H Q => ∃ p ys, xs = [.ref p] ∧ ((SqL K H p ys ∧ ∀ l, H l = none → Q (.ref l) (upd H l (.tup ys))) ∨ (SqT K H p ys ∧ Q (.ref p) H))) fTuple := by
  intro T F I H S xs as Φ Q r ha hf hq
  unfold fTuple at hf
  split at hf
  · obtain ⟨v, rfl, hd⟩ := ha.one
    split at hf
    · rename_i ys e
      obtain ⟨p, zs, rfl, h1, h2⟩ := r.lst hd e
      exact ⟨p, zs, rfl, .inl ⟨.inl h1, fun l hl => hq _ _ _ _ (r.same hl) (r.new hl nt_tup) (.tup (.of upd_same) (h2.mono (r.same hl))) hf⟩⟩
    · rename_i ys e
      cases res_tup e
      obtain ⟨p, zs, rfl, h1, h2⟩ := r.tup hd
      exact ⟨p, zs, rfl, .inr ⟨h1, hq _ _ I _ (Same.refl _) r hd hf⟩⟩
    · exact hf.elim
  · exact hf.elim
theorem fr_list : FnR K (fun xs H Q => ∃ p ys, xs = [.ref p] ∧ (SqL K H p ys ∨ SqT K H p ys) ∧ ∀ l, H l = none → Q (.ref l) (upd H l (.lst ys))) fList := by
  intro T F I H S xs as Φ Q r ha hf hq
  unfold fList at hf
  split at hf
  · obtain ⟨v, rfl, hd⟩ := ha.one
    split at hf
    · rename_i ys e
      obtain ⟨p, zs, rfl, h1, h2⟩ := r.lst hd e
      exact ⟨p, zs, rfl, .inl (.inl h1), fun l hl => hq _ _ _ _ (r.same hl) (r.new hl nt_lst) (.lst (.inl upd_same) (h2.mono (r.same hl))) hf⟩
    · rename_i ys e
      cases res_tup e
      obtain ⟨p, zs, rfl, h1, h2⟩ := r.tup hd
      exact ⟨p, zs, rfl, .inr h1, fun l hl => hq _ _ _ _ (r.same hl) (r.new hl nt_lst) (.lst (.inl upd_same) (h2.mono (r.same hl))) hf⟩
    · exact hf.elim
  · exact hf.elim
theorem over_ints {g : List Int → (D → Prop) → Prop} {S : Sto} {ds : List D} {Φ : D → Prop} (h : fOverInts g S ds Φ) : ∃ d ns, ds = [d] ∧ res S d = .lst (ns.map D.int) ∧ g ns Φ := by
  unfold fOverInts at h
  split at h
  · split at h
    · split at h
      · rename_i d _ xs e _ ns q
        exact ⟨d, ns, rfl, by rw [e, intsOf_eq q], h⟩
      · exact h.elim
    · exact h.elim
  · exact h.elim
theorem over_bls {g : List Bool → Bool} {S : Sto} {ds : List D} {Φ : D → Prop} (h : fOverBls g S ds Φ) : ∃ d ns, ds = [d] ∧ res S d = .lst (ns.map D.bl) ∧ Φ (.bl (g ns)) := by
  unfold fOverBls at h
  split at h
  · split at h
    · split at h
      · rename_i d _ xs e _ ns q
        exact ⟨d, ns, rfl, by rw [e, blsOf_eq q], h⟩
      · exact h.elim
    · exact h.elim
  · exact h.elim
theorem fr_sum : FnR K (rSum K) fSum := by
  intro T F I H S xs as Φ Q r ha hf hq
  obtain ⟨d, ns, rfl, e, h⟩ := over_ints hf
  obtain ⟨v, rfl, hd⟩ := ha.one
  obtain ⟨p, zs, rfl, h1, h2⟩ := r.lst hd e
  cases h2.ints
  exact ⟨p, ns, rfl, .inl h1, hq _ _ I _ (Same.refl _) r (.int _) h⟩
theorem fr_max : FnR K (rMax K) fMax := by
  intro T F I H S xs as Φ Q r ha hf hq
  obtain ⟨d, ns, rfl, e, h⟩ := over_ints hf
  obtain ⟨v, rfl, hd⟩ := ha.one
  obtain ⟨p, zs, rfl, h1, h2⟩ := r.lst hd e
  cases h2.ints
  exact ⟨p, ns, rfl, .inl h1, h.1, fun m hm hl => hq _ _ I _ (Same.refl _) r (.int _) (h.2 m hm hl)⟩
theorem fr_min : FnR K (rMin K) fMin := by
  intro T F I H S xs as Φ Q r ha hf hq
  obtain ⟨d, ns, rfl, e, h⟩ := over_ints hf
  obtain ⟨v, rfl, hd⟩ := ha.one
  obtain ⟨p, zs, rfl, h1, h2⟩ := r.lst hd e
  cases h2.ints
  exact ⟨p, ns, rfl, .inl h1, h.1, fun m hm hl => hq _ _ I _ (Same.refl _) r (.int _) (h.2 m hm hl)⟩
theorem fr_all : FnR K (rAll K) fAll := by
  intro T F I H S xs as Φ Q r ha hf hq
  obtain ⟨d, ns, rfl, e, h⟩ := over_bls hf
  obtain ⟨v, rfl, hd⟩ := ha.one
  obtain ⟨p, zs, rfl, h1, h2⟩ := r.lst hd e
  cases h2.bls
  exact ⟨p, ns, rfl, .inl h1, hq _ _ I _ (Same.refl _) r (.bl _) h⟩
theorem fr_any : FnR K (rAny K) fAny := by
  intro T F I H S xs as Φ Q r ha hf hq
  obtain ⟨d, ns, rfl, e, h⟩ := over_bls hf
  obtain ⟨v, rfl, hd⟩ := ha.one
  obtain ⟨p, zs, rfl, h1, h2⟩ := r.lst hd e
  cases h2.bls
  exact ⟨p, ns, rfl, .inl h1, hq _ _ I _ (Same.refl _) r (.bl _) h⟩
theorem Rep.typ {T : List (Addr × Str)} {F I H : Hp} {S : Sto} {v : V} {d : D} {t : String} (r : Rep K T F I S H) (hd : Den K I v d) (h : typD S d = some t) : TyX K H v (.type t) ∧ (t = "NoneType" ∨ t = "bool" ∨ t = "int" ∨ t = "str" ∨ t = "tuple" ∨ t = "list") := by
  unfold typD at h
  split at h
  · rename_i e
    cases h
    cases hd <;> first | exact ⟨.base .non, .inl rfl⟩ | cases e | (unfold res at e; dsimp only at e; split at e <;> cases e)
  · rename_i b e
    cases h
    cases res_bl e
    cases hd
    exact ⟨.base (.bl _), .inr (.inl rfl)⟩
  · rename_i b e
    cases h
    cases res_int e
    cases hd
    exact ⟨.base (.int _), .inr (.inr (.inl rfl))⟩
  · rename_i b e
    cases h
    cases res_str e
    cases hd
    exact ⟨.base (.str _), .inr (.inr (.inr (.inl rfl)))⟩
  · rename_i b e
    cases h
    cases res_tup e
    obtain ⟨p, zs, rfl, h1, h2⟩ := r.tup hd
    refine ⟨?_, .inr (.inr (.inr (.inr (.inl rfl))))⟩
    rcases h1 with (h1 | ⟨o, h1⟩) | ⟨o, its, n, h1, h3, _⟩
    · exact .base (.tup h1)
    · exact .fTuple h1
    · exact .kTuple h1 h3
  · rename_i b e
    cases h
    obtain ⟨p, zs, rfl, h1, h2⟩ := r.lst hd e
    refine ⟨?_, .inr (.inr (.inr (.inr (.inr rfl))))⟩
    rcases h1 with h1 | ⟨o, h1⟩
    · exact .base (.lst h1)
    · exact .base (.frz h1)
  · cases h
theorem fr_isi : FnR K (rIsi K) fIsi := by
  intro T F I H S xs as Φ Q r ha hf hq
  unfold fIsi at hf
  split at hf
  · rename_i d n
    obtain ⟨v, w, rfl, hd, hd2⟩ := ha.two
    cases hd2
    split at hf
    · rename_i t e
      obtain ⟨ty, ht⟩ := r.typ hd e
      refine ⟨v, .ty n, _, _, isT t n, rfl, .ty n, ty, ?_, hq _ _ I _ (Same.refl _) r (.bl _) hf.2⟩
      refine kit_ty ?_
      rcases ht with rfl | rfl | rfl | rfl | rfl | rfl <;> rcases hf.1 with rfl | rfl | rfl | rfl | rfl <;> decide +kernel
    · exact hf.elim
  · exact hf.elim
end
end DL

set_option maxRecDepth 100000
set_option maxHeartbeats 4000000
/-! DA5: subscripts, slices, methods, targets, statements. -/
namespace DL
open PySem PySem.Spec PyProof.Rows L2

def fIx (S : Sto) (x y : D) (Φ : D → Prop) : Prop := match res S x, y with
  | .lst xs, .int i => (match atI xs i with
    | some d => Φ d
    | none => False)
  | .tup xs, .int i => (match atI xs i with
    | some d => Φ d
    | none => False)
  | .str z, .int i => z.length ≤ sizeLine ∧ (match atI z.cps.toList i with
    | some c => Φ (.str ⟨#[c]⟩)
    | none => False)
  | _, _ => False
theorem DenA.at {K : PySem.W.Frag} {I : Hp} {vs : List V} {ds : List D} (h : DenA K I vs ds) {i : Int} {d : D} (e : atI ds i = some d) : ∃ v, atI vs i = some v ∧ Den K I v d := by
  unfold atI at e ⊢
  rw [h.length]
  cases q : ixN ds.length i with
  | none => rw [q] at e; cases e
  | some j =>
    rw [q] at e
    exact h.get e
theorem br_ix {K : PySem.W.Frag} : BinR K (rIx K) fIx := by
  intro T F I H S x y a b Φ Q r ha hb hf hq
  unfold fIx at hf
  split at hf
  · rename_i xs i e
    cases hb
    obtain ⟨p, vs, rfl, h1, h2⟩ := r.lst ha e
    split at hf
    · rename_i d q
      obtain ⟨v, q1, q2⟩ := h2.at q
      exact .inl ⟨p, vs, i, v, rfl, rfl, .inl h1, q1, hq _ _ I _ (Same.refl _) r q2 hf⟩
    · exact hf.elim
  · rename_i xs i e
    cases hb
    cases res_tup e
    obtain ⟨p, vs, rfl, h1, h2⟩ := r.tup ha
    split at hf
    · rename_i d q
      obtain ⟨v, q1, q2⟩ := h2.at q
      exact .inr (.inl ⟨p, vs, i, v, rfl, rfl, h1, q1, hq _ _ I _ (Same.refl _) r q2 hf⟩)
    · exact hf.elim
  · rename_i xs i e
    cases hb
    cases res_str e
    cases ha
    obtain ⟨hl, hf⟩ := hf
    split at hf
    · rename_i d q
      exact .inr (.inr ⟨_, i, d, rfl, rfl, hl, q, hq _ _ I _ (Same.refl _) r (.str _) hf⟩)
    · exact hf.elim
  · exact hf.elim

/-! ### slices -/
def cutD (xs : List D) (lo hi : Option Int) : List D := (xs.drop (HT.sIx xs.length 0 lo)).take (HT.sIx xs.length xs.length hi - HT.sIx xs.length 0 lo)
def fSl (S : Sto) (x : D) (lo hi : Option Int) (Φ : D → Prop) : Prop := match res S x with
  | .lst xs => Φ (.lst (cutD xs lo hi))
  | .tup xs => Φ (.tup (cutD xs lo hi))
  | .str z => z.length ≤ sizeLine ∧ Φ (.str (cutS z lo hi))
  | _ => False
abbrev WO := WR → Ro → Sto → (Option Int → Sto → Prop) → Prop
def wNoPart : WO := fun _ _ S Φ => Φ none S
def wPart (w : WE) : WO := fun E ρ S Φ => w E ρ S fun d S1 => match d with
  | .int i => Φ (some i) S1
  | _ => False
def oT (K : PySem.W.Frag) (B : Bx) (w : WO) : TO := fun σ H Q => ∃ F I S ρ Φ, Now K B F I S σ ρ H ∧ w B.E ρ S Φ ∧ ∀ o H', (∃ I' S', Same I I' ∧ Rep K B.T F I' S' H' ∧ Φ o S') → Q o H'
def DO (X : Cx) (B : Bx) (e : Option Expr) (w : WO) : Prop := PO X e (oT X.K B w)
def wSl (wa : WE) (wl wh : WO) : WE := fun E ρ S Φ => wa E ρ S fun x S1 => wl E ρ S1 fun lo S2 => wh E ρ S2 fun hi S3 => fSl S3 x lo hi fun d => Φ d S3
section
variable {X : Cx} {B : Bx} {e a b : Expr} {es : List Expr} {n : Nat} {ws : WA} {wa wb we : WE} {pos p p2 : Pos} {x : Str}
theorem de_ix (ha : DE X B a wa) (hb : DE X B b wb) (hs : PlainIx b := by intro _ _; rfl) : DE X B (.Subscript a b pos) (wBin fIx wa wb) := PE_imp (pe_ix ix_seq ha hb hs) fun σ H Q h => bin_read br_ix h
theorem PO_imp {e : Option Expr} {t t' : TO} (h : PO X e t) (q : ∀ σ H Q, t' σ H Q → t σ H Q) : PO X e t' := ⟨fun pins s σ H Q I z => h.run pins s σ H Q I (q _ _ _ z)⟩
theorem do_none : DO X B none wNoPart := PO_imp po_none fun σ H Q ⟨F, I, S, ρ, Φ, n, hw, hq⟩ => hq _ _ ⟨I, S, Same.refl _, n.rep, hw⟩
theorem do_some (h : DE X B e we) : DO X B (some e) (wPart we) := PO_imp (po_some h) fun σ H Q ⟨F, I, S, ρ, Φ, n, hw, hq⟩ => by
  refine ⟨F, I, S, ρ, _, n, hw, ?_⟩
  rintro v H1 ⟨I1, S1, d1, e1, r1, q1, hw1⟩
  cases q1 with
  | int i => exact ⟨i, rfl, hq _ _ ⟨I1, S1, e1, r1, hw1⟩⟩
  | _ => exact hw1.elim
def rSlD (K : PySem.W.Frag) : V → Option Int → Option Int → Hp → VK → Prop := fun x lo hi H Q => rSlL K x lo hi H Q ∨ rSlA K x lo hi H Q ∨ rSlS x lo hi H Q
theorem sl_D : SlR X (rSlD X.K) := sl_list.or (sl_tupA.or sl_str)
theorem cut_den {K : PySem.W.Frag} {I : Hp} {vs : List V} {ds : List D} (h : DenA K I vs ds) (lo hi : Option Int) : DenA K I (cutV vs lo hi) (cutD ds lo hi) := by
  unfold cutV cutD
  rw [h.length]
  exact (h.drop _).take _
theorem de_sl {lo hi : Option Expr} {wl wh : WO} (ha : DE X B a wa) (hl : DO X B lo wl) (hh : DO X B hi wh) : DE X B (.Subscript a (.Slice lo hi none p2) pos) (wSl wa wl wh) :=
  PE_imp (pe_slice sl_D ha hl hh) fun σ H Q ⟨F, I, S, ρ, Φ, n, hw, hq⟩ => by
    refine ⟨F, I, S, ρ, _, n, hw, ?_⟩
    rintro v H1 ⟨I1, S1, d1, e1, r1, q1, hw1⟩
    refine ⟨F, I1, S1, ρ, _, n.next e1 r1, hw1, ?_⟩
    rintro l H2 ⟨I2, S2, e2, r2, hw2⟩
    refine ⟨F, I2, S2, ρ, _, n.next (e1.trans e2) r2, hw2, ?_⟩
    rintro u H3 ⟨I3, S3, e3, r3, hf⟩
    have q3 := q1.mono (e2.trans e3)
    have e123 := (e1.trans e2).trans e3
    unfold fSl at hf
    split at hf
    · rename_i xs e
      obtain ⟨p, vs, rfl, h1, h2⟩ := r3.lst q3 e
      exact .inl ⟨p, vs, rfl, .inl h1, fun p hp => hq _ _ ⟨_, S3, _, e123.trans (r3.same hp), r3.new hp nt_lst, .lst (.inl upd_same) ((cut_den h2 _ _).mono (r3.same hp)), hf⟩⟩
    · rename_i xs e
      cases res_tup e
      obtain ⟨p, vs, rfl, h1, h2⟩ := r3.tup q3
      refine .inr (.inl ⟨p, vs, rfl, h1, fun z => ?_, fun _ p hp => hq _ _ ⟨_, S3, _, e123.trans (r3.same hp), r3.new hp nt_tup, .tup (.of upd_same) ((cut_den h2 _ _).mono (r3.same hp)), hf⟩⟩)
      have l := h2.length
      have e : ∀ lo hi : Option Int, HT.sIx vs.length 0 lo = 0 ∧ HT.sIx vs.length vs.length hi = vs.length → cutD xs lo hi = xs := fun lo hi z => by
        unfold cutD
        rw [← l, z.1, z.2]
        simp [l]
      rw [e _ _ z] at hf
      exact hq _ _ ⟨I3, S3, _, e123, r3, q3, hf⟩
    · rename_i z e
      cases res_str e
      cases q3
      exact .inr (.inr ⟨_, rfl, hf.1, hq _ _ ⟨I3, S3, _, e123, r3, .str _, hf.2⟩⟩)
    · exact hf.elim
/-- xs[::-1] of a list -/
def fRev (S : Sto) (x : D) (Φ : D → Prop) : Prop := match res S x with
  | .lst xs => Φ (.lst xs.reverse)
  | _ => False
theorem de_rev {k : Nat} {p1 p2 p3 : Pos} (ha : DE X B a wa) : DE X B (.Subscript a (.Slice none none (some (.UnaryOp .USub (.Constant (.int 1) k p1) p2)) p3) pos) (wUna fRev wa) :=
  PE_imp (pe_revL ha) fun σ H Q ⟨F, I, S, ρ, Φ, n, hw, hq⟩ => by
    refine ⟨F, I, S, ρ, _, n, hw, ?_⟩
    rintro v H1 ⟨I1, S1, d1, e1, r1, q1, hf⟩
    unfold fRev at hf
    split at hf
    · rename_i xs e
      obtain ⟨p, vs, rfl, h1, h2⟩ := r1.lst q1 e
      exact ⟨p, vs, rfl, .inl h1, fun p hp => hq _ _ ⟨_, S1, _, e1.trans (r1.same hp), r1.new hp nt_lst, .lst (.inl upd_same) (h2.rev.mono (r1.same hp)), hf⟩⟩
    · exact hf.elim

/-! ### a list that is filled -/
theorem tabs_upd {T : List (Addr × Str)} {H : Hp} {p : Addr} {o u : HO} (t : LamX.Tabs T H) (h : H p = some u) (h1 : ∀ ps, u ≠ .tbl ps) (h2 : ∀ φ, u ≠ .ext φ) : LamX.Tabs T (upd H p o) := fun q hq => by
  obtain ⟨ps, e1, e2, e3⟩ := t q hq
  have n1 : q.1 ≠ p := fun z => by rw [z, h] at e1; exact h1 ps (Option.some.inj e1)
  refine ⟨ps, by rw [upd_ne n1]; exact e1, e2, fun pos cv hc => ?_⟩
  obtain ⟨c, e4, e5⟩ := e3 pos cv hc
  have n2 : c ≠ p := fun z => by rw [z, h] at e5; exact h2 _ (Option.some.inj e5)
  exact ⟨c, e4, by rw [upd_ne n2]; exact e5⟩
theorem Rep.put {K : PySem.W.Frag} {T : List (Addr × Str)} {F I : Hp} {S : Sto} {H : Hp} (r : Rep K T F I S H) {p : Addr} {o u : HO} {m m' : MO} (hS : S p = some m) (hH : H p = some u) (h1 : ∀ ps, u ≠ .tbl ps) (h2 : ∀ φ, u ≠ .ext φ) (q : MOk K I (upd H p o) p m') :
    Rep K T F I (sput S p m') (upd H p o) where
  imm := fun b w e => by
    have hb : b ≠ p := fun z => by rw [z, (r.mto p m hS).1] at e; cases e
    rw [upd_ne hb]; exact r.imm b w e
  frm := fun b w e => by
    have hb : b ≠ p := fun z => by rw [z, (r.mto p m hS).2.1] at e; cases e
    rw [upd_ne hb]; exact r.frm b w e
  mto := fun b w e => by
    by_cases hb : b = p
    · subst hb
      rw [sput_same] at e
      cases e
      exact ⟨(r.mto _ m hS).1, (r.mto _ m hS).2.1, q⟩
    · rw [sput_ne hb] at e
      obtain ⟨z1, z2, z3⟩ := r.mto b w e
      exact ⟨z1, z2, z3.mono (Same.refl _) fun o q => by rw [upd_ne hb]; exact q⟩
  tab := tabs_upd r.tab hH h1 h2
  ntb := r.ntb
def wApp (wo : WE) (we : WE) : WE := fun E ρ S Φ => wo E ρ S fun o S1 => we E ρ S1 fun d S2 => match o with
  | .ptr p => (match S2 p with
    | some (.lst ds) => ds.length < sizeLine ∧ Φ .non (sput S2 p (.lst (ds ++ [d])))
    | _ => False)
  | _ => False
/-- x.append(e), x a list that is filled: it is so already where e is reckoned -/
def wApp1 (wo : WE) (we : WE) : WE := fun E ρ S Φ => wo E ρ S fun o S1 => (match o with
  | .ptr p => ∃ ds, S1 p = some (.lst ds)
  | _ => False) ∧ we E ρ S1 fun d S2 => match o with
  | .ptr p => (match S2 p with
    | some (.lst ds) => ds.length < sizeLine ∧ Φ .non (sput S2 p (.lst (ds ++ [d])))
    | _ => False)
  | _ => False
theorem de_append {apos : Pos} (ho : DE X B a wa) (he : DE X B e we) (hs : starEach [e] X.env = (false, eval e X.env) :: starEach [] X.env := by rfl) (h : PE X (.Call (.Attribute a "append" apos) [e] [] pos) (tBM X.K "list" rAppend (eT X.K B wa) (aT X.K B 1 (wCons we wNil)))) :
    DE X B (.Call (.Attribute a "append" apos) [e] [] pos) (wApp1 wa we) :=
  PE_imp h fun σ H Q ⟨F, I, S, ρ, Φ, n, hw, hq⟩ => by
    refine ⟨F, I, S, ρ, _, n, hw, ?_⟩
    rintro v H1 ⟨I1, S1, d1, e1, r1, q1, hl, hw1⟩
    split at hl
    · rename_i p
      cases q1
      obtain ⟨ds, hS⟩ := hl
      obtain ⟨xs, g1, g2⟩ := (r1.mto p _ hS).2.2
      refine ⟨.inl ⟨rfl, xs, .of g1⟩, F, I1, S1, ρ, (fun es S2 => match es with
        | [d] => (match S2 p with
          | some (.lst ds) => ds.length < sizeLine ∧ Φ .non (sput S2 p (.lst (ds ++ [d])))
          | _ => False)
        | _ => False), n.next e1 r1, hw1, ?_⟩
      rintro vs H2 ⟨I2, S2, es, e2, r2, q2, hln, hw2⟩
      cases q2 with
      | nil => cases hln
      | cons q2 t =>
        cases t with
        | cons _ _ => cases hln
        | nil =>
          dsimp only at hw2
          split at hw2
          · rename_i ds' hS'
            obtain ⟨xs', g3, g4⟩ := (r2.mto p _ hS').2.2
            refine ⟨p, xs', _, rfl, rfl, g3, by rw [g4.length]; exact hw2.1, hq _ _ ⟨I2, _, .non, e1.trans e2, r2.put (m' := .lst (ds' ++ [_])) hS' g3 nt_lst (fun _ z => nomatch z) ⟨_, upd_same, g4.app (.cons q2 .nil)⟩, .non, hw2.2⟩⟩
          · exact hw2.elim
    · exact hl.elim

/-! ### targets -/
def gNm (i : Nat) : WG := fun _ d ρ S Φ => Φ (ρ.set i (some d)) S
def gNl : WGs := fun _ ds ρ S Φ => match ds with
  | [] => Φ ρ S
  | _ => False
def gCn (g : WG) (gs : WGs) : WGs := fun E ds ρ S Φ => match ds with
  | d :: r => g E d ρ S fun ρ1 S1 => gs E r ρ1 S1 Φ
  | [] => False
def gTp (n : Nat) (gs : WGs) : WG := fun E d ρ S Φ => match res S d with
  | .tup ds => ds.length = n ∧ gs E ds ρ S Φ
  | .lst ds => ds.length = n ∧ gs E ds ρ S Φ
  | _ => False
theorem PG_imp {tg : Expr} {t t' : TG} (h : PG X tg t) (q : ∀ v σ H Q, t' v σ H Q → t v σ H Q) : PG X tg t' := ⟨fun pins s σ H v u Q I r z => h.run pins s σ H v u Q I r (q _ _ _ _ z)⟩
theorem PGs_imp {tg : List Expr} {t t' : TGs} (h : PGs X tg t) (q : ∀ v σ H Q, t' v σ H Q → t v σ H Q) : PGs X tg t' := ⟨fun pins s σ H v u Q I r z => h.run pins s σ H v u Q I r (q _ _ _ _ z)⟩
theorem PG_or {tg : Expr} {t t' : TG} (h : PG X tg t) (h' : PG X tg t') : PG X tg (fun v σ H Q => t v σ H Q ∨ t' v σ H Q) := ⟨fun pins s σ H v u Q I r z => z.elim (h.run pins s σ H v u Q I r) (h'.run pins s σ H v u Q I r)⟩
theorem dg_name (i : Nat) {x : Str} (hN : X.N.Nodup) (hi : X.N[i]? = some x := by rfl) (hx : Loc X.env.scope x := by first | exact .inl rfl | exact .inr rfl) (hf : X.fn x = true ∨ X.env.scope.names.lookup x = some .local := by first | exact .inl rfl | exact .inr rfl) : DG X B (.Name x pos) (gNm i) :=
  PG_imp (pg_name hN hi hx hf) fun v σ H Q ⟨F, I, S, ρ, d, Φ, n, hd, hg, hq⟩ => hq _ _ ⟨I, S, _, Same.refl _, n.rep, n.sl.set i hd, hg⟩
theorem dgs_nil : DGs X B [] gNl := PGs_imp pgs_nil fun v σ H Q ⟨F, I, S, ρ, d, Φ, n, hd, hg, hq⟩ => by
  cases hd with
  | nil => exact ⟨rfl, hq _ _ ⟨I, S, _, Same.refl _, n.rep, n.sl, hg⟩⟩
  | cons _ _ => exact hg.elim
theorem dgs_cons {g : WG} {gs : WGs} (h1 : DG X B e g) (h2 : DGs X B es gs) (hs : (assignEach (e :: es) X.env).map (·.2) = assign e X.env :: (assignEach es X.env).map (·.2) := by rfl) : DGs X B (e :: es) (gCn g gs) :=
  PGs_imp (pgs_cons h1 h2 hs) fun v σ H Q ⟨F, I, S, ρ, d, Φ, n, hd, hg, hq⟩ => by
    cases hd with
    | nil => exact hg.elim
    | @cons v vs d ds h t =>
      refine ⟨v, vs, rfl, F, I, S, ρ, d, _, n, h, hg, ?_⟩
      rintro σ1 H1 ⟨I1, S1, ρ1, e1, r1, s1, hg1⟩
      exact ⟨F, I1, S1, ρ1, ds, _, n.env e1 r1 s1, t.mono e1, hg1, fun σ2 H2 h2 => hq _ _ (h2.from e1)⟩
theorem dg_tup {k : Nat} {n : Nat} {gs : WGs} (hc : X.calm = true) (h : DGs X B es gs) (hn : (assignEach es X.env).length = n := by rfl) (hst : (assignEach es X.env).findIdx? (·.1) = none := by rfl) : DG X B (.Tuple es k pos) (gTp n gs) :=
  PG_imp (PG_or (pg_tup (n := n) hc h hn hst) (pg_lst (n := n) hc h hn hst)) fun v σ H Q ⟨F, I, S, ρ, d, Φ, nw, hd, hg, hq⟩ => by
    unfold gTp at hg
    split at hg
    · rename_i ds e
      cases res_tup e
      obtain ⟨a, xs, rfl, h1, h2⟩ := nw.rep.tup hd
      exact .inl ⟨a, xs, rfl, h1, by rw [h2.length]; exact hg.1, F, I, S, ρ, ds, Φ, nw, h2, hg.2, hq⟩
    · rename_i ds e
      obtain ⟨a, xs, rfl, h1, h2⟩ := nw.rep.lst hd e
      exact .inr ⟨a, xs, rfl, .inl h1, by rw [h2.length]; exact hg.1, F, I, S, ρ, ds, Φ, nw, h2, hg.2, hq⟩
    · exact hg.elim
/-- xs[i] = .., xs a list that is filled -/
def gIx (wo wi : WE) : WG := fun E d ρ S Φ => wo E ρ S fun o S1 => wi E ρ S1 fun i S2 => match o, i with
  | .ptr p, .int k => (match S2 p with
    | some (.lst ds) => (match ixN ds.length k with
      | some j => Φ ρ (sput S2 p (.lst (ds.set j d)))
      | none => False)
    | _ => False)
  | _, _ => False
theorem dg_ix (ho : DE X B a wa) (hi : DE X B b wb) (h : PG X (.Subscript a b pos) (gSub (eT X.K B wa) (eT X.K B wb) rSetL)) : DG X B (.Subscript a b pos) (gIx wa wb) :=
  PG_imp h fun v σ H Q ⟨F, I, S, ρ, d, Φ, n, hd, hg, hq⟩ => by
    refine ⟨F, I, S, ρ, _, n, hg, ?_⟩
    rintro o H1 ⟨I1, S1, d1, e1, r1, q1, hw1⟩
    refine ⟨F, I1, S1, ρ, _, n.next e1 r1, hw1, ?_⟩
    rintro i H2 ⟨I2, S2, d2, e2, r2, q2, hw2⟩
    split at hw2
    · rename_i p k
      cases q1
      cases q2
      split at hw2
      · rename_i ds hS
        obtain ⟨xs, g1, g2⟩ := (r2.mto p _ hS).2.2
        split at hw2
        · rename_i j hj
          exact ⟨p, xs, k, j, rfl, rfl, g1, by rw [g2.length]; exact hj, hq _ _ ⟨I2, _, ρ, e1.trans e2, r2.put (m' := .lst (ds.set j d)) hS g1 nt_lst (fun _ z => nomatch z) ⟨_, upd_same, g2.set j (hd.mono (e1.trans e2))⟩, n.sl.mono (e1.trans e2), hw2⟩⟩
        · exact hw2.elim
      · exact hw2.elim
    · exact hw2.elim

/-! ### statements -/
def sNext : WS := fun _ D ρ S => D.nx ρ S
def sSeq (t u : WS) : WS := fun E D ρ S => t E { D with nx := u E D } ρ S
def sBrk : WS := fun _ D ρ S => D.bk ρ S
def sCnt : WS := fun _ D ρ S => D.ct ρ S
def sExp (w : WE) : WS := fun E D ρ S => w E ρ S fun _ S1 => D.nx ρ S1
def sRet (w : WE) : WS := fun E D ρ S => w E ρ S D.rt
def sRetN : WS := fun _ D _ S => D.rt .non S
def sIf (c : WT) (t u : WS) : WS := fun E D ρ S => c E ρ S fun b S1 => if b = true then t E D ρ S1 else u E D ρ S1
def sAsg (w : WE) (g : WG) : WS := fun E D ρ S => w E ρ S fun d S1 => g E d ρ S1 D.nx
def sPar (i j : Nat) (ws : WA) : WS := fun E D ρ S => ws E ρ S fun ds S1 => match ds with
  | [d, e] => D.nx ((ρ.set i (some d)).set j (some e)) S1
  | _ => False
variable {st : Stmt} {sts : List Stmt} {t u : WS}
theorem dss_nil : DSs X B [] sNext := PSs_imp pss_nil fun Dn σ H ⟨F, I, S, ρ, dn, n, hw, h1, h2, h3, h4⟩ => h1 _ _ ⟨I, S, ρ, Same.refl _, n.rep, n.sl, hw⟩
theorem dss_one (h : DS X B st t) : DSs X B [st] t := PSs_imp (pss_one h) fun Dn σ H h => h
theorem dss_cons (h1 : DS X B st t) (h2 : DSs X B sts u) : DSs X B (st :: sts) (sSeq t u) := PSs_imp (pss_cons h1 h2) fun Dn σ H ⟨F, I, S, ρ, dn, n, hw, k1, k2, k3, k4⟩ => by
  refine ⟨F, I, S, ρ, _, n, hw, ?_, k2, k3, k4⟩
  rintro σ1 H1 ⟨I1, S1, ρ1, e1, r1, s1, hw1⟩
  exact ⟨F, I1, S1, ρ1, dn, n.env e1 r1 s1, hw1, fun _ _ z => k1 _ _ (z.from e1), fun _ _ z => k2 _ _ (z.from e1), fun _ _ z => k3 _ _ (z.from e1), fun _ _ z => k4 _ _ (z.from e1)⟩
theorem ds_pass : DS X B (.Pass pos) sNext := PS_imp ps_pass fun Dn σ H ⟨F, I, S, ρ, dn, n, hw, h1, h2, h3, h4⟩ => h1 _ _ ⟨I, S, ρ, Same.refl _, n.rep, n.sl, hw⟩
theorem ds_break : DS X B (.Break pos) sBrk := PS_imp ps_break fun Dn σ H ⟨F, I, S, ρ, dn, n, hw, h1, h2, h3, h4⟩ => h3 _ _ ⟨I, S, ρ, Same.refl _, n.rep, n.sl, hw⟩
theorem ds_cont : DS X B (.Continue pos) sCnt := PS_imp ps_continue fun Dn σ H ⟨F, I, S, ρ, dn, n, hw, h1, h2, h3, h4⟩ => h4 _ _ ⟨I, S, ρ, Same.refl _, n.rep, n.sl, hw⟩
theorem ds_expr (he : DE X B e we) (hs : swapsWith e none pos.line X.env = pure false := by rfl) : DS X B (.Expr e pos) (sExp we) := PS_imp (ps_expr he hs) fun Dn σ H ⟨F, I, S, ρ, dn, n, hw, h1, h2, h3, h4⟩ => by
  refine ⟨F, I, S, ρ, _, n, hw, ?_⟩
  rintro v H1 ⟨I1, S1, d1, e1, r1, q1, hw1⟩
  exact h1 _ _ ⟨I1, S1, ρ, e1, r1, n.sl.mono e1, hw1⟩
theorem ds_ret (he : DE X B e we) : DS X B (.Return (some e) pos) (sRet we) := PS_imp (ps_ret he) fun Dn σ H ⟨F, I, S, ρ, dn, n, hw, h1, h2, h3, h4⟩ => ⟨F, I, S, ρ, _, n, hw, h2⟩
theorem ds_retN : DS X B (.Return none pos) sRetN := PS_imp ps_retN fun Dn σ H ⟨F, I, S, ρ, dn, n, hw, h1, h2, h3, h4⟩ => h2 _ _ (n.here .non hw)
theorem ds_if {c : Expr} {a b : List Stmt} {tc : WT} (hc : DT X B c tc) (ha : DSs X B a t) (hb : DSs X B b u) : DS X B (.If c a b pos) (sIf tc t u) := PS_imp (ps_if hc ha hb) fun Dn σ H ⟨F, I, S, ρ, dn, n, hw, k1, k2, k3, k4⟩ => by
  refine ⟨F, I, S, ρ, _, n, hw, ?_⟩
  rintro k H1 ⟨I1, S1, e1, r1, hw1⟩
  have nn := n.next e1 r1
  cases k with
  | true => exact iteT ⟨F, I1, S1, ρ, dn, nn, (by simpa using hw1), fun _ _ z => k1 _ _ (z.from e1), fun _ _ z => k2 _ _ (z.from e1), fun _ _ z => k3 _ _ (z.from e1), fun _ _ z => k4 _ _ (z.from e1)⟩
  | false => exact iteF ⟨F, I1, S1, ρ, dn, nn, (by simpa using hw1), fun _ _ z => k1 _ _ (z.from e1), fun _ _ z => k2 _ _ (z.from e1), fun _ _ z => k3 _ _ (z.from e1), fun _ _ z => k4 _ _ (z.from e1)⟩
theorem asg_read {te : TE} {g : TG} {gg : WG} {tg : Expr} {Dn : Ends} {σ : L2.St} {H : Hp} (hg : g = gT X.K B gg) (h : sT X.K B (sAsg we gg) Dn σ H) : tAsg (eT X.K B we) g Dn σ H := by
  obtain ⟨F, I, S, ρ, dn, n, hw, k1, k2, k3, k4⟩ := h
  subst hg
  refine ⟨F, I, S, ρ, _, n, hw, ?_⟩
  rintro v H1 ⟨I1, S1, d1, e1, r1, q1, hw1⟩
  exact ⟨F, I1, S1, ρ, d1, _, n.next e1 r1, q1, hw1, fun σ2 H2 h2 => k1 _ _ (h2.from e1)⟩
theorem ds_asg {tg : Expr} {g : WG} (he : DE X B e we) (hg : DG X B tg g) (hs : swapsWithSole [tg] e pos.line X.env = pure false := by rfl) (hw : swappedStores [tg] e X.env = pure none := by rfl) (h1 : (assignEach [tg] X.env).map (·.2) = [assign tg X.env] := by rfl) : DS X B (.Assign [tg] e pos) (sAsg we g) :=
  PS_imp (ps_asg he hg hs hw h1) fun Dn σ H h => asg_read (te := eT X.K B we) (tg := tg) rfl h
/-- x, y = a, b -/
theorem ds_par {i j : Nat} {x y : Str} {px py pt : Pos} {kt k2 pt2} (hc : X.calm = true) (hN : X.N.Nodup) (hi : X.N[i]? = some x) (hj : X.N[j]? = some y) (hij : i ≠ j) (ha : DA X B [a, b] 2 ws)
    (h : PS X (.Assign [.Tuple [.Name x px, .Name y py] kt pt] (.Tuple [a, b] k2 pt2) pos) (tPar i j (aT X.K B 2 ws))) : DS X B (.Assign [.Tuple [.Name x px, .Name y py] kt pt] (.Tuple [a, b] k2 pt2) pos) (sPar i j ws) :=
  PS_imp h fun Dn σ H ⟨F, I, S, ρ, dn, n, hw, k1, k2, k3, k4⟩ => by
    refine ⟨F, I, S, ρ, _, n, hw, ?_⟩
    rintro vs H1 ⟨I1, S1, ds, e1, r1, q1, hl, hw1⟩
    split at hw1
    · obtain ⟨v, w, rfl, g1, g2⟩ := q1.two
      exact ⟨v, w, rfl, k1 _ _ ⟨I1, S1, _, e1, r1, ((n.sl.mono e1).set i g1).set j g2, hw1⟩⟩
    · exact hw1.elim
/-- while -/
def sWhile (c : WT) (body : WS) : WS := fun E D ρ S => ∃ P : Nat → Ro → Sto → Prop, (∃ m, P m ρ S) ∧ ∀ m ρ S, P m ρ S → c E ρ S fun b S1 =>
  if b = true then body E { D with nx := fun ρ' S' => ∃ m', m' < m ∧ P m' ρ' S', ct := fun ρ' S' => ∃ m', m' < m ∧ P m' ρ' S', bk := D.nx } ρ S1 else D.nx ρ S1
theorem ds_while {c : Expr} {body : List Stmt} {wc : WT} {wb : WS} (hp : PassesOwn (model X.prog X.w) X.A X.env X.xe) (hc : DT X B c wc) (hb : DSs X B body wb) : DS X B (.While c body [] pos) (sWhile wc wb) :=
  PS_imp (ps_while hp hc hb) fun Dn σ H ⟨F, I, S, ρ, dn, n, ⟨P, ⟨m0, p0⟩, hP⟩, k1, k2, k3, k4⟩ => by
    refine ⟨fun m σ' H' => ∃ I' S' ρ', Same I I' ∧ Now X.K B F I' S' σ' ρ' H' ∧ P m ρ' S', ⟨m0, I, S, ρ, Same.refl _, n, p0⟩, ?_⟩
    rintro m σ1 H1 ⟨I1, S1, ρ1, e1, n1, p1⟩
    refine ⟨F, I1, S1, ρ1, _, n1, hP m ρ1 S1 p1, ?_⟩
    rintro k H2 ⟨I2, S2, e2, r2, hw2⟩
    have n2 := n1.next e2 r2
    cases k with
    | false => exact iteF (k1 _ _ ⟨I2, S2, ρ1, e1.trans e2, r2, n2.sl, by simpa using hw2⟩)
    | true =>
      rw [if_pos rfl] at hw2
      refine iteT ⟨fun σ' H' => ∃ m', m' < m ∧ ∃ I' S' ρ', Same I I' ∧ Now X.K B F I' S' σ' ρ' H' ∧ P m' ρ' S', fun _ _ z => z, F, I2, S2, ρ1, _, n2, hw2, ?_, fun _ _ z => k2 _ _ (z.from (e1.trans e2)), fun _ _ z => k1 _ _ (z.from (e1.trans e2)), ?_⟩
      · rintro σ3 H3 ⟨I3, S3, ρ3, e3, r3, s3, m', hm, p3⟩
        exact ⟨m', hm, I3, S3, ρ3, (e1.trans e2).trans e3, n2.env e3 r3 s3, p3⟩
      · rintro σ3 H3 ⟨I3, S3, ρ3, e3, r3, s3, m', hm, p3⟩
        exact ⟨m', hm, I3, S3, ρ3, (e1.trans e2).trans e3, n2.env e3 r3 s3, p3⟩
end
end DL

set_option maxRecDepth 100000
set_option maxHeartbeats 4000000
/-! DA6: what is walked; for; list comprehensions. -/
namespace DL
open PySem PySem.Spec PyProof.Rows L2

/-- the walk J gives the data ds, one after another, while keep stands -/
def JOk (K : PySem.W.Frag) (T : List (Addr × Str)) (J : It) (I : Hp) (ds : List D) (keep : Sto → Prop) : Prop :=
  ∀ (F : Hp) (i : Nat) (H' I' : Hp) (S' : Sto), Same I I' → Rep K T F I' S' H' → keep S' →
    (∀ d, ds[i]? = some d → J.go i H' ∧ ∀ x H'', J.yld i H' x H'' → ∃ I'', Same I' I'' ∧ Rep K T F I'' S' H'' ∧ Den K I'' x d) ∧ (ds.length ≤ i → J.stop i H')
abbrev WI := WR → Ro → Sto → (List D → (Sto → Prop) → Sto → Prop) → Prop
def AftI (K : PySem.W.Frag) (B : Bx) (F I : Hp) (Φ : List D → (Sto → Prop) → Sto → Prop) (J : It) (H' : Hp) : Prop :=
  ∃ I' S' ds keep, Same I I' ∧ Rep K B.T F I' S' H' ∧ JOk K B.T J I' ds keep ∧ ds.length ≤ sizeLine ∧ Φ ds keep S'
def iT (K : PySem.W.Frag) (B : Bx) (w : WI) : TI := fun σ H R => ∃ F I S ρ Φ, Now K B F I S σ ρ H ∧ w B.E ρ S Φ ∧ ∀ J H', AftI K B F I Φ J H' → R J H'
def DI (X : Cx) (B : Bx) (tg iter : Expr) (w : WI) : Prop := PI X tg iter (iT X.K B w)
section
variable {X : Cx} {B : Bx} {tg e a b : Expr} {wa wb we : WE} {ws : WA} {pos p : Pos}
theorem PI_imp {t t' : TI} (h : PI X tg e t) (q : ∀ σ H R, t' σ H R → t σ H R) : PI X tg e t' := ⟨fun pins s σ H R I z => h.run pins s σ H R I (q _ _ _ z)⟩
theorem PI_or {t t' : TI} (h : PI X tg e t) (h' : PI X tg e t') : PI X tg e (fun σ H R => t σ H R ∨ t' σ H R) := ⟨fun pins s σ H R I z => z.elim (h.run pins s σ H R I) (h'.run pins s σ H R I)⟩
/-- how long a thing is at most is known of itself -/
def Short (K : PySem.W.Frag) (v : V) (H : Hp) : Prop := ∀ a xs, v = .ref a → (SqL K H a xs ∨ SqT K H a xs) → xs.length ≤ sizeLine
theorem PE_short {t : TE} (h : PE X e t) : PE X e (fun σ H Q => t σ H fun v H' => Short X.K v H' → Q v H') := ⟨fun pins s σ H Q I z =>
  thn (h.run pins s σ H _ I z) fun u s' ⟨v, H', I', r, q⟩ => ⟨v, H', I', r, q fun a xs _ hs => by
    rcases hs with hs | hs
    · obtain ⟨_, _, _, hz⟩ := I'.list hs
      exact hz
    · obtain ⟨_, _, _, hz⟩ := I'.tuple hs
      exact hz⟩⟩
theorem PA_short {es : List Expr} {t : TA} (h : PA X es t) : PA X es (fun σ H Q => t σ H fun vs H' => (∀ v ∈ vs, Short X.K v H') → Q vs H') := ⟨fun pos pins s σ H Q I z =>
  thn (h.run pos pins s σ H _ I z) fun u s' ⟨v, H', I', r, q⟩ => ⟨v, H', I', r, q fun _ _ a xs _ hs => by
    rcases hs with hs | hs
    · obtain ⟨_, _, _, hz⟩ := I'.list hs
      exact hz
    · obtain ⟨_, _, _, hz⟩ := I'.tuple hs
      exact hz⟩⟩
def keepOf (d : D) (ds : List D) : Sto → Prop := match d with
  | .ptr a => fun S => S a = some (.lst ds)
  | _ => fun _ => True
theorem keep_now {S : Sto} {d : D} {ds : List D} (h : res S d = .lst ds) : keepOf d ds S := by
  cases d with
  | ptr a =>
    unfold res at h
    dsimp only at h
    split at h
    · rename_i es q
      cases h
      exact q
    · cases h
  | _ => trivial
/-- a list that stands, or is kept, is what it was -/
theorem list_kept {K : PySem.W.Frag} {T : List (Addr × Str)} {F F' I I' : Hp} {S S' : Sto} {H H' : Hp} {a : Addr} {d : D} {ds : List D} (r : Rep K T F I S H) (hd : Den K I (.ref a) d) (e : res S d = .lst ds) (s : Same I I') (r' : Rep K T F' I' S' H') (k : keepOf d ds S') : ∃ xs, Rd H' a (.lst xs) ∧ DenA K I' xs ds := by
  cases hd with
  | lst h1 h2 => cases e; exact ⟨_, rdMono r'.imm (rdMono s h1), h2.mono s⟩
  | ptr _ =>
    obtain ⟨xs, h1, h2⟩ := (r'.mto a _ k).2.2
    exact ⟨xs, .inl h1, h2⟩
  | tup _ _ => cases e
  | drum _ => cases e
  | exc _ _ _ => cases e
  | lim _ _ _ => cases e
theorem rd_inj {H : Hp} {a : Addr} {xs ys : List V} (h : Rd H a (.lst xs)) (h' : Rd H a (.lst ys)) : xs = ys := by
  rcases h with h | ⟨o, h⟩ <;> rcases h' with h' | ⟨o', h'⟩ <;> rw [h] at h' <;> cases h' <;> rfl
theorem jok_list {K : PySem.W.Frag} {T : List (Addr × Str)} {F I : Hp} {S : Sto} {H : Hp} {a : Addr} {d : D} {ds : List D} (r : Rep K T F I S H) (hd : Den K I (.ref a) d) (e : res S d = .lst ds) : JOk K T (Itl K a) I ds (keepOf d ds) := by
  intro F' i H' I' S' s r' k
  obtain ⟨xs, h1, h2⟩ := list_kept r hd e s r' k
  refine ⟨fun d hd => ?_, fun hl => ⟨xs, .inl h1, by rw [h2.length]; exact hl⟩⟩
  obtain ⟨v, q1, q2⟩ := h2.get hd
  refine ⟨⟨xs, v, .inl h1, q1⟩, fun x H'' ⟨z1, z2⟩ => ?_⟩
  subst z1
  have q3 := z2 xs (.inl h1)
  rw [q1] at q3
  cases q3
  exact ⟨I', Same.refl _, r', q2⟩
theorem jok_tup {K : PySem.W.Frag} {T : List (Addr × Str)} {I : Hp} {a : Addr} {ds : List D} (hd : Den K I (.ref a) (.tup ds)) : JOk K T (Itt K a) I ds (fun _ => True) := by
  intro F' i H' I' S' s r' _
  cases hd with
  | tup g1 g2 =>
    have h1 := seqT r'.imm (seqT s g1)
    have h2 := g2.mono s
    refine ⟨fun d hd => ?_, fun hl => ⟨_, h1, by rw [h2.length]; exact hl⟩⟩
    obtain ⟨v, q1, q2⟩ := h2.get hd
    refine ⟨⟨_, v, h1, q1⟩, fun x H'' ⟨z1, z2⟩ => ?_⟩
    subst z1
    have q3 := z2 _ h1
    rw [q1] at q3
    cases q3
    exact ⟨I', Same.refl _, r', q2⟩
def signsD (z : Str) : List D := z.cps.toList.map fun c => D.str ⟨#[c]⟩
theorem jok_str {K : PySem.W.Frag} {T : List (Addr × Str)} {I : Hp} {z : Str} : JOk K T (Its z) I (signsD z) (fun _ => True) := by
  intro F' i H' I' S' s r' _
  have hl : (signsD z).length = z.cps.size := by unfold signsD; rw [List.length_map]; exact Array.length_toList
  refine ⟨fun d hd => ?_, fun h => by show z.cps.size ≤ i; rw [← hl]; exact h⟩
  have hi : i < z.cps.size := by rw [← hl]; exact (List.getElem?_eq_some_iff.mp hd).1
  refine ⟨hi, fun x H'' ⟨z1, c, z2, z3⟩ => ?_⟩
  subst z1 z3
  unfold signsD at hd
  rw [List.getElem?_map, Array.getElem?_toList, z2] at hd
  cases hd
  exact ⟨I', Same.refl _, r', .str _⟩
/-- over a list, a tuple or a text -/
def wISeq (we : WE) : WI := fun E ρ S Φ => we E ρ S fun d S1 => match res S1 d with
  | .lst ds => Φ ds (keepOf d ds) S1
  | .tup ds => Φ ds (fun _ => True) S1
  | .str z => z.length ≤ sizeLine ∧ Φ (signsD z) (fun _ => True) S1
  | _ => False
def iSeq (K : PySem.W.Frag) (te : TE) : TI := fun σ H R => te σ H fun x H1 => (∃ a, x = .ref a ∧ (∃ xs, SqL K H1 a xs) ∧ R (Itl K a) H1) ∨ (∃ a, x = .ref a ∧ (∃ xs, SqT K H1 a xs) ∧ R (Itt K a) H1) ∨ ∃ z, x = .str z ∧ R (Its z) H1
theorem pi_seq {te : TE} (h : PE X e te) : PI X tg e (iSeq X.K te) := by
  refine ⟨fun pins s0 σ H R I0 hw => thn (h.run pins s0 σ H _ I0 hw) fun u s ⟨x, H1, I, rx, hq⟩ => ?_⟩
  have one : ∀ c, c ∈ [s.heap.objs.size] → FpOk X pins H1 c := fun c hc => by
    rw [show c = s.heap.objs.size by simpa using hc]
    exact I.fpOk (Nat.le_refl _) (I.hok.fresh (Nat.le_refl _))
  rcases hq with ⟨a, rfl, ⟨xs, hx⟩, q⟩ | ⟨a, rfl, ⟨xs, hx⟩, q⟩ | ⟨z, rfl, q⟩
  · cases rx
    obtain ⟨its, _, hp, _⟩ := I.list hx
    refine wpAny_pyIter_list hp.isList ?_
    exact ⟨_, [s.heap.objs.size], _, _, _, rfl, I.kept (t' := s.toks) fun c o q => Heap.get?_push_of_some _ q, turn_list a _, ⟨_, Heap.get?_push_size _ rfl, rfl, rfl⟩, one, q⟩
  · cases rx
    obtain ⟨its, _, hp, _⟩ := I.tuple hx
    refine wpAny_pyIter_tuple (show s.heap.IsTuple a its.toArray from hp) ?_
    exact ⟨_, [s.heap.objs.size], _, _, _, rfl, I.kept (t' := s.toks) fun c o q => Heap.get?_push_of_some _ q, turn_tuple a _, ⟨_, Heap.get?_push_size _ rfl, rfl, rfl⟩, one, q⟩
  · obtain ⟨t, rfl⟩ := rx
    cases hz : z.cps.all (· < 128)
    · exact wpAny_pyIter_wide hz (pi_one (tk := s.toks) I _ (turn_str _ z t "str_iterator" (.inr rfl)) ⟨_, Heap.get?_push_size _ rfl, rfl, rfl⟩ q)
    · exact wpAny_pyIter_ascii hz (pi_one (tk := s.toks) I _ (turn_str _ z t "str_ascii_iterator" (.inl rfl)) ⟨_, Heap.get?_push_size _ rfl, rfl, rfl⟩ q)
theorem di_seq (h : DE X B e we) : DI X B tg e (wISeq we) :=
  PI_imp (pi_seq (PE_short h)) fun σ H R ⟨F, I, S, ρ, Φ, n, hw, hq⟩ => by
    refine ⟨F, I, S, ρ, _, n, hw, ?_⟩
    rintro v H1 ⟨I1, S1, d1, e1, r1, q1, hf⟩ hs
    split at hf
    · rename_i ds e
      obtain ⟨a, xs, rfl, h1, h2⟩ := r1.lst q1 e
      exact .inl ⟨a, rfl, ⟨xs, .inl h1⟩, hq _ _ ⟨I1, S1, ds, _, e1, r1, jok_list r1 q1 e, by rw [← h2.length]; exact hs a xs rfl (.inl (.inl h1)), hf⟩⟩
    · rename_i ds e
      cases res_tup e
      obtain ⟨a, xs, rfl, h1, h2⟩ := r1.tup q1
      exact .inr (.inl ⟨a, rfl, ⟨xs, h1⟩, hq _ _ ⟨I1, S1, ds, _, e1, r1, jok_tup q1, by rw [← h2.length]; exact hs a xs rfl (.inr h1), hf⟩⟩)
    · rename_i z e
      cases res_str e
      cases q1
      refine .inr (.inr ⟨_, rfl, hq _ _ ⟨I1, S1, _, _, e1, r1, jok_str, ?_, hf.2⟩⟩)
      unfold signsD
      rw [List.length_map]
      exact hf.1
    · exact hf.elim
/-! ### ranges -/
def rngD (lo : Int) (n : Nat) : List D := (List.range n).map fun (k : Nat) => D.int (lo + (k : Int))
theorem rngD_length (lo : Int) (n : Nat) : (rngD lo n).length = n := by unfold rngD; simp
theorem jok_rng {K : PySem.W.Frag} {T : List (Addr × Str)} {I : Hp} {lo : Int} {n : Nat} : JOk K T (Itr lo n) I (rngD lo n) (fun _ => True) := by
  intro F' i H' I' S' s r' _
  refine ⟨fun d hd => ?_, fun hl => by rw [rngD_length] at hl; exact hl⟩
  have hi : i < n := by
    have z := (List.getElem?_eq_some_iff.mp hd).1
    rwa [rngD_length] at z
  refine ⟨hi, fun x H'' ⟨z1, z2⟩ => ?_⟩
  subst z1 z2
  unfold rngD at hd
  rw [List.getElem?_map, List.getElem?_range hi] at hd
  cases hd
  exact ⟨I', Same.refl _, r', .int _⟩
def wIRng (ws : WA) : WI := fun E ρ S Φ => ws E ρ S fun ds S1 => match ds with
  | [.int n] => -(2 ^ 62) ≤ n ∧ n.toNat ≤ sizeLine ∧ Φ (rngD 0 n.toNat) (fun _ => True) S1
  | [.int i, .int j] => (-(2 ^ 62) ≤ i ∧ i < 2 ^ 62 ∧ -(2 ^ 62) ≤ j ∧ j < 2 ^ 62) ∧ (j - i).toNat ≤ sizeLine ∧ Φ (rngD i (j - i).toNat) (fun _ => True) S1
  | _ => False
theorem di_rng1 (hg : Gl X "range") (hm : X.mg "range" = none) (ha : DA X B [a] 1 ws) (hs : starEach [a] X.env = [(false, eval a X.env)] := by rfl) : DI X B tg (.Call (.Name "range" p) [a] [] pos) (wIRng ws) :=
  PI_imp (pi_range1 hg hm ha hs) fun σ H R ⟨F, I, S, ρ, Φ, n, hw, hq⟩ => by
    refine ⟨F, I, S, ρ, _, n, hw, ?_⟩
    rintro vs H1 ⟨I1, S1, ds, e1, r1, q1, hl, hf⟩
    split at hf
    · rename_i n
      obtain ⟨v, rfl, h1⟩ := q1.one
      cases h1
      refine ⟨n, rfl, hf.1, ?_, hq _ _ ⟨I1, S1, _, _, e1, r1, jok_rng, by rw [rngD_length]; exact hf.2.1, hf.2.2⟩⟩
      have z : (sizeLine : Nat) < 2 ^ 62 := by rw [sizeLine_eq]; decide
      have z2 := hf.2.1
      omega
    · cases hl
    · exact hf.elim
theorem di_rng2 (hg : Gl X "range") (hm : X.mg "range" = none) (ha : DA X B [a, b] 2 ws) (hs : starEach [a, b] X.env = [(false, eval a X.env), (false, eval b X.env)] := by rfl) (hs2 : starEach [b] X.env = [(false, eval b X.env)] := by rfl) :
    DI X B tg (.Call (.Name "range" p) [a, b] [] pos) (wIRng ws) :=
  PI_imp (pi_range2 hg hm ha hs hs2) fun σ H R ⟨F, I, S, ρ, Φ, n, hw, hq⟩ => by
    refine ⟨F, I, S, ρ, _, n, hw, ?_⟩
    rintro vs H1 ⟨I1, S1, ds, e1, r1, q1, hl, hf⟩
    split at hf
    · cases hl
    · rename_i i j
      obtain ⟨v, w, rfl, h1, h2⟩ := q1.two
      cases h1
      cases h2
      exact ⟨i, j, rfl, hf.1, hq _ _ ⟨I1, S1, _, _, e1, r1, jok_rng, by rw [rngD_length]; exact hf.2.1, hf.2.2⟩⟩
    · exact hf.elim
/-! ### zip -/
def zipD (xs ys : List D) : List D := List.zipWith (fun x y => D.tup [x, y]) xs ys
theorem zip_get {xs ys : List D} {i : Nat} {d : D} (h : (zipD xs ys)[i]? = some d) : ∃ x y, xs[i]? = some x ∧ ys[i]? = some y ∧ d = .tup [x, y] := by
  unfold zipD at h
  rw [List.getElem?_zipWith] at h
  cases h1 : xs[i]? with
  | none => rw [h1] at h; cases h
  | some x =>
    cases h2 : ys[i]? with
    | none => rw [h1, h2] at h; cases h
    | some y => rw [h1, h2] at h; cases h; exact ⟨x, y, rfl, rfl, rfl⟩
theorem jok_zipL {K : PySem.W.Frag} {T : List (Addr × Str)} {F I : Hp} {S : Sto} {H : Hp} {a b : Addr} {d e : D} {ds es : List D} (r : Rep K T F I S H) (hd : Den K I (.ref a) d) (h1 : res S d = .lst ds) (he : Den K I (.ref b) e) (h2 : res S e = .lst es) :
    JOk K T (Itz K a b) I (zipD ds es) (fun S => keepOf d ds S ∧ keepOf e es S) := by
  intro F' i H' I' S' s r' ⟨k1, k2⟩
  obtain ⟨xs, g1, g2⟩ := list_kept r hd h1 s r' k1
  obtain ⟨ys, g3, g4⟩ := list_kept r he h2 s r' k2
  refine ⟨fun z hz => ?_, fun hl => ⟨xs, ys, .inl g1, .inl g3, ?_⟩⟩
  · obtain ⟨x, y, hx, hy, rfl⟩ := zip_get hz
    obtain ⟨v, q1, q2⟩ := g2.get hx
    obtain ⟨w, q3, q4⟩ := g4.get hy
    refine ⟨⟨xs, ys, v, w, .inl g1, .inl g3, q1, q3⟩, fun x' H'' ⟨t, x2, y2, z1, z2, z3, z4, z5⟩ => ?_⟩
    subst z1 z3
    have q5 := z4 xs (.inl g1)
    have q6 := z5 ys (.inl g3)
    rw [q1] at q5
    rw [q3] at q6
    cases q5
    cases q6
    exact ⟨_, r'.same z2, r'.new z2 nt_tup, .tup (.of upd_same) (.cons (q2.mono (r'.same z2)) (.cons (q4.mono (r'.same z2)) .nil))⟩
  · unfold zipD at hl
    rw [List.length_zipWith] at hl
    rw [g2.length, g4.length]
    omega
theorem jok_zipT {K : PySem.W.Frag} {T : List (Addr × Str)} {I : Hp} {a b : Addr} {ds es : List D} (hd : Den K I (.ref a) (.tup ds)) (he : Den K I (.ref b) (.tup es)) : JOk K T (RZ.ItzT K a b) I (zipD ds es) (fun _ => True) := by
  intro F' i H' I' S' s r' _
  cases hd with
  | tup g1 g2 =>
    cases he with
    | tup g3 g4 =>
      have g1 := seqT r'.imm (seqT s g1)
      have g3 := seqT r'.imm (seqT s g3)
      have g2 := g2.mono s
      have g4 := g4.mono s
      refine ⟨fun z hz => ?_, fun hl => ⟨_, _, g1, g3, ?_⟩⟩
      · obtain ⟨x, y, hx, hy, rfl⟩ := zip_get hz
        obtain ⟨v, q1, q2⟩ := g2.get hx
        obtain ⟨w, q3, q4⟩ := g4.get hy
        refine ⟨⟨_, _, v, w, g1, g3, q1, q3⟩, fun x' H'' ⟨t, x2, y2, z1, z2, z3, z4, z5⟩ => ?_⟩
        subst z1 z3
        have q5 := z4 _ g1
        have q6 := z5 _ g3
        rw [q1] at q5
        rw [q3] at q6
        cases q5
        cases q6
        exact ⟨_, r'.same z2, r'.new z2 nt_tup, .tup (.of upd_same) (.cons (q2.mono (r'.same z2)) (.cons (q4.mono (r'.same z2)) .nil))⟩
      · unfold zipD at hl
        rw [List.length_zipWith] at hl
        rw [g2.length, g4.length]
        omega
def wIZip (ws : WA) : WI := fun E ρ S Φ => ws E ρ S fun ds S1 => match ds with
  | [d, e] => (match res S1 d, res S1 e with
    | .lst xs, .lst ys => Φ (zipD xs ys) (fun S => keepOf d xs S ∧ keepOf e ys S) S1
    | .tup xs, .tup ys => Φ (zipD xs ys) (fun _ => True) S1
    | _, _ => False)
  | _ => False
theorem zip_short {K : PySem.W.Frag} {I : Hp} {vs : List V} {xs ys : List D} (h : DenA K I vs xs) (hs : vs.length ≤ sizeLine) : (zipD xs ys).length ≤ sizeLine := by
  unfold zipD
  rw [List.length_zipWith, ← h.length]
  omega
theorem di_zip {elts : List Expr} {kk : Nat} {tpos : Pos} (hg : Gl X "zip") (hm : X.mg "zip" = none) (ha : DA X B [a, b] 2 ws) (hs : starEach [a, b] X.env = (false, eval a X.env) :: starEach [b] X.env := by rfl)
    (hpl : (backTo pos (starEach [b] X.env)).any (·.1) = false := by rfl) : DI X B (.Tuple elts kk tpos) (.Call (.Name "zip" p) [a, b] [] pos) (wIZip ws) :=
  PI_imp (RZ.pi_zipA hg hm (PA_short ha) hs hpl) fun σ H R ⟨F, I, S, ρ, Φ, n, hw, hq⟩ => by
    refine ⟨F, I, S, ρ, _, n, hw, ?_⟩
    rintro vs H1 ⟨I1, S1, ds, e1, r1, q1, hl, hf⟩ hsh
    split at hf
    · obtain ⟨v, w, rfl, h1, h2⟩ := q1.two
      split at hf
      · rename_i xs ys g1 g2
        obtain ⟨a, us, rfl, k1, k2⟩ := r1.lst h1 g1
        obtain ⟨b, ws, rfl, k3, k4⟩ := r1.lst h2 g2
        exact ⟨a, b, us, ws, rfl, .inl ⟨.inl k1, .inl k3, hq _ _ ⟨I1, S1, _, _, e1, r1, jok_zipL r1 h1 g1 h2 g2, zip_short k2 (hsh _ (by simp) a us rfl (.inl (.inl k1))), hf⟩⟩⟩
      · rename_i xs ys g1 g2
        cases res_tup g1
        cases res_tup g2
        obtain ⟨a, us, rfl, k1, k2⟩ := r1.tup h1
        obtain ⟨b, ws, rfl, k3, k4⟩ := r1.tup h2
        exact ⟨a, b, us, ws, rfl, .inr ⟨k1, k3, hq _ _ ⟨I1, S1, _, _, e1, r1, jok_zipT h1 h2, zip_short k2 (hsh _ (by simp) a us rfl (.inr k1)), hf⟩⟩⟩
      · exact hf.elim
    · exact hf.elim

/-! ### for -/
def forD (g : D → Ro → Sto → (Ro → Sto → Prop) → Prop) (body : DEnds → Ro → Sto → Prop) (keep : Sto → Prop) (D' : DEnds) : List D → Ro → Sto → Prop
  | [], ρ, S => keep S ∧ D'.nx ρ S
  | d :: r, ρ, S => keep S ∧ g d ρ S fun ρ1 S1 => body { D' with nx := forD g body keep D' r, ct := forD g body keep D' r, bk := D'.nx } ρ1 S1
def sFor (wi : WI) (g : WG) (body : WS) : WS := fun E D ρ S => wi E ρ S fun ds keep S1 => forD (g E) (body E) keep D ds ρ S1
theorem ds_for {iter : Expr} {body : List Stmt} {wi : WI} {g : WG} {wb : WS} (hp : PassesOwn (model X.prog X.w) X.A X.env X.xe) (hc : X.calm = true) (hi : DI X B tg iter wi) (hg : DG X B tg g) (hb : DSs X B body wb)
    (hs : ∀ x, foldedSetIterable iter X.env x = pure x := by intro _; rfl) : DS X B (.For tg iter body [] pos) (sFor wi g wb) :=
  PS_imp (ps_for hp hc hi hg hb hs) fun Dn σ H ⟨F, I, S, ρ, dn, n, hw, k1, k2, k3, k4⟩ => by
    refine ⟨F, I, S, ρ, _, n, hw, ?_⟩
    rintro J H1 ⟨I1, S1, ds, keep, e1, r1, jk, hz, hf⟩
    refine ⟨fun i m σ' H' => m = ds.length - i ∧ i ≤ ds.length ∧ ∃ I' S' ρ', Same I1 I' ∧ Now X.K B F I' S' σ' ρ' H' ∧ forD (g B.E) (wb B.E) keep dn (ds.drop i) ρ' S', ⟨ds.length, by simp, Nat.zero_le _, I1, S1, ρ, Same.refl _, n.next e1 r1, hf⟩, ?_⟩
    rintro i m σ2 H2 ⟨rfl, hi, I2, S2, ρ2, e2, n2, f2⟩
    by_cases hlt : i < ds.length
    · have hd : ds[i]? = some ds[i] := List.getElem?_eq_getElem hlt
      rw [List.drop_eq_getElem_cons hlt] at f2
      obtain ⟨hk, f2⟩ := f2
      obtain ⟨go, yl⟩ := (jk F i H2 I2 S2 e2 n2.rep hk).1 _ hd
      refine .inr ⟨go, fun σ' H' => ∃ I' S' ρ', Same I1 I' ∧ Now X.K B F I' S' σ' ρ' H' ∧ forD (g B.E) (wb B.E) keep dn (ds.drop (i + 1)) ρ' S', fun σ' H' ⟨I', S', ρ', a1, a2, a3⟩ => ⟨ds.length - (i + 1), by omega, rfl, hlt, I', S', ρ', a1, a2, a3⟩, fun x H3 hy => ?_⟩
      obtain ⟨I3, e3, r3, q3⟩ := yl x H3 hy
      refine ⟨F, I3, S2, ρ2, _, _, n2.next e3 r3, q3, f2, ?_⟩
      rintro σ4 H4 ⟨I4, S4, ρ4, e4, r4, s4, f4⟩
      have n4 : Now X.K B F I4 S4 σ4 ρ4 H4 := n2.env (e3.trans e4) r4 s4
      have e14 := (e2.trans e3).trans e4
      refine ⟨F, I4, S4, ρ4, _, n4, f4, ?_, fun _ _ z => k2 _ _ (z.from (e1.trans e14)), fun _ _ z => k1 _ _ (z.from (e1.trans e14)), ?_⟩
      · rintro σ5 H5 ⟨I5, S5, ρ5, e5, r5, s5, f5⟩
        exact ⟨I5, S5, ρ5, e14.trans e5, n4.env e5 r5 s5, f5⟩
      · rintro σ5 H5 ⟨I5, S5, ρ5, e5, r5, s5, f5⟩
        exact ⟨I5, S5, ρ5, e14.trans e5, n4.env e5 r5 s5, f5⟩
    · have e : i = ds.length := by omega
      subst e
      rw [List.drop_length] at f2
      obtain ⟨hk, f2⟩ := f2
      exact .inl ⟨(jk F _ H2 I2 S2 e2 n2.rep hk).2 (Nat.le_refl _), k1 _ _ ⟨I2, S2, ρ2, e1.trans e2, n2.rep, n2.sl, f2⟩⟩
end
end DL

set_option maxRecDepth 100000
set_option maxHeartbeats 4000000
/-! DA7: list comprehensions over data. -/
namespace DL
open PySem PySem.Spec PyProof.Rows L2

/-! ### wiped names -/
def wipeE (ρ : Ro) : List Nat → Ro
  | [] => ρ
  | v :: vs => (wipeE ρ vs).set v none
theorem wipe_slots {K : PySem.W.Frag} {I : Hp} {σ : L2.St} {ρ : Ro} (h : Slots K I σ ρ) : ∀ vs : List Nat, Slots K I (wipe σ vs) (wipeE ρ vs)
  | [] => h
  | v :: vs => (wipe_slots h vs).unset v
theorem wipe_get (σ : L2.St) : ∀ (vs : List Nat) (j : Nat), (wipe σ vs)[j]? = if j ∈ vs then (if j < σ.length then some none else none) else σ[j]?
  | [], j => by simp [wipe]
  | v :: vs, j => by
    unfold wipe
    rw [List.getElem?_set, wipe_length]
    by_cases h : v = j
    · subst h
      simp
    · rw [if_neg h, wipe_get σ vs j]
      have h2 : j ≠ v := Ne.symm h
      simp [h2]
theorem wipe_set {σ : L2.St} {i : Nat} {x : Option V} {vs : List Nat} (h : i ∈ vs) : wipe (σ.set i x) vs = wipe σ vs := by
  apply List.ext_getElem?
  intro j
  rw [wipe_get, wipe_get, List.length_set]
  by_cases hj : j ∈ vs
  · rw [if_pos hj, if_pos hj]
  · rw [if_neg hj, if_neg hj]
    exact List.getElem?_set_ne (fun e => hj (by rw [← e]; exact h))
/-- a target that stores to the names vs alone -/
def TgC (K : PySem.W.Frag) (T : List (Addr × Str)) (vs : List Nat) (gH : TG) (g : D → Ro → Sto → (Ro → Sto → Prop) → Prop) : Prop := ∀ (F I : Hp) (S : Sto) (σ : L2.St) (ρ : Ro) (H : Hp) (v : V) (d : D) (Φ : Ro → Sto → Prop) (Q : L2.St → Hp → Prop),
  Rep K T F I S H → Slots K I σ ρ → Den K I v d → g d ρ S Φ → (∀ σ' ρ' S', wipe σ' vs = wipe σ vs → Slots K I σ' ρ' → Rep K T F I S' H → Φ ρ' S' → Q σ' H) → gH v σ H Q
def TgCs (K : PySem.W.Frag) (T : List (Addr × Str)) (vs : List Nat) (gH : TGs) (g : List D → Ro → Sto → (Ro → Sto → Prop) → Prop) : Prop := ∀ (F I : Hp) (S : Sto) (σ : L2.St) (ρ : Ro) (H : Hp) (v : List V) (d : List D) (Φ : Ro → Sto → Prop) (Q : L2.St → Hp → Prop),
  Rep K T F I S H → Slots K I σ ρ → DenA K I v d → g d ρ S Φ → (∀ σ' ρ' S', wipe σ' vs = wipe σ vs → Slots K I σ' ρ' → Rep K T F I S' H → Φ ρ' S' → Q σ' H) → gH v σ H Q
section
variable {K : PySem.W.Frag} {T : List (Addr × Str)} {vs : List Nat} {E : WR}
theorem tgc_name {i : Nat} (h : i ∈ vs) : TgC K T vs (gName i) (gNm i E) := fun F I S σ ρ H v d Φ Q r s hd hg hq => hq _ _ _ (wipe_set h) (s.set i hd) r hg
theorem tgcs_nil : TgCs K T vs gNil (gNl E) := fun F I S σ ρ H v d Φ Q r s hd hg hq => by
  cases hd with
  | nil => exact ⟨rfl, hq _ _ _ rfl s r hg⟩
  | cons _ _ => exact hg.elim
theorem tgcs_cons {g1 : TG} {g2 : TGs} {w1 : WG} {w2 : WGs} (h1 : TgC K T vs g1 (w1 E)) (h2 : TgCs K T vs g2 (w2 E)) : TgCs K T vs (gCons g1 g2) (gCn w1 w2 E) := fun F I S σ ρ H v d Φ Q r s hd hg hq => by
  cases hd with
  | nil => exact hg.elim
  | @cons v us d ds q t =>
    refine ⟨v, us, rfl, h1 F I S σ ρ H v d _ _ r s q hg fun σ1 ρ1 S1 e1 s1 r1 g1 => ?_⟩
    exact h2 F I S1 σ1 ρ1 H us ds _ _ r1 s1 t g1 fun σ2 ρ2 S2 e2 s2 r2 g2 => hq _ _ _ (e2.trans e1) s2 r2 g2
theorem tgc_tup {n : Nat} {gs : TGs} {ws : WGs} (h : TgCs K T vs gs (ws E)) : TgC K T vs (fun v σ H Q => gTup K n gs v σ H Q ∨ gLst K n gs v σ H Q) (gTp n ws E) := fun F I S σ ρ H v d Φ Q r s hd hg hq => by
  unfold gTp at hg
  split at hg
  · rename_i ds e
    cases res_tup e
    obtain ⟨a, xs, rfl, h1, h2⟩ := r.tup hd
    exact .inl ⟨a, xs, rfl, h1, by rw [h2.length]; exact hg.1, h F I S σ ρ H xs ds Φ Q r s h2 hg.2 hq⟩
  · rename_i ds e
    obtain ⟨a, xs, rfl, h1, h2⟩ := r.lst hd e
    exact .inr ⟨a, xs, rfl, .inl h1, by rw [h2.length]; exact hg.1, h F I S σ ρ H xs ds Φ Q r s h2 hg.2 hq⟩
  · exact hg.elim
end

/-! ### the new list is hidden while it grows -/
section
variable {K : PySem.W.Frag} {T : List (Addr × Str)} {F I : Hp} {S : Sto} {H : Hp} {p : Addr} {o u : HO}
theorem Rep.hide (r : Rep K T F I S H) (h : H p = none) (nt : ∀ ps, o ≠ .tbl ps) : Rep K T (upd F p o) I S (upd H p o) where
  imm := fun b w e => by rw [upd_ne (ne_of_none e (r.freeI h))]; exact r.imm b w e
  frm := fun b w e => by
    by_cases hb : b = p
    · subst hb; rw [upd_same] at e ⊢; exact ⟨e, r.freeI h⟩
    · rw [upd_ne hb] at e ⊢; exact r.frm b w e
  mto := fun b m e => by
    have hb : b ≠ p := fun z => by subst z; rw [r.freeS h] at e; cases e
    obtain ⟨z1, z2, z3⟩ := r.mto b m e
    exact ⟨z1, by rw [upd_ne hb]; exact z2, z3.mono (Same.refl _) fun o q => by rw [upd_ne hb]; exact q⟩
  tab := r.tab.ext fun b w e => by rw [upd_ne (ne_of_none e h)]; exact e
  ntb := fun b ps => ⟨(r.ntb b ps).1, fun e => by
    by_cases hb : b = p
    · subst hb; rw [upd_same] at e; exact nt ps (Option.some.inj e)
    · rw [upd_ne hb] at e; exact (r.ntb b ps).2 e⟩
theorem Rep.rehide (r : Rep K T (upd F p u) I S H) (n1 : ∀ ps, u ≠ .tbl ps) (n2 : ∀ φ, u ≠ .ext φ) (nt : ∀ ps, o ≠ .tbl ps) : Rep K T (upd F p o) I S (upd H p o) := by
  obtain ⟨hp, ip⟩ := r.frm p u upd_same
  refine ⟨fun b w e => ?_, fun b w e => ?_, fun b m e => ?_, tabs_upd r.tab hp n1 n2, fun b ps => ⟨(r.ntb b ps).1, fun e => ?_⟩⟩
  · rw [upd_ne (ne_of_none e ip)]; exact r.imm b w e
  · by_cases hb : b = p
    · subst hb; rw [upd_same] at e ⊢; exact ⟨e, ip⟩
    · rw [upd_ne hb] at e ⊢
      exact r.frm b w (by rw [upd_ne hb]; exact e)
  · obtain ⟨z1, z2, z3⟩ := r.mto b m e
    have hb : b ≠ p := fun z => by rw [z, upd_same] at z2; cases z2
    rw [upd_ne hb] at z2
    exact ⟨z1, by rw [upd_ne hb]; exact z2, z3.mono (Same.refl _) fun o q => by rw [upd_ne hb]; exact q⟩
  · by_cases hb : b = p
    · subst hb; rw [upd_same] at e; exact nt ps (Option.some.inj e)
    · rw [upd_ne hb] at e
      exact (r.ntb b ps).2 (by rw [upd_ne hb]; exact e)
theorem Rep.unhide (r : Rep K T (upd F p u) I S H) (fp : F p = none) : Rep K T F (upd I p u) S H ∧ Same I (upd I p u) := by
  obtain ⟨hp, ip⟩ := r.frm p u upd_same
  have sm : Same I (upd I p u) := same_upd ip
  refine ⟨⟨fun b w e => ?_, fun b w e => ?_, fun b m e => ?_, r.tab, fun b ps => ⟨fun e => ?_, fun e => ?_⟩⟩, sm⟩
  · by_cases hb : b = p
    · subst hb; rw [upd_same] at e; rw [← e]; exact hp
    · rw [upd_ne hb] at e; exact r.imm b w e
  · have hb : b ≠ p := ne_of_none e fp
    obtain ⟨z1, z2⟩ := r.frm b w (by rw [upd_ne hb]; exact e)
    exact ⟨z1, by rw [upd_ne hb]; exact z2⟩
  · obtain ⟨z1, z2, z3⟩ := r.mto b m e
    have hb : b ≠ p := fun z => by rw [z, upd_same] at z2; cases z2
    rw [upd_ne hb] at z2
    exact ⟨by rw [upd_ne hb]; exact z1, z2, z3.mono sm fun _ q => q⟩
  · by_cases hb : b = p
    · subst hb
      rw [upd_same] at e
      exact (r.ntb b ps).2 (by rw [upd_same]; exact e)
    · rw [upd_ne hb] at e
      exact (r.ntb b ps).1 e
  · have hb : b ≠ p := ne_of_none e fp
    exact (r.ntb b ps).2 (by rw [upd_ne hb]; exact e)
end

/-! ### the comprehension -/
def wYes : WT := fun _ _ S Φ => Φ true S
def compD (g : D → Ro → Sto → (Ro → Sto → Prop) → Prop) (tt : Ro → Sto → (Bool → Sto → Prop) → Prop) (te : Ro → Sto → (D → Sto → Prop) → Prop) (keep : Sto → Prop) (ρ0 : Ro) : List D → List D → Sto → (List D → Sto → Prop) → Prop
  | [], acc, S, Φ => keep S ∧ Φ acc S
  | d :: r, acc, S, Φ => keep S ∧ g d ρ0 S fun ρ1 S1 => tt ρ1 S1 fun b S2 => if b = true then te ρ1 S2 fun y S3 => compD g tt te keep ρ0 r (acc ++ [y]) S3 Φ else compD g tt te keep ρ0 r acc S2 Φ
def noE : WR := fun _ _ => False
def wComp (wi : WI) (g : WG) (tt : WT) (te : WE) (vs : List Nat) : WE := fun E ρ S Φ => wi E ρ S fun ds keep S1 => compD (g noE) (tt noE) (te noE) keep (wipeE ρ vs) ds [] S1 fun acc S2 => Φ (.lst acc) S2
def Bx.in (B : Bx) : Bx := { B with E := noE }
section
variable {X : Cx} {B : Bx}
/-- a clause's tests -/
def DTs (X : Cx) (B : Bx) (ifs : List Expr) (w : WT) : Prop := PTs X ifs (tT X.K B w)
theorem PTs_imp {ifs : List Expr} {t t' : TT} (h : PTs X ifs t) (q : ∀ σ H Q, t' σ H Q → t σ H Q) : PTs X ifs t' := ⟨fun pins s σ H Q I z => h.run pins s σ H Q I (q _ _ _ z)⟩
theorem dts_nil : DTs X B [] wYes := PTs_imp pts_nil fun σ H Q ⟨F, I, S, ρ, Φ, n, hw, hq⟩ => hq _ _ ⟨I, S, Same.refl _, n.rep, hw⟩
theorem dts_one {c : Expr} {w : WT} (h : DT X B c w) : DTs X B [c] w := pts_one h
theorem lc_read {wi : WI} {gH : TG} {g : WG} {tt : WT} {te : WE} {vs : List Nat} {σ : L2.St} {H : Hp} {Q : VK} (hg : TgC X.K B.T vs gH (g noE)) (h : eT X.K B (wComp wi g tt te vs) σ H Q) :
    tLc (iT X.K B wi) gH (tT X.K B.in tt) (eT X.K B.in te) vs σ H Q := by
  obtain ⟨F, I, S, ρ, Φ, n, hw, hq⟩ := h
  refine ⟨F, I, S, ρ, _, n, hw, ?_⟩
  rintro J H1 ⟨I1, S1, ds, keep, e1, r1, jk, hz, hf⟩
  intro p hp
  have fp : F p = none := r1.freeF hp
  have sF : ∀ o, Same F (upd F p o) := fun o => same_upd fp
  refine ⟨fun i m H' => m = ds.length - i ∧ i ≤ ds.length ∧ ∃ I' S' accV acc, acc.length ≤ i ∧ Same I1 I' ∧ Rep X.K B.T (upd F p (.lst accV)) I' S' H' ∧ DenA X.K I' accV acc ∧
    compD (g noE) (tt noE) (te noE) keep (wipeE ρ vs) (ds.drop i) acc S' fun acc S2 => Φ (.lst acc) S2, ⟨ds.length, by simp, Nat.zero_le _, I1, S1, [], [], Nat.le_refl _, Same.refl _, r1.hide hp nt_lst, .nil, hf⟩, ?_⟩
  rintro i m H2 ⟨rfl, hi, I2, S2, accV, acc, hacc, e2, r2, q2, f2⟩
  by_cases hlt : i < ds.length
  · have hd : ds[i]? = some ds[i] := List.getElem?_eq_getElem hlt
    rw [List.drop_eq_getElem_cons hlt] at f2
    obtain ⟨hk, f2⟩ := f2
    obtain ⟨go, yl⟩ := (jk _ i H2 I2 S2 e2 r2 hk).1 _ hd
    refine .inr ⟨go, fun H' => ∃ I' S' accV acc, acc.length ≤ i + 1 ∧ Same I1 I' ∧ Rep X.K B.T (upd F p (.lst accV)) I' S' H' ∧ DenA X.K I' accV acc ∧ compD (g noE) (tt noE) (te noE) keep (wipeE ρ vs) (ds.drop (i + 1)) acc S' fun acc S2 => Φ (.lst acc) S2,
      fun H' ⟨I', S', aV, a, a0, a1, a2, a3, a4⟩ => ⟨ds.length - (i + 1), by omega, rfl, hlt, I', S', aV, a, a0, a1, a2, a3, a4⟩, fun x H3 hy => ?_⟩
    obtain ⟨I3, e3, r3, q3⟩ := yl x H3 hy
    have e13 := e2.trans e3
    refine hg _ I3 S2 (wipe σ vs) (wipeE ρ vs) H3 x _ _ _ r3 (wipe_slots (n.sl.mono (e1.trans e13)) vs) q3 f2 fun σ4 ρ4 S4 w4 s4 r4 f4 => ⟨w4.trans (by
      apply List.ext_getElem?
      intro j
      rw [wipe_get (wipe σ vs), wipe_length]
      by_cases hj : j ∈ vs
      · rw [if_pos hj, wipe_get, if_pos hj]
      · rw [if_neg hj]), ?_⟩
    have n4 : Now X.K B.in (upd F p (.lst accV)) I3 S4 σ4 ρ4 H3 := ⟨n.fr.trans (sF _), n.en.trans (e1.trans e13), r4, s4⟩
    refine ⟨_, I3, S4, ρ4, _, n4, f4, ?_⟩
    rintro b H5 ⟨I5, S5, e5, r5, f5⟩
    cases b with
    | false =>
      rw [if_neg Bool.false_ne_true] at f5
      exact iteF ⟨I5, S5, accV, acc, Nat.le_succ_of_le hacc, e13.trans e5, r5, q2.mono (e3.trans e5), f5⟩
    | true =>
      rw [if_pos rfl] at f5
      refine iteT ⟨_, I5, S5, ρ4, _, n4.next e5 r5, f5, ?_⟩
      rintro y H6 ⟨I6, S6, d6, e6, r6, q6, f6⟩
      have qq := q2.mono ((e3.trans e5).trans e6)
      refine ⟨accV, (r6.frm p _ upd_same).1, by rw [q2.length]; omega, I6, S6, accV ++ [y], acc ++ [d6], by rw [List.length_append]; simpa using hacc, (e13.trans e5).trans e6, ?_, qq.app (.cons q6 .nil), f6⟩
      exact r6.rehide nt_lst (fun _ z => nomatch z) nt_lst
  · have e : i = ds.length := by omega
    subst e
    rw [List.drop_length] at f2
    obtain ⟨hk, f2⟩ := f2
    obtain ⟨r7, s7⟩ := r2.unhide fp
    exact .inl ⟨(jk _ _ H2 I2 S2 e2 r2 hk).2 (Nat.le_refl _), hq _ _ ⟨_, S2, _, (e1.trans e2).trans s7, r7, .lst (.inl upd_same) (q2.mono s7), f2⟩⟩
variable {elt tg iter : Expr} {ifs : List Expr} {scope : Scope} {own : List (Str × Nat)} {pos spos : Pos} {wi : WI} {gH : TG} {g : WG} {tt : WT} {te : WE}
theorem de_lc (hc : X.calm = true) (hN : X.N.Nodup) (hi : DI X B tg iter wi) (ok : BlkOk X.N X.env.scope scope own)
    (hgH : ∀ (s : Shared) (H : Hp) (C : Addr) (cl : List (Str × Addr)) (fp : List Addr), PG (X.blk s H scope (compEnvC scope cl C X.env) fp) tg gH) (hg : TgC X.K B.T (own.map (·.2)) gH (g noE))
    (ht : ∀ (s : Shared) (H : Hp) (C : Addr) (cl : List (Str × Addr)) (fp : List Addr), DTs (X.blk s H scope (compEnvC scope cl C X.env) fp) B.in ifs tt)
    (he : ∀ (s : Shared) (H : Hp) (C : Addr) (cl : List (Str × Addr)) (fp : List Addr), DE (X.blk s H scope (compEnvC scope cl C X.env) fp) B.in elt te) (hs : ∀ x, foldedSetIterable iter X.env x = pure x := by intro _; rfl) :
    DE X B (.ListComp elt [⟨tg, iter, ifs, 0⟩] scope pos) (wComp wi g tt te (own.map (·.2))) :=
  PE_imp (pe_lc (tt := tT X.K B.in tt) (te := eT X.K B.in te) hc hN hi ok hgH ht he hs) fun σ H Q h => lc_read hg h
theorem ds_setLc {i : Nat} {y : Str} {py : Pos} (hc : X.calm = true) (hN : X.N.Nodup) (hy : X.N[i]? = some y) (hyl : X.env.scope.names.lookup y = some .local)
    (hsw : swapsWith (.ListComp elt [⟨tg, iter, ifs, 0⟩] scope pos) (some (.Name y py)) spos.line X.env = pure true) (hi : DI X B tg iter wi) (ok : BlkOk X.N X.env.scope scope own)
    (hgH : ∀ (s : Shared) (H : Hp) (C : Addr) (cl : List (Str × Addr)) (fp : List Addr), PG (X.blk s H scope (compEnvC scope cl C X.env) fp) tg gH) (hg : TgC X.K B.T (own.map (·.2)) gH (g noE))
    (ht : ∀ (s : Shared) (H : Hp) (C : Addr) (cl : List (Str × Addr)) (fp : List Addr), DTs (X.blk s H scope (compEnvC scope cl C X.env) fp) B.in ifs tt)
    (he : ∀ (s : Shared) (H : Hp) (C : Addr) (cl : List (Str × Addr)) (fp : List Addr), DE (X.blk s H scope (compEnvC scope cl C X.env) fp) B.in elt te) (hs : ∀ x, foldedSetIterable iter X.env x = pure x := by intro _; rfl) :
    DS X B (.Assign [.Name y py] (.ListComp elt [⟨tg, iter, ifs, 0⟩] scope pos) spos) (sAsg (wComp wi g tt te (own.map (·.2))) (gNm i)) :=
  PS_imp (ps_setLc (tt := tT X.K B.in tt) (te := eT X.K B.in te) hc hN hy hyl hsw hi ok hgH ht he hs) fun Dn σ H ⟨F, I, S, ρ, dn, n, hw, k1, k2, k3, k4⟩ => by
    refine lc_read (B := B) (Q := fun x H1 => gName i x σ H1 Dn.nx) hg ⟨F, I, S, ρ, _, n, hw, ?_⟩
    rintro v H1 ⟨I1, S1, d1, e1, r1, q1, f1⟩
    exact k1 _ _ ⟨I1, S1, _, e1, r1, (n.sl.mono e1).set i q1, f1⟩
end
end DL

set_option maxRecDepth 100000
set_option maxHeartbeats 4000000
/-! DA8: defs, calls, raise. -/
namespace DL
open PySem PySem.Spec PyProof.Rows L2

/-- an error by the name of its class; d: its own dict -/
def ClsOf (mg : Str → Option Value) (H : Hp) (nm : Str) (cls : Value) (d : Option Addr) : Prop := (∃ C, mg nm = some (.ref C) ∧ cls = .ref C ∧ (d = none ∨ ∃ dx fs, d = some dx ∧ H dx = some (.xd fs))) ∨ ∃ n : String, mg nm = none ∧ nm = Str.ofString n ∧ cls = .type n ∧ d = none
/-- what is wanted of an error around a body -/
def wxB (K : PySem.W.Frag) (mg : Str → Option Value) (B : Bx) : WX := fun cls d _ H' => ∃ nm I' S', ClsOf mg H' nm cls d ∧ Same B.I I' ∧ Rep K B.T B.F I' S' H' ∧ B.E nm S'
abbrev Tk (X : Cx) (B : Bx) : Prop := L2N.Takes X (wxB X.K X.mg B)
theorem Rep.sub {K : PySem.W.Frag} {T : List (Addr × Str)} {F F0 I : Hp} {S : Sto} {H : Hp} (r : Rep K T F I S H) (h : Same F0 F) : Rep K T F0 I S H :=
  ⟨r.imm, fun a o e => r.frm a o (h _ _ e), fun a m e => ⟨(r.mto a m e).1, h.free (r.mto a m e).2.1, (r.mto a m e).2.2⟩, r.tab, fun a ps => ⟨(r.ntb a ps).1, fun e => (r.ntb a ps).2 (h _ _ e)⟩⟩
abbrev WF := WR → List D → Sto → (D → Sto → Prop) → Prop
/-- a def's promise over data -/
def spD (K : PySem.W.Frag) (mg : Str → Option Value) (T : List (Addr × Str)) (n : Nat) (W : WF) : Sp := fun vs H Q E => ∃ F I S ds Φ R, Rep K T F I S H ∧ DenA K I vs ds ∧ ds.length = n ∧ W R ds S Φ ∧
  (∀ v H' I' S' d, Same I I' → Rep K T F I' S' H' → Den K I' v d → Φ d S' → Q v H') ∧ ∀ nm cls d H' I' S', ClsOf mg H' nm cls d → Same I I' → Rep K T F I' S' H' → R nm S' → E cls d H'
def fnW (m : Nat) (b : WS) : WF := fun R ds S Φ => b R { nx := fun _ S => Φ .non S, rt := Φ } (estart m ds) S
section
variable {P : Program} {w : World} {K : PySem.W.Frag} {mg : Str → Option Value} {base : Heap} {T : List (Addr × Str)}
theorem okDef {x qual : Str} {st : Stmt} {f : Addr} {fd : FuncData} {N ps : List Str} {k m n : Nat} {b : WS} (F : Fun K x qual st f fd) (S : FnScope N ps (defScope st)) (hn : ps.length = n) (hm : N.length = m)
    (hbody : ∀ (cdv : Value) (A : Around) (outer : List Env) (s : Shared) (H : Hp) (E : XK) (F I : Hp) (R : WR), Room k (A.deeper (envOfC qual (defScope st) s.heap.objs.size f cdv)) →
      Tk (cxOf (L2N.CX P w) P w K mg base N qual (defScope st) f cdv A outer s H E) ⟨T, F, I, R⟩ → DSs (cxOf (L2N.CX P w) P w K mg base N qual (defScope st) f cdv A outer s H E) ⟨T, F, I, R⟩ (defBody st) b) :
    FnOk P w K mg base (L2N.CX P w) (k + 1) f fd ps (spD K mg T n (fnW m b)) := by
  obtain ⟨oc, od, kV, doc, pm, an, cdv, ct, osl, rfl, lk, hcd⟩ := F.ex
  refine fn_of lk hcd S (fun vs H Q E ⟨F, I, S, ds, Φ, R, h1, h2, h3, h4, h5, h6⟩ => by rw [h2.length, h3, hn]) fun A outer s H vs Q E hr ⟨F, I, S, ds, Φ, R, h1, h2, h3, h4, h5, h6⟩ => ?_
  have tk : Tk (cxOf (L2N.CX P w) P w K mg base N qual (defScope st) f cdv A outer s H E) ⟨T, F, I, R⟩ := L2N.Takes.imp (L2N.takes_of (E := E) rfl rfl rfl rfl) fun c d σ H' ⟨nm, I', S', g1, g2, g3, g4⟩ => h6 nm c d H' I' S' g1 g2 g3 g4
  refine ⟨_, hbody cdv A outer s H E F I R hr tk, F, I, S, estart m ds, { nx := fun _ S => Φ .non S, rt := Φ }, ⟨Same.refl _, Same.refl _, h1, by rw [← hm]; exact Slots.start h2 N⟩, h4, ?_, ?_, ?_, ?_⟩
  · rintro σ' H' ⟨I', S', ρ', e, r, s', hz⟩
    exact h5 _ _ I' S' .non e r .non hz
  · rintro v H' ⟨I', S', d, e, r, q, hz⟩
    exact h5 _ _ I' S' d e r q hz
  · rintro σ' H' ⟨I', S', ρ', e, r, s', hz⟩
    exact hz.elim
  · rintro σ' H' ⟨I', S', ρ', e, r, s', hz⟩
    exact hz.elim
/-- a def of the module that keeps a promise over data -/
def OkF (P : Program) (w : World) (K : PySem.W.Frag) (mg : Str → Option Value) (base : Heap) (T : List (Addr × Str)) (k : Nat) (x : Str) (n : Nat) (W : WF) : Prop :=
  ∃ (f : Addr) (fd : FuncData) (ps : List Str), mg x = some (.ref f) ∧ PySem.W.keepIn K (.ref f) = true ∧ Binds K fd ps [] ∧ FnOk P w K mg base (L2N.CX P w) k f fd ps (spD K mg T n W)
structure DefAt (K : PySem.W.Frag) (mg : Str → Option Value) (x : Str) (st : Stmt) (ps : List Str) : Prop where
  ex : ∃ (f : Addr) (fd : FuncData), Fun K x x st f fd ∧ mg x = some (.ref f) ∧ Binds K fd ps []
theorem okF {x : Str} {st : Stmt} {N ps : List Str} {k m n : Nat} {b : WS} (h : DefAt K mg x st ps) (S : FnScope N ps (defScope st)) (hn : ps.length = n) (hm : N.length = m)
    (hbody : ∀ (f : Addr) (cdv : Value) (A : Around) (outer : List Env) (s : Shared) (H : Hp) (E : XK) (F I : Hp) (R : WR), Room k (A.deeper (envOfC x (defScope st) s.heap.objs.size f cdv)) →
      Tk (cxOf (L2N.CX P w) P w K mg base N x (defScope st) f cdv A outer s H E) ⟨T, F, I, R⟩ → DSs (cxOf (L2N.CX P w) P w K mg base N x (defScope st) f cdv A outer s H E) ⟨T, F, I, R⟩ (defBody st) b) :
    OkF P w K mg base T (k + 1) x n (fnW m b) := by
  obtain ⟨f, fd, F, hm', hb⟩ := h.ex
  exact ⟨f, fd, ps, hm', F.kp, hb, okDef F S hn hm (hbody f)⟩
/-- a weaker promise -/
theorem OkF.imp {k n : Nat} {x : Str} {W W' : WF} (h : OkF P w K mg base T k x n W) (q : ∀ R ds S Φ, ds.length = n → W' R ds S Φ → W R ds S Φ) : OkF P w K mg base T k x n W' := by
  obtain ⟨f, fd, ps, h1, h2, h3, h4⟩ := h
  exact ⟨f, fd, ps, h1, h2, h3, h4.imp fun vs H Q E ⟨F, I, S, ds, Φ, R, g1, g2, g3, g4, g5⟩ => ⟨F, I, S, ds, Φ, R, g1, g2, g3, q _ _ _ _ g3 g4, g5⟩⟩
theorem OkF.mono {j k n : Nat} {x : Str} {W : WF} (h : OkF P w K mg base T j x n W) (q : j ≤ k) : OkF P w K mg base T k x n W := by
  obtain ⟨f, fd, ps, h1, h2, h3, h4⟩ := h
  exact ⟨f, fd, ps, h1, h2, h3, h4.mono q⟩
end
def wCall (W : WF) (ws : WA) : WE := fun R ρ S Φ => ws R ρ S fun ds S1 => W R ds S1 Φ
section
variable {X : Cx} {B : Bx} {e : Expr} {es : List Expr} {n k : Nat} {ws : WA} {W : WF} {pos p : Pos} {x : Str}
theorem de_call (g : OkF X.prog X.w X.K X.mg X.base B.T k x n W) (tk : Tk X B) (hr : Room k X.A) (hg : Gl X x) (ha : DA X B (e :: es) n ws) (hdb : (x == ("__debug__" : Str)) = false := by decide)
    (he : starEach (e :: es) X.env = (false, eval e X.env) :: starEach es X.env := by rfl) (hpl : (backTo pos (starEach es X.env)).any (·.1) = false := by rfl) : DE X B (.Call (.Name x p) (e :: es) [] pos) (wCall W ws) := by
  obtain ⟨f, fd, ps, h1, h2, h3, h4⟩ := g
  refine PE_imp (pe_call (E := fun cls d H' => wxB X.K X.mg B cls d [] H') h4 hr hg h1 h2 h3 .nil (L2N.passes_call tk fun _ _ _ _ z => z) ha hdb he hpl) fun σ H Q ⟨F, I, S, ρ, Φ, n, hw, hq⟩ => ?_
  refine ⟨F, I, S, ρ, _, n, hw, ?_⟩
  rintro vs H1 ⟨I1, S1, ds, e1, r1, q1, hl, hw1⟩
  refine ⟨F, I1, S1, ds, Φ, B.E, r1, by rw [List.append_nil]; exact q1, hl, hw1, fun v H' I' S' d e2 r2 q2 hz => hq _ _ ⟨I', S', d, e1.trans e2, r2, q2, hz⟩, ?_⟩
  intro nm cls d H' I' S' hc e2 r2 hz
  exact ⟨nm, I', S', hc, (n.en.trans e1).trans e2, r2.sub n.fr, hz⟩
theorem de_call0 {W : WF} (g : OkF X.prog X.w X.K X.mg X.base B.T k x 0 W) (tk : Tk X B) (hr : Room k X.A) (hg : Gl X x) (hdb : (x == ("__debug__" : Str)) = false := by decide) : DE X B (.Call (.Name x p) [] [] pos) (wCall W wNil) := by
  obtain ⟨f, fd, ps, h1, h2, h3, h4⟩ := g
  refine PE_imp (pe_call0 (E := fun cls d H' => wxB X.K X.mg B cls d [] H') h4 hr hg h1 h2 h3 .nil (L2N.passes_call tk fun _ _ _ _ z => z) hdb) fun σ H Q ⟨F, I, S, ρ, Φ, n, hw, hq⟩ => ?_
  refine ⟨F, I, S, [], Φ, B.E, n.rep, .nil, rfl, hw, fun v H' I' S' d e2 r2 q2 hz => hq _ _ ⟨I', S', d, e2, r2, q2, hz⟩, ?_⟩
  intro nm cls d H' I' S' hc e2 r2 hz
  exact ⟨nm, I', S', hc, n.en.trans e2, r2.sub n.fr, hz⟩
/-- within a comprehension nothing is let out -/
theorem tk_in {s : Shared} {H : Hp} {scope : Scope} {ce : PySem.Env} {fp : List Addr} : Tk (X.blk s H scope ce fp) B.in := fun _ _ x => by
  obtain ⟨_, _, _, _, _, _, _, _, _, _, _, _, _, _, _, _, _, _, _, _, _, _, z⟩ := x
  exact z.elim
/-! ### raise -/
/-- an own class over ValueError without an __init__ of its own -/
structure ExcAt (K : PySem.W.Frag) (mg : Str → Option Value) (x : Str) : Prop where
  ex : ∃ C : Addr, mg x = some (.ref C) ∧ PySem.W.excIn K C [.type "ValueError", .type "Exception", .type "BaseException", .type "object"] "ValueError.__new__" = true ∧ PySem.W.keepIn K (.ref C) = true ∧
    PySem.W.subIn K (.ref C) (.type "BaseException") = some true ∧ PySem.W.typeIn K (.ref C) = some (.type "type")
def sRaise (x : Str) : WS := fun R _ _ S => R x S
theorem ds_raise {m : Str} {j : Nat} {p2 p3 p4 : Pos} (h : ExcAt X.K X.mg x) (hc : X.calm = true) (tk : Tk X B) (hg : Gl X x) (hdb : (x == ("__debug__" : Str)) = false := by decide) :
    DS X B (.Raise (some (.Call (.Name x p) [.Constant (.str m) j p2] [] p3)) none p4) (sRaise x) := by
  obtain ⟨C, h1, h2, h3, h4, h5⟩ := h.ex
  exact PS_imp (L2N.ps_raise hc tk (L2N.pmk_own PySem.F.excBase_ValueError h2 h1 h3 (raises_own h4 h5) hg hdb)) fun Dn σ H ⟨F, I, S, ρ, dn, n, hw, k1, k2, k3, k4⟩ => ⟨x, I, S, .inl ⟨C, h1, rfl, .inl rfl⟩, n.en, n.rep.sub n.fr, hw⟩
end
end DL

set_option maxRecDepth 100000
set_option maxHeartbeats 4000000
/-! DA9: small words for the printed texts. -/
namespace DL
open PySem PySem.Spec PyProof.Rows L2
def fLt := fOrd fun i j => decide (i < j)
def fLe := fOrd fun i j => decide (i ≤ j)
def fGt := fOrd fun i j => decide (j < i)
def fGe := fOrd fun i j => decide (j ≤ i)
theorem bt_len : bootBuiltins "len" = some (.builtin "len") := by decide +kernel
theorem bt_abs : bootBuiltins "abs" = some (.builtin "abs") := by decide +kernel
theorem bt_sum : bootBuiltins "sum" = some (.builtin "sum") := by decide +kernel
theorem bt_max : bootBuiltins "max" = some (.builtin "max") := by decide +kernel
theorem bt_min : bootBuiltins "min" = some (.builtin "min") := by decide +kernel
theorem bt_all : bootBuiltins "all" = some (.builtin "all") := by decide +kernel
theorem bt_any : bootBuiltins "any" = some (.builtin "any") := by decide +kernel
theorem bt_isinstance : bootBuiltins "isinstance" = some (.builtin "isinstance") := by decide +kernel
theorem bt_int : bootBuiltins "int" = some (.type "int") := by decide +kernel
theorem bt_bool : bootBuiltins "bool" = some (.type "bool") := by decide +kernel
theorem bt_str : bootBuiltins "str" = some (.type "str") := by decide +kernel
theorem bt_tuple : bootBuiltins "tuple" = some (.type "tuple") := by decide +kernel
theorem bt_list : bootBuiltins "list" = some (.type "list") := by decide +kernel
section
variable {X : Cx} {B : Bx}
theorem pgn (i : Nat) {x : Str} {pos : Pos} (hN : X.N.Nodup) (hi : X.N[i]? = some x := by rfl) (hx : Loc X.env.scope x := by first | exact .inl rfl | exact .inr rfl) (hf : X.fn x = true ∨ X.env.scope.names.lookup x = some .local := by first | exact .inl rfl | exact .inr rfl) : PG X (.Name x pos) (gName i) :=
  pg_name hN hi hx hf
/-- a comprehension within another one's block -/
theorem blk_in {N : List Str} {sc s1 scope : Scope} {own : List (Str × Nat)} {cl : List (Str × Addr)} {C : Addr} {env : PySem.Env} (he : env.scope = sc) (h : blkC N (relS s1 sc) scope own = true) : BlkOk N (compEnvC s1 cl C env).scope scope own := by
  subst he
  exact blkOk_by (sc := relS s1 env.scope) h
theorem blk_in2 {N : List Str} {sc s1 s2 scope : Scope} {own : List (Str × Nat)} {cl cl2 : List (Str × Addr)} {C C2 : Addr} {env : PySem.Env} (he : env.scope = sc) (h : blkC N (relS s2 (relS s1 sc)) scope own = true) : BlkOk N (compEnvC s2 cl2 C2 (compEnvC s1 cl C env)).scope scope own := by
  subst he
  exact blkOk_by (sc := relS s2 (relS s1 env.scope)) h
variable {a b : Expr} {wa wb : WE} {pos : Pos}
/-- the sum of two lists, a list that will be filled -/
def wCatM (wa wb : WE) : WE := fun E ρ S Φ => wa E ρ S fun x S1 => wb E ρ S1 fun y S2 => match res S2 x, res S2 y with
  | .lst a, .lst b => a.length + b.length ≤ sizeLine ∧ ∀ p, S2 p = none → Φ (.ptr p) (sput S2 p (.lst (a ++ b)))
  | _, _ => False
theorem de_catM (ha : DE X B a wa) (hb : DE X B b wb) : DE X B (.BinOp a .Add b pos) (wCatM wa wb) :=
  PE_imp (pe_op op_catR ha hb) fun σ H Q ⟨F, I, S, ρ, Φ, n, hw, hq⟩ => by
    refine ⟨F, I, S, ρ, _, n, hw, ?_⟩
    rintro x H1 ⟨I1, S1, d1, e1, r1, q1, hw1⟩
    refine ⟨F, I1, S1, ρ, _, n.next e1 r1, hw1, ?_⟩
    rintro y H2 ⟨I2, S2, d2, e2, r2, q2, hf⟩
    split at hf
    · rename_i xs ys g1 g2
      obtain ⟨l, us, rfl, h1, h2⟩ := r2.lst (q1.mono e2) g1
      obtain ⟨m, vs, rfl, h3, h4⟩ := r2.lst q2 g2
      refine ⟨l, m, us, vs, rfl, rfl, h1, h3, by rw [h2.length, h4.length]; exact hf.1, fun p hp => hq _ _ ⟨I2, _, .ptr p, e1.trans e2, r2.newM (m := .lst (xs ++ ys)) hp nt_lst ⟨_, upd_same, h2.app h4⟩, .ptr p, hf.2 p (r2.freeS hp)⟩⟩
    · exact hf.elim
end
end DL

set_option maxRecDepth 100000
set_option maxHeartbeats 4000000
/-! DA10: the drum: a list of two ints, told only by its bounds, opened within its own defs. -/
namespace DL
open PySem PySem.Spec PyProof.Rows L2

def PlainH : HO → Prop
  | .lst _ => True
  | .ext _ => True
  | _ => False
/-- what is told of the object at p is told otherwise -/
theorem hok_redo {P : Program} {w : World} {H : Hp} {h : Heap} {p : Addr} {o o' : HO} (x : HOk P w H h) (e : H p = some o) (po : PlainH o) (new : ObjOk P w (upd H p o') h p o') : HOk P w (upd H p o') h := fun b u q => by
  by_cases hb : b = p
  · subst hb
    rw [upd_same] at q
    cases q
    exact new
  · rw [upd_ne hb] at q
    refine (x b u q).stay (fun c v _ z => z) (fun c z => ?_) fun c xs z => ?_
    · have hc : c ≠ p := fun k => by rw [k, e] at z; cases z; exact po
      rw [upd_ne hc]
      exact z
    · have hc : c ≠ p := fun k => by rw [k, e] at z; cases z; exact po
      rw [upd_ne hc]
      exact z
theorem inv_redo {X : Cx} {pins : List (Addr × Obj)} {σ : L2.St} {H : Hp} {s : Shared} {p : Addr} {o o' : HO} (I : Inv X pins σ H s) (e : H p = some o) (po : PlainH o) (new : ObjOk X.prog X.w (upd H p o') s.heap p o') : Inv X pins σ (upd H p o') s := by
  have ne : ∀ {b u}, H b = some u → ¬ PlainH u → b ≠ p := fun {b u} q nu k => by rw [k, e] at q; cases q; exact nu po
  have nn : ∀ {b}, H b = none → b ≠ p := fun {b} q k => by rw [k, e] at q; cases q
  have u : Un X.fs [] H (upd H p o') s.heap s.heap := by
    refine ⟨fun b ob q _ _ _ => q, fun b ob q _ _ _ => ⟨ob.slots, q⟩, fun b ob q n _ => by rw [upd_ne (nn n)]; exact n, fun b ob q _ => ⟨ob, q⟩, fun b xs q => ?_, fun b ob v q => ?_, fun b ps q => ⟨#[], ?_⟩⟩
    · rw [upd_ne (ne q fun z => z)]; exact q
    · rw [upd_ne (ne q fun z => z)]; exact q
    · rw [upd_ne (ne q fun z => z), q]; simp
  exact I.un (h' := s.heap) (t' := s.toks) u (hok_redo I.hok e po new)
theorem drum_lst {P : Program} {w : World} {H : Hp} {h : Heap} {p : Addr} (x : ObjOk P w H h p (DrumO p)) : ∃ a b : Int, 0 ≤ b ∧ b < 4294967296 ∧ ∀ H', ObjOk P w H' h p (.lst [.int a, .int b]) := by
  obtain ⟨⟨a, b, t, u, n, h1, h2, e⟩, _⟩ := x
  exact ⟨a, b, h1, h2, fun H' => ⟨(by show 2 ≤ sizeLine; decide), [.int a t, .int b u], n, .cons ⟨_, rfl⟩ (.cons ⟨_, rfl⟩ .nil), e⟩⟩
theorem lst_drum {P : Program} {w : World} {H : Hp} {h : Heap} {p : Addr} {a b : Int} (h1 : 0 ≤ b) (h2 : b < 4294967296) (x : ObjOk P w H h p (.lst [.int a, .int b])) : ∀ H', ObjOk P w H' h p (DrumO p) := by
  obtain ⟨_, its, n, r, e⟩ := x
  obtain ⟨v, u, rfl, ⟨t1, r1⟩, ⟨t2, r2⟩⟩ := vals2 r
  subst r1 r2
  refine fun H' => ⟨⟨a, b, t1, t2, n, h1, h2, e⟩, ⟨_, e⟩, ?_⟩
  rintro g1 g2 ⟨a, b, t, u, n, h1, h2, e⟩ k
  exact ⟨a, b, t, u, n, h1, h2, k _ e⟩
section
variable {X : Cx} {body : List Stmt} {t : TS}
/-- a body that opens a drum and shuts it at its end -/
theorem pss_drum (h : PSs X body t) : PSs X body (fun Dn σ H => ∃ p, H p = some (DrumO p) ∧ ∀ a b : Int, 0 ≤ b → b < 4294967296 → t { nx := fun _ _ => False, rt := fun v H' => ∃ a b : Int, 0 ≤ b ∧ b < 4294967296 ∧ H' p = some (.lst [.int a, .int b]) ∧ Dn.rt v (upd H' p (DrumO p)) } σ (upd H p (.lst [.int a, .int b]))) := by
  refine ⟨fun pins s σ H Dn I ⟨p, hp, hw⟩ => ?_⟩
  obtain ⟨a, b, h1, h2, new⟩ := drum_lst (I.hok p _ hp)
  refine thn (h.run pins s σ _ _ (inv_redo I hp trivial (new _)) (hw a b h1 h2)) fun f s' q => ?_
  cases f with
  | next => obtain ⟨_, _, _, z⟩ := q; exact z.elim
  | brk => obtain ⟨_, _, _, z⟩ := q; exact z.elim
  | cont => obtain ⟨_, _, _, z⟩ := q; exact z.elim
  | ret u =>
    obtain ⟨v, σ', H', I', r, a, b, h1, h2, hp', z⟩ := q
    exact ⟨v, σ', _, inv_redo I' hp' trivial (lst_drum h1 h2 (I'.hok p _ hp') _), r, z⟩
/-- a body that makes a drum -/
theorem pss_mkdrum (h : PSs X body t) : PSs X body (fun Dn σ H => t { nx := fun _ _ => False, rt := fun v H' => ∃ (p : Addr) (a b : Int), v = .ref p ∧ 0 ≤ b ∧ b < 4294967296 ∧ H' p = some (.lst [.int a, .int b]) ∧ Dn.rt v (upd H' p (DrumO p)) } σ H) := by
  refine ⟨fun pins s σ H Dn I hw => ?_⟩
  refine thn (h.run pins s σ _ _ I hw) fun f s' q => ?_
  cases f with
  | next => obtain ⟨_, _, _, z⟩ := q; exact z.elim
  | brk => obtain ⟨_, _, _, z⟩ := q; exact z.elim
  | cont => obtain ⟨_, _, _, z⟩ := q; exact z.elim
  | ret u =>
    obtain ⟨v, σ', H', I', r, p, a, b, e, h1, h2, hp', z⟩ := q
    exact ⟨v, σ', _, inv_redo I' hp' trivial (lst_drum h1 h2 (I'.hok p _ hp') _), r, z⟩
end
/-- a drum is no code object -/
theorem drum_code {p c : Addr} {q : Str} : DrumO p ≠ LamX.CodeO c q := fun z => by
  have ob : Obj := { cls := .type "list", data := .seq #[.int 0 0, .int 0 0] 0 }
  have z1 := HO.ext.inj z
  let h : Heap := { objs := Array.replicate (p + 1) { cls := .type "list", data := .seq #[.int 0 0, .int 0 0] 0 } }
  have get : ∀ a o, h.get? a = some o → o = { cls := .type "list", data := .seq #[.int 0 0, .int 0 0] 0 } := fun a o e => by
    have e1 : ∀ o', h.objs[a]? = some o' → o' = { cls := .type "list", data := .seq #[.int 0 0, .int 0 0] 0 } := fun o' e' => by
      have e2 : (Array.replicate (p + 1) ({ cls := .type "list", data := .seq #[.int 0 0, .int 0 0] 0 } : Obj))[a]? = some o' := e'
      rw [Array.getElem?_replicate] at e2
      split at e2
      · exact (Option.some.inj e2).symm
      · cases e2
    unfold Heap.get? at e
    cases q : h.objs[a]? with
    | none => rw [q] at e; cases e
    | some o' =>
      rw [q, e1 o' q] at e
      exact (Option.some.inj e).symm
  have at_ : h.get? p = some { cls := .type "list", data := .seq #[.int 0 0, .int 0 0] 0 } := by
    have e : h.objs[p]? = some { cls := .type "list", data := .seq #[.int 0 0, .int 0 0] 0 } := by
      show (Array.replicate (p + 1) _)[p]? = _
      rw [Array.getElem?_replicate, if_pos (Nat.lt_succ_self p)]
    unfold Heap.get?
    rw [e]
  have d : DrumP p h := ⟨0, 0, 0, 0, 0, by decide, by decide, at_⟩
  rw [z1] at d
  obtain ⟨oc, vs, t, e1, e2, _⟩ := d
  rw [get _ _ e1] at e2
  cases e2
/-- all but p (and the tables) as others' -/
def but (H : Hp) (p : Addr) : Hp := fun b => if b = p then none else match H b with
  | some (.tbl _) => none
  | o => o
theorem but_some {H : Hp} {p b : Addr} {o : HO} (h : but H p b = some o) : b ≠ p ∧ H b = some o ∧ ∀ ps, o ≠ .tbl ps := by
  unfold but at h
  split at h
  · cases h
  · rename_i hb
    cases q : H b with
    | none => rw [q] at h; cases h
    | some u =>
      rw [q] at h
      refine ⟨hb, ?_, ?_⟩
      · cases u <;> first | exact h | cases h
      · cases u <;> first | (cases h; intro ps z; cases z) | cases h
theorem but_of {H : Hp} {p b : Addr} {o : HO} (hb : b ≠ p) (h : H b = some o) (nt : ∀ ps, o ≠ .tbl ps) : but H p b = some o := by
  unfold but
  rw [if_neg hb, h]
  cases o <;> first | rfl | exact absurd rfl (nt _)
section
variable {K : PySem.W.Frag} {T : List (Addr × Str)} {F I : Hp} {S : Sto} {H : Hp} {p : Addr}
/-- the drum alone may change -/
theorem Rep.alone (r : Rep K T F I S H) (hp : I p = some (DrumO p)) (a b : Int) : Rep K T (but H p) (fun _ => none) (fun c => if c = p then some (.lst [.int a, .int b]) else none) (upd H p (.lst [.int a, .int b])) := by
  have hH := r.imm _ _ hp
  refine ⟨fun b o e => (nomatch e), fun c o e => ?_, fun c m e => ?_, ?_, fun c ps => ⟨(fun e => nomatch e), fun e => (but_some e).2.2 ps rfl⟩⟩
  · obtain ⟨h1, h2, _⟩ := but_some e
    rw [upd_ne h1]
    exact ⟨h2, rfl⟩
  · split at e
    · rename_i hc
      subst hc
      cases e
      exact ⟨rfl, if_pos rfl, _, upd_same, .cons (.int _) (.cons (.int _) .nil)⟩
    · cases e
  · intro q hq
    obtain ⟨ps, e1, e2, e3⟩ := r.tab q hq
    have n1 : q.1 ≠ p := fun z => by rw [z, hH] at e1; cases e1
    refine ⟨ps, by rw [upd_ne n1]; exact e1, e2, fun pos cv hc => ?_⟩
    obtain ⟨c, e4, e5⟩ := e3 pos cv hc
    have n2 : c ≠ p := fun z => by
      rw [z, hH] at e5
      exact drum_code (Option.some.inj e5)
    exact ⟨c, e4, by rw [upd_ne n2]; exact e5⟩
/-- .. and is a drum again -/
theorem Rep.again (r : Rep K T F I S H) (hp : I p = some (DrumO p)) {S2 : Sto} {I2 H2 : Hp} (r2 : Rep K T (but H p) I2 S2 H2) {x : MO} (hS : S2 p = some x) {u : HO} (hu : H2 p = some u) (pu : PlainH u) (nu : ∀ φ, u ≠ .ext φ) : Rep K T F I S (upd H2 p (DrumO p)) := by
  have keep : ∀ {b o}, b ≠ p → H b = some o → (∀ ps, o ≠ .tbl ps) → H2 b = some o := fun {b o} hb e nt => (r2.frm b o (but_of hb e nt)).1
  refine ⟨fun b o e => ?_, fun b o e => ?_, fun b m e => ?_, tabs_upd r2.tab hu (fun ps z => by subst z; exact pu) nu, r.ntb⟩
  · by_cases hb : b = p
    · subst hb; rw [upd_same, ← hp]; exact e
    · rw [upd_ne hb]
      exact keep hb (r.imm _ _ e) fun ps z => by subst z; exact (r.ntb b ps).1 e
  · obtain ⟨z1, z2⟩ := r.frm b o e
    have hb : b ≠ p := fun z => by rw [z, hp] at z2; cases z2
    exact ⟨by rw [upd_ne hb]; exact keep hb z1 fun ps z => by subst z; exact (r.ntb b ps).2 e, z2⟩
  · obtain ⟨z1, z2, z3⟩ := r.mto b m e
    have hb : b ≠ p := fun z => by rw [z, hp] at z1; cases z1
    refine ⟨z1, z2, ?_⟩
    cases m with
    | lst ds =>
      obtain ⟨xs, e1, e2⟩ := z3
      exact ⟨xs, by rw [upd_ne hb]; exact keep hb e1 nt_lst, e2⟩
    | ins C fs =>
      obtain ⟨dx, vs, e1, e2⟩ := z3
      exact ⟨dx, vs, (by rw [upd_ne hb]; exact keep hb e1 (fun _ z => nomatch z)), e2⟩
end
/-- what a def does with a drum that it may open: f by the number asked -/
def wRoll : WF := fun _ ds S Φ => match ds with
  | [.drum, .int n] => (0 < n ∧ n.natAbs.log2 < 9000) ∧ ∀ r, 0 ≤ r → r < n → Φ (.int r) S
  | _ => False
def wDrum : WF := fun _ ds S Φ => match ds with
  | [.int _, .int k] => (-(2 ^ 20) < k ∧ k < 2 ^ 20) ∧ Φ .drum S
  | _ => False
section
variable {P : Program} {w : World} {K : PySem.W.Frag} {mg : Str → Option Value} {base : Heap} {T : List (Addr × Str)}
/-- a def that opens a drum, its first argument -/
theorem okRoll {x : Str} {st : Stmt} {N ps : List Str} {k m : Nat} {b : WS} (h : DefAt K mg x st ps) (S : FnScope N ps (defScope st)) (hn : ps.length = 2) (hm : N.length = m)
    (hb : ∀ (p : Addr) (a c n : Int) (St : Sto) (R : WR) (Φ : D → Sto → Prop), 0 ≤ c → c < 4294967296 → 0 < n → n.natAbs.log2 < 9000 → St p = some (.lst [.int a, .int c]) → (∀ r a' c', 0 ≤ r → r < n → 0 ≤ c' → c' < 4294967296 → Φ (.int r) (sput St p (.lst [.int a', .int c']))) →
      b R { nx := fun _ _ => False, rt := Φ } (estart m [.ptr p, .int n]) St)
    (hbody : ∀ (f : Addr) (cdv : Value) (A : Around) (outer : List Env) (s : Shared) (H : Hp) (E : XK) (F I : Hp) (R : WR), Room k (A.deeper (envOfC x (defScope st) s.heap.objs.size f cdv)) →
      Tk (cxOf (L2N.CX P w) P w K mg base N x (defScope st) f cdv A outer s H E) ⟨T, F, I, R⟩ → DSs (cxOf (L2N.CX P w) P w K mg base N x (defScope st) f cdv A outer s H E) ⟨T, F, I, R⟩ (defBody st) b) :
    OkF P w K mg base T (k + 1) x 2 wRoll := by
  obtain ⟨f, fd, F, hm', hbn⟩ := h.ex
  refine ⟨f, fd, ps, hm', F.kp, hbn, ?_⟩
  obtain ⟨oc, od, kV, doc, pm, an, cdv, ct, osl, rfl, lk, hcd⟩ := F.ex
  refine fn_of lk hcd S (fun vs H Q E ⟨F, I, S, ds, Φ, R, h1, h2, h3, h4, h5, h6⟩ => by rw [h2.length, h3, hn]) fun A outer s H vs Q E hr ⟨F, I, S', ds, Φ, R, h1, h2, h3, h4, h5, h6⟩ => ?_
  unfold wRoll at h4
  split at h4
  · rename_i n
    obtain ⟨v1, v2, rfl, q1, q2⟩ := h2.two
    cases q1 with
    | @drum p hp =>
      cases q2
      have tk : Tk (cxOf (L2N.CX P w) P w K mg base N x (defScope st) f cdv A outer s H E) ⟨T, but H p, (fun _ => none), (fun _ _ => False)⟩ :=
        L2N.Takes.imp (L2N.takes_of (E := E) rfl rfl rfl rfl) fun c d σ H' ⟨nm, I', S', g1, g2, g3, g4⟩ => g4.elim
      refine ⟨_, pss_drum (hbody f cdv A outer s H E (but H p) (fun _ => none) (fun _ _ => False) hr tk), p, h1.imm _ _ hp, fun a c g1 g2 => ?_⟩
      refine ⟨but H p, (fun _ => none), _, estart m [.ptr p, .int n], _, ⟨Same.refl _, Same.refl _, h1.alone hp a c, by rw [← hm]; exact Slots.start (.cons (.ptr p) (.cons (.int n) .nil)) N⟩,
        hb p a c n _ (fun _ _ => False) (fun d St => ∃ r a' c', d = .int r ∧ 0 ≤ r ∧ r < n ∧ 0 ≤ c' ∧ c' < 4294967296 ∧ St p = some (.lst [.int a', .int c'])) g1 g2 h4.1.1 h4.1.2 (if_pos rfl) (fun r a' c' z1 z2 z3 z4 => ⟨r, a', c', rfl, z1, z2, z3, z4, sput_same⟩), ?_, ?_, ?_, ?_⟩
      · rintro σ' H' ⟨I', S', ρ', e, r, s', hz⟩
        exact hz.elim
      · rintro v H' ⟨I2, S2, d, e, r2, q, r, a', c', rfl, z1, z2, z3, z4, hS⟩
        cases q
        obtain ⟨xs, e1, e2⟩ := (r2.mto p _ hS).2.2
        have e3 : xs = [.int a', .int c'] := by
          obtain ⟨v, w, rfl, k1, k2⟩ := e2.two
          cases k1
          cases k2
          rfl
        subst e3
        exact ⟨a', c', z3, z4, e1, h5 _ _ I S' (.int r) (Same.refl _) (h1.again hp r2 hS e1 trivial fun _ z => nomatch z) (.int r) (h4.2 r z1 z2)⟩
      · rintro σ' H' ⟨I', S', ρ', e, r, s', hz⟩
        exact hz.elim
      · rintro σ' H' ⟨I', S', ρ', e, r, s', hz⟩
        exact hz.elim
  · exact h4.elim
/-- a def that makes a drum -/
theorem okDrum {x : Str} {st : Stmt} {N ps : List Str} {k m : Nat} {b : WS} (h : DefAt K mg x st ps) (S : FnScope N ps (defScope st)) (hn : ps.length = 2) (hm : N.length = m)
    (hb : ∀ (z n : Int) (St : Sto) (R : WR) (Φ : D → Sto → Prop), -(2 ^ 20) < n → n < 2 ^ 20 → (∀ p a c, St p = none → 0 ≤ c → c < 4294967296 → Φ (.ptr p) (sput St p (.lst [.int a, .int c]))) → b R { nx := fun _ _ => False, rt := Φ } (estart m [.int z, .int n]) St)
    (hbody : ∀ (f : Addr) (cdv : Value) (A : Around) (outer : List Env) (s : Shared) (H : Hp) (E : XK) (F I : Hp) (R : WR), Room k (A.deeper (envOfC x (defScope st) s.heap.objs.size f cdv)) →
      Tk (cxOf (L2N.CX P w) P w K mg base N x (defScope st) f cdv A outer s H E) ⟨T, F, I, R⟩ → DSs (cxOf (L2N.CX P w) P w K mg base N x (defScope st) f cdv A outer s H E) ⟨T, F, I, R⟩ (defBody st) b) :
    OkF P w K mg base T (k + 1) x 2 wDrum := by
  obtain ⟨f, fd, F, hm', hbn⟩ := h.ex
  refine ⟨f, fd, ps, hm', F.kp, hbn, ?_⟩
  obtain ⟨oc, od, kV, doc, pm, an, cdv, ct, osl, rfl, lk, hcd⟩ := F.ex
  refine fn_of lk hcd S (fun vs H Q E ⟨F, I, S, ds, Φ, R, h1, h2, h3, h4, h5, h6⟩ => by rw [h2.length, h3, hn]) fun A outer s H vs Q E hr ⟨F, I, S', ds, Φ, R, h1, h2, h3, h4, h5, h6⟩ => ?_
  unfold wDrum at h4
  split at h4
  · rename_i z n
    have tk : Tk (cxOf (L2N.CX P w) P w K mg base N x (defScope st) f cdv A outer s H E) ⟨T, F, I, (fun _ _ => False)⟩ :=
      L2N.Takes.imp (L2N.takes_of (E := E) rfl rfl rfl rfl) fun c d σ H' ⟨nm, I', S', g1, g2, g3, g4⟩ => g4.elim
    refine ⟨_, pss_mkdrum (hbody f cdv A outer s H E F I (fun _ _ => False) hr tk), F, I, S', estart m [.int z, .int n], _, ⟨Same.refl _, Same.refl _, h1, by rw [← hm]; exact Slots.start h2 N⟩,
      hb z n S' (fun _ _ => False) (fun d St => ∃ p a c, d = .ptr p ∧ S' p = none ∧ 0 ≤ c ∧ c < 4294967296 ∧ St = sput S' p (.lst [.int a, .int c])) h4.1.1 h4.1.2 (fun p a c g1 g2 g3 => ⟨p, a, c, rfl, g1, g2, g3, rfl⟩), ?_, ?_, ?_, ?_⟩
    · rintro σ' H' ⟨I', S2, ρ', e, r, s', hz⟩
      exact hz.elim
    · rintro v H' ⟨I2, S2, d, e, r2, q, p, a, c, rfl, g1, g2, g3, rfl⟩
      cases q
      obtain ⟨i1, f1, xs, e1, e2⟩ := r2.mto p _ sput_same
      have e3 : xs = [.int a, .int c] := by
        obtain ⟨v, w, rfl, k1, k2⟩ := e2.two
        cases k1
        cases k2
        rfl
      subst e3
      have sm : Same I2 (upd I2 p (DrumO p)) := same_upd i1
      refine ⟨p, a, c, rfl, g2, g3, e1, h5 _ _ (upd I2 p (DrumO p)) S' .drum (e.trans sm) ⟨fun b o q => ?_, fun b o q => ?_, fun b m q => ?_, tabs_upd r2.tab e1 nt_lst (fun _ z => nomatch z), fun b ps => ⟨fun q => ?_, (r2.ntb b ps).2⟩⟩ (.drum upd_same) h4.2⟩
      · by_cases hb : b = p
        · subst hb; rw [upd_same] at q ⊢; exact q
        · rw [upd_ne hb] at q ⊢; exact r2.imm b o q
      · have hb : b ≠ p := ne_of_none q f1
        rw [upd_ne hb, upd_ne hb]
        exact r2.frm b o q
      · have hb : b ≠ p := fun z => by rw [z, g1] at q; cases q
        obtain ⟨z1, z2, z3⟩ := r2.mto b m (by rw [sput_ne hb]; exact q)
        exact ⟨by rw [upd_ne hb]; exact z1, z2, z3.mono sm fun o q => by rw [upd_ne hb]; exact q⟩
      · by_cases hb : b = p
        · subst hb; rw [upd_same] at q; cases q
        · rw [upd_ne hb] at q; exact (r2.ntb b ps).1 q
    · rintro σ' H' ⟨I', S2, ρ', e, r, s', hz⟩
      exact hz.elim
    · rintro σ' H' ⟨I', S2, ρ', e, r, s', hz⟩
      exact hz.elim
  · exact h4.elim
end
end DL

set_option maxRecDepth 100000
set_option maxHeartbeats 4000000
/-! DA11: the laws' drum and its numbers. -/
namespace DL
open PySem PySem.Spec PyProof.Rows L2
def sPar3 (i j k : Nat) (ws : WA) : WS := fun E D ρ S => ws E ρ S fun ds S1 => match ds with
  | [d, e, f] => D.nx (((ρ.set i (some d)).set j (some e)).set k (some f)) S1
  | _ => False
theorem DenA.three {K : PySem.W.Frag} {I : Hp} {xs : List V} {d e f : D} (h : DenA K I xs [d, e, f]) : ∃ u v w, xs = [u, v, w] ∧ Den K I u d ∧ Den K I v e ∧ Den K I w f := by
  cases h with | cons h t => obtain ⟨v, w, rfl, q, q2⟩ := t.two; exact ⟨_, _, _, rfl, h, q, q2⟩
theorem ds_par3 {X : Cx} {B : Bx} {a b c : Expr} {ws : WA} {pos : Pos} {i j l : Nat} {x y z : Str} {px py pz pt : Pos} {kt k2 pt2} (hc : X.calm = true) (hN : X.N.Nodup) (hi : X.N[i]? = some x) (hj : X.N[j]? = some y) (hl : X.N[l]? = some z) (hij : i ≠ j) (hil : i ≠ l) (hjl : j ≠ l) (ha : DA X B [a, b, c] 3 ws)
    (h : PS X (.Assign [.Tuple [.Name x px, .Name y py, .Name z pz] kt pt] (.Tuple [a, b, c] k2 pt2) pos) (tPar3 i j l (aT X.K B 3 ws))) : DS X B (.Assign [.Tuple [.Name x px, .Name y py, .Name z pz] kt pt] (.Tuple [a, b, c] k2 pt2) pos) (sPar3 i j l ws) :=
  PS_imp h fun Dn σ H ⟨F, I, S, ρ, dn, n, hw, k1, k2, k3, k4⟩ => by
    refine ⟨F, I, S, ρ, _, n, hw, ?_⟩
    rintro vs H1 ⟨I1, S1, ds, e1, r1, q1, hl, hw1⟩
    split at hw1
    · obtain ⟨u, v, w, rfl, g1, g2, g3⟩ := q1.three
      exact ⟨u, v, w, rfl, k1 _ _ ⟨I1, S1, _, e1, r1, (((n.sl.mono e1).set i g1).set j g2).set l g3, hw1⟩⟩
    · exact hw1.elim
theorem mulOk_r {i j : Int} (h1 : -(2 ^ 64) < j) (h2 : j < 2 ^ 64) : MulOk i j := CMul.ok (.inr ⟨h1, h2⟩)
theorem mulOk_l {i j : Int} (h1 : -(2 ^ 64) < i) (h2 : i < 2 ^ 64) : MulOk i j := CMul.ok (.inl ⟨h1, h2⟩)
theorem mulOk_w {i j : Int} (a b : Nat) (ha : i.natAbs < 2 ^ a) (hb : j.natAbs < 2 ^ b) (h0 : 0 < a := by decide) (h1 : 0 < b := by decide) (h : a + b ≤ 1000000 := by decide) : MulOk i j := CMulW.ok (wide_mul ha hb h0 h1 h)
theorem divOk {j : Int} (h : j ≠ 0) (hb : j.natAbs < 2 ^ 8000) : DivOk j := ⟨h, Nat.lt_of_lt_of_le (PySem.Flt.log2_lt_of (by decide) hb) (by decide)⟩
theorem divOk_lit {j : Int} (h : j ≠ 0) (hb : j.natAbs < 2 ^ 64) : DivOk j := ⟨h, Nat.lt_of_lt_of_le (PySem.Flt.log2_lt_of (by decide) hb) (by decide)⟩
theorem fmod_lo {a b : Int} (h : 0 < b) : 0 ≤ a.fmod b := by rw [Int.fmod_eq_emod_of_nonneg a (Int.le_of_lt h)]; exact Int.emod_nonneg a (Int.ne_of_gt h)
theorem fmod_hi {a b : Int} (h : 0 < b) : a.fmod b < b := by rw [Int.fmod_eq_emod_of_nonneg a (Int.le_of_lt h)]; exact Int.emod_lt_of_pos a h
def B_l_roll : WS := (sSeq (sIf (wTst (wBin fGt (wBin fIx (wVar 0) (wC (.int 0))) (wC (.int 0)))) (sSeq (sAsg (wBin fMod (wFn fInt (wCons (wBin fIx (wVar 0) (wC (.int 0))) wNil)) (wVar 1)) (gNm 2))
  (sSeq (sAsg (wBin fDiv (wBin fIx (wVar 0) (wC (.int 0))) (wVar 1)) (gIx (wVar 0) (wC (.int 0))))
  (sRet (wVar 2)))) sNext)
  (sSeq (sAsg (wBin fMod (wFn fInt (wCons (wBin fAdd (wBin fMul (wBin fIx (wVar 0) (wC (.int 1))) (wC (.int 30671))) (wC (.int 8807))) wNil)) (wC (.int 2147483549))) (gIx (wVar 0) (wC (.int 1))))
  (sSeq (sAsg (wBin fMod (wFn fInt (wCons (wBin fMul (wBin fIx (wVar 0) (wC (.int 1))) (wBin fAdd (wBin fIx (wVar 0) (wC (.int 1))) (wC (.int 101)))) wNil)) (wC (.int 2147483587))) (gNm 3))
  (sRet (wBin fMod (wFn fInt (wCons (wBin fDiv (wVar 3) (wC (.int 613))) wNil)) (wVar 1))))))
def W_l_roll : WF := fnW 4 B_l_roll
def B_l_drum : WS := (sSeq (sAsg (wIf (wTst (wBin fGe (wVar 0) (wBin fPow (wC (.int 10)) (wC (.int 18))))) (wBin fAdd (wBin fDiv (wVar 0) (wC (.int 7))) (wBin fMul (wC (.int 61)) (wVar 1))) (wC (.int 0))) (gNm 2))
  (sRet (wLstM (wCons (wVar 2) (wCons (wBin fAdd (wBin fMod (wFn fInt (wCons (wBin fAdd (wBin fMul (wVar 0) (wC (.int 97))) (wBin fMul (wC (.int 1087)) (wVar 1))) wNil)) (wC (.int 2077504273))) (wC (.int 71))) wNil)))))
def W_l_drum : WF := fnW 3 B_l_drum

theorem b_Roll : ∀ (p : Addr) (a c n : Int) (St : Sto) (R : WR) (Φ : D → Sto → Prop), 0 ≤ c → c < 4294967296 → 0 < n → n.natAbs.log2 < 9000 → St p = some (.lst [.int a, .int c]) → (∀ r a' c', 0 ≤ r → r < n → 0 ≤ c' → c' < 4294967296 → Φ (.int r) (sput St p (.lst [.int a', .int c']))) →
      B_l_roll R { nx := fun _ _ => False, rt := Φ } (estart 4 [.ptr p, .int n]) St := by
  intro p a c n St R Φ h1 h2 h3 h4 hS hq
  have i0 : ∀ x y : Int, atI [D.int x, D.int y] 0 = some (.int x) := fun _ _ => rfl
  have i1 : ∀ x y : Int, atI [D.int x, D.int y] 1 = some (.int y) := fun _ _ => rfl
  have j0 : ixN 2 0 = some 0 := rfl
  have j1 : ixN 2 1 = some 1 := rfl
  have m1 := fun x : Int => fmod_lo (a := x) (b := 2147483549) (by decide)
  have m2 := fun x : Int => fmod_hi (a := x) (b := 2147483549) (by decide)
  simp only [B_l_roll, wVar, wC, wBin, wUna, wTst, wChain, wAndT, wOrT, wNotT, wAnd, wOr, wNot, wIf, wNil, wCons, wTup, wLst, wFn, wSl, wPart, wNoPart, wCall, wISeq, wIRng, wIZip, wComp, wYes, wLstM, wCatM, wApp1, sNext, sSeq, sBrk, sCnt, sExp, sRet, sRetN, sIf, sAsg, sPar, sPar3, sFor, sRaise, gNm, gNl, gCn, gTp, gIx, fAdd, fSub, fMul, fDiv, fMod, fPow, fNeg, fLt, fLe, fGt, fGe, fOrd, fIsN, fNotN, fIsB, fNotB, fLen, fAbs, fInt, fBool, fStrI, fTuple, fList, fIx, fSl, fRev, fnW, res, estart, List.map_cons, List.map_nil, List.length_cons, List.length_nil, List.replicate, List.cons_append, List.nil_append, List.getElem?_cons_zero, List.getElem?_cons_succ, List.set_cons_zero, List.set_cons_succ, Nat.reduceAdd, Nat.reduceSub, Option.map, hS, i0, i1, j0, j1, sput_same, sput_sput]
  by_cases ha : (0 : Int) < a
  · simp only [decide_eq_true ha, if_true]
    refine ⟨Int.ne_of_gt h3, ⟨Int.ne_of_gt h3, h4⟩, hq _ _ _ (fmod_lo h3) (fmod_hi h3) h1 h2⟩
  · simp only [decide_eq_false ha, Bool.false_eq_true, if_false]
    refine ⟨mulOk_r (by decide) (by decide), by decide, ?_⟩
    refine ⟨mulOk_l (by have := m1 (c * 30671 + 8807); omega) (by have := m2 (c * 30671 + 8807); omega), by decide, divOk_lit (by decide) (by decide), Int.ne_of_gt h3, ?_⟩
    exact hq _ _ _ (fmod_lo h3) (fmod_hi h3) (m1 _) (by have := m2 (c * 30671 + 8807); omega)
theorem b_Drum : ∀ (z n : Int) (St : Sto) (R : WR) (Φ : D → Sto → Prop), -(2 ^ 20) < n → n < 2 ^ 20 → (∀ p a c, St p = none → 0 ≤ c → c < 4294967296 → Φ (.ptr p) (sput St p (.lst [.int a, .int c]))) → B_l_drum R { nx := fun _ _ => False, rt := Φ } (estart 3 [.int z, .int n]) St := by
  intro z n St R Φ h1 h2 hq
  have m1 := fun x : Int => fmod_lo (a := x) (b := 2077504273) (by decide)
  have m2 := fun x : Int => fmod_hi (a := x) (b := 2077504273) (by decide)
  have cp : CPow 10 18 := ⟨by decide, by decide, by decide⟩
  have k1 : MulOk z 97 := mulOk_r (by decide) (by decide)
  have k2 : ∀ i : Int, MulOk i n := fun i => mulOk_r (by omega) (by omega)
  have k3 : DivOk 7 := divOk_lit (by decide) (by decide)
  have k4 : ¬ (2077504273 : Int) = 0 := by decide
  simp only [B_l_drum, wVar, wC, wBin, wUna, wTst, wChain, wAndT, wOrT, wNotT, wAnd, wOr, wNot, wIf, wNil, wCons, wTup, wLst, wFn, wSl, wPart, wNoPart, wCall, wISeq, wIRng, wIZip, wComp, wYes, wLstM, wCatM, wApp1, sNext, sSeq, sBrk, sCnt, sExp, sRet, sRetN, sIf, sAsg, sPar, sPar3, sFor, sRaise, gNm, gNl, gCn, gTp, gIx, fAdd, fSub, fMul, fDiv, fMod, fPow, fNeg, fLt, fLe, fGt, fGe, fOrd, fIsN, fNotN, fIsB, fNotB, fLen, fAbs, fInt, fBool, fStrI, fTuple, fList, fIx, fSl, fRev, fnW, res, estart, List.map_cons, List.map_nil, List.length_cons, List.length_nil, List.replicate, List.cons_append, List.nil_append, List.getElem?_cons_zero, List.getElem?_cons_succ, List.set_cons_zero, List.set_cons_succ, Nat.reduceAdd, Nat.reduceSub, Option.map, cp, k1, k2, k3, k4, true_and, ne_eq, not_false_eq_true]
  split <;> exact fun p hp => hq p _ _ hp (by have := m1 (z * 97 + 1087 * n); omega) (by have := m2 (z * 97 + 1087 * n); omega)
end DL

set_option maxRecDepth 100000
set_option maxHeartbeats 4000000
/-! DH1: walks and tuple targets while an exception is handled. -/
namespace DH
open PySem PySem.Spec PyProof.Rows L2 L2H HotX
section
variable {prog : Program} {w : World} {A : Around} {E : Value → Shared → Prop} {s : Shared}
/-- StopIteration made and raised there -/
theorem stop_hot {α : Type} {Q : α → Shared → Prop} {x1 : Addr} (hot : HotAt A x1 s.heap)
    (hE : ∀ e h', (∀ b o, s.heap.get? b = some o → h'.get? b = some o) → (∃ o, h'.get? e = some o ∧ o.cls = .type "StopIteration") → E (.ref e) { s with heap := h' }) :
    wpAny (model prog w) A (do let e ← newExc (.type "StopIteration") []; (raiseNew e : Sem α)) Q E s := by
  obtain ⟨hh, o1, vs1, h1, d1, c1⟩ := hot
  refine wpAny_bind ?_
  simp only [newExc, newTuple]
  refine wpAny_bind (wpAny_newObj_type ?_ (by size_fits))
  refine wpAny_bind (m := firstArgMember _ _) (wpAny_of_eq (a := Value.none) (by first | rfl | (simp only [firstArgMember]; rfl)) ?_)
  refine wpAny_newObj_type ?_ (by size_fits)
  have k1 := Heap.get?_push_of_some { cls := .type "tuple", data := .seq ([] : List Value).toArray } h1
  refine raiseNew_hot ⟨hh, o1, vs1, Heap.get?_push_of_some _ k1, d1, c1⟩ (Nat.ne_of_lt (Heap.lt_size k1)) (Heap.get?_push_size _ rfl) rfl (by first | (simp; done) | (simp; omega) | (simp only [Array.size_append]; simp; omega)) ?_
  refine hE _ _ (fun b o e => ?_) ⟨_, Heap.get?_update_self _ (Heap.get?_push_size _ rfl) rfl, rfl⟩
  have k2 := Heap.get?_push_of_some { cls := .type "tuple", data := .seq ([] : List Value).toArray } e
  rw [Heap.get?_update_other _ _ (Nat.ne_of_gt (Heap.lt_size k2))]
  exact Heap.get?_push_of_some _ k2
theorem hot_keep {x1 : Addr} {h h' : Heap} (hot : HotAt A x1 h) (k : ∀ o, h.get? x1 = some o → h'.get? x1 = some o) : HotAt A x1 h' := by
  obtain ⟨hh, o1, vs1, h1, d1, c1⟩ := hot
  exact ⟨hh, o1, vs1, k _ h1, d1, c1⟩
theorem nextOf_end {it l x1 : Addr} {i : Nat} {items : Array Value} {Q : Value → Shared → Prop} (hot : HotAt A x1 s.heap) (hx1 : x1 ≠ it)
    (hit : s.heap.IsListIter it l i) (hl : s.heap.IsList l items) (hx : items[i]? = none)
    (hE : ∀ h' e, (∀ b o, b ≠ it → s.heap.get? b = some o → h'.get? b = some o) → (∃ o, h'.get? e = some o ∧ o.cls = .type "StopIteration") → E (.ref e) { s with heap := h' }) :
    wpAny (model prog w) A (Builtin.SmallTypes.nextOf (.ref it)) Q E s := by
  obtain ⟨o, ho, hc, hd⟩ := id hit
  obtain ⟨ol, hol, _, nl, hdl⟩ := hl
  unfold Builtin.SmallTypes.nextOf
  refine wpAny_bind (wpAny_callSpecial?_slot (name := Str.ofString "__next__") hit.typeIs slot_listiter_next (wpAny_call_entry slot_listiter_next hit.typeIs entry_listiter_next ?_ (args_listiter_next _)))
  show wpAny _ _ (field (.ref it) 0 >>= _) _ _ s
  refine wpAny_bind (wpAny_field ho hd (x := .ref l) rfl ?_)
  show wpAny _ _ (if (Value.ref l == Value.none) = true then _ else _) _ _ s
  rw [if_neg (show ¬ ((Value.ref l == Value.none) = true) by simp)]
  show wpAny _ _ (field (.ref it) 1 >>= _) _ _ s
  refine wpAny_bind (wpAny_field ho hd (x := .int i 0) rfl ?_)
  show wpAny _ _ (seqItems? (.ref l) >>= _) _ _ s
  refine wpAny_bind (wpAny_seqItems hol hdl ?_)
  simp only [Int.toNat_natCast, hx]
  refine wpAny_bind (wpAny_rule (wpAny_bind (wpAny_setField ho hd (by simp) ?_)))
  have sb : ∀ b u, b ≠ it → s.heap.get? b = some u → (s.heap.update it (Obj.mapFields (·.setIfInBounds 0 .none))).get? b = some u := fun b u hb e => (Heap.get?_update_other _ _ (Ne.symm hb)).trans e
  refine stop_hot (hot_keep hot fun o e => sb _ _ hx1 e) fun e h' k q => hE h' e (fun b u hb z => k b u (sb b u hb z)) q
theorem zip_end {z TI TO i1 i2 l1 l2 x1 : Addr} {k1 k2 : Nat} {xs ys : Array Value} {a b : Value} {Q : Fin → Shared → Prop} (hot : HotAt A x1 s.heap) (xz : x1 ≠ z) (xT : x1 ≠ TO) (xi : x1 ≠ i1) (xj : x1 ≠ i2) (D : ZipApart z TI TO i1 i2 l1 l2)
    (hz : IsZip s.heap z TI TO .none) (hTI : IsPair s.heap TI (.ref i1) (.ref i2)) (hTO : IsPair s.heap TO a b)
    (h1 : s.heap.IsListIter i1 l1 k1) (h2 : s.heap.IsListIter i2 l2 k2) (hl1 : s.heap.IsList l1 xs) (hl2 : s.heap.IsList l2 ys) (hend : xs[k1]? = none ∨ ys[k2]? = none)
    (hE : ∀ h' e, (∀ c o, c ≠ z → c ≠ TO → c ≠ i1 → c ≠ i2 → s.heap.get? c = some o → h'.get? c = some o) → (∃ o, h'.get? e = some o ∧ o.cls = .type "StopIteration") → E (.ref e) { s with heap := h' }) :
    wpAny (model prog w) A (Builtin.«zip.__next__» ⟨[.ref z], []⟩) Q E s := by
  show wpAny _ _ (field (.ref z) 2 >>= _) _ _ _
  refine wpAny_bind (wpAny_field hz rfl (x := .bool false) rfl ?_)
  show wpAny _ _ (field (.ref z) 3 >>= _) _ _ _
  refine wpAny_bind (wpAny_field hz rfl (x := .ref TI) rfl ?_)
  refine wpAny_bind (wpAny_seqItems hTI rfl ?_)
  show wpAny _ _ (Builtin.SmallTypes.ownedTupleIsFree (.ref z) >>= _) _ _ _
  refine wpAny_bind ?_
  unfold Builtin.SmallTypes.ownedTupleIsFree
  refine wpAny_bind (wpAny_field hz rfl (x := .none) rfl (wpAny_pure ?_))
  simp only [if_true]
  refine wpAny_bind (wpAny_rule ?_)
  refine wpAny_bind (wpAny_field hz rfl (x := .ref TO) rfl ?_)
  refine wpAny_bind (wpAny_setField_rec hz (by simp) fun g1 hz1 sb1 => ?_)
  replace hz1 : IsZip g1 z TI TO .ellipsis := hz1
  have hot1 : HotAt A x1 g1 := hot_keep hot fun o e => sb1.extBut _ _ xz e
  refine wpAny_bind ?_
  simp only [List.zipIdx_cons, List.zipIdx_nil, List.forIn_cons, List.forIn_nil]
  refine wpAny_bind (wpAny_bind (wpAny_onRaise ?_))
  show wpAny _ _ (Builtin.SmallTypes.nextOf (.ref i1) >>= _) _ _ _
  cases hx : xs[k1]? with
  | none =>
    refine wpAny_bind (nextOf_end hot1 xi (h1.extBut sb1.extBut D.i1z) (hl1.extBut sb1.extBut D.l1z) hx fun g2 e sb2 he => ?_)
    obtain ⟨oe, hoe, hce⟩ := he
    have hz2 : IsZip g2 z TI TO .ellipsis := sb2 _ _ D.i1z.symm hz1
    have hez : e ≠ z := fun x => by subst x; rw [hz2] at hoe; cases hoe; simp at hce
    refine wpAny_setField_rec hz2 (by simp) fun g3 _ sb3 => hE g3 e (fun c o c1 _ c3 _ x => sb3.extBut _ _ c1 (sb2 _ _ c3 (sb1.extBut _ _ c1 x))) ⟨oe, sb3.extBut _ _ hez hoe, hce⟩
  | some x =>
    have hy : ys[k2]? = none := by rcases hend with h | h; rw [hx] at h; cases h; exact h
    refine wpAny_bind (wpAny_nextOf_list_item (h1.extBut sb1.extBut D.i1z) (hl1.extBut sb1.extBut D.l1z) hx fun g2 h12 sb2 => wpAny_pure ?_)
    have hTO2 : IsPair g2 TO a b := sb2.extBut _ _ D.TOi1 (sb1.extBut _ _ D.TOz hTO)
    refine wpAny_bind (wpAny_seqItems hTO2 rfl ?_)
    refine wpAny_bind (wpAny_updateSeq_pair hTO2 fun g3 hTO3 sb3 => ?_)
    refine wpAny_bind (wpAny_letGo (wpAny_pure ?_))
    refine wpAny_bind (wpAny_bind (wpAny_onRaise ?_))
    show wpAny _ _ (Builtin.SmallTypes.nextOf (.ref i2) >>= _) _ _ _
    have hot3 : HotAt A x1 g3 := hot_keep hot1 fun o e => sb3.extBut _ _ xT (sb2.extBut _ _ xi e)
    refine wpAny_bind (nextOf_end hot3 xj (((h2.extBut sb1.extBut D.i2z).extBut sb2.extBut D.i12.symm).extBut sb3.extBut D.TOi2.symm) (((hl2.extBut sb1.extBut D.l2z).extBut sb2.extBut D.l2i1).extBut sb3.extBut D.l2TO) hy fun g4 e sb4 he => ?_)
    obtain ⟨oe, hoe, hce⟩ := he
    have hz4 : IsZip g4 z TI TO .ellipsis := sb4 _ _ D.i2z.symm (sb3.extBut _ _ D.TOz.symm (sb2.extBut _ _ D.i1z.symm hz1))
    have hez : e ≠ z := fun x => by subst x; rw [hz4] at hoe; cases hoe; simp at hce
    refine wpAny_setField_rec hz4 (by simp) fun g5 _ sb5 => hE g5 e (fun c o c1 c2 c3 c4 x => sb5.extBut _ _ c1 (sb4 _ _ c4 (sb3.extBut _ _ c2 (sb2.extBut _ _ c3 (sb1.extBut _ _ c1 x))))) ⟨oe, sb5.extBut _ _ hez hoe, hce⟩
theorem pyNext_zip_end {z TI TO i1 i2 l1 l2 x1 : Addr} {k1 k2 : Nat} {xs ys : Array Value} {a b : Value} {Q : Option Value → Shared → Prop} (hot : HotAt A x1 s.heap) (xz : x1 ≠ z) (xT : x1 ≠ TO) (xi : x1 ≠ i1) (xj : x1 ≠ i2) (D : ZipApart z TI TO i1 i2 l1 l2)
    (hz : IsZip s.heap z TI TO .none) (hTI : IsPair s.heap TI (.ref i1) (.ref i2)) (hTO : IsPair s.heap TO a b)
    (h1 : s.heap.IsListIter i1 l1 k1) (h2 : s.heap.IsListIter i2 l2 k2) (hl1 : s.heap.IsList l1 xs) (hl2 : s.heap.IsList l2 ys) (hend : xs[k1]? = none ∨ ys[k2]? = none)
    (hQ : ∀ h', (∀ c o, c ≠ z → c ≠ TO → c ≠ i1 → c ≠ i2 → s.heap.get? c = some o → h'.get? c = some o) → Q none { s with heap := h' }) : wpAny (model prog w) A (pyNext (.ref z)) Q E s := by
  have hT : s.TypeIs (.ref z) "zip" := ⟨_, hz, rfl⟩
  unfold pyNext
  refine wpAny_bind (wpAny_attempt (wpAny_callSpecial?_slot (name := Str.ofString "__next__") hT F.slot_zip_next (wpAny_call_entry F.slot_zip_next hT F.entry_zip_next (zip_end hot xz xT xi xj D hz hTI hTO h1 h2 hl1 hl2 hend fun h' e hk he => ?_) (F.args_zip_next_1 _))))
  obtain ⟨o, ho, hc⟩ := he
  exact wpAny_bind (wpAny_isInstance (T := "StopIteration") (b := true) ⟨o, ho, hc⟩ isSubtype_stop (wpAny_pure (hQ _ hk)))

/-! ### a tuple unpacked -/
theorem tuple_end {it t x1 : Addr} {i : Nat} {items : Array Value} {Q : Option Value → Shared → Prop} (hot : HotAt A x1 s.heap) (hx1 : x1 ≠ it) (hit : IsTupIter s.heap it t i) (ht : IsTup s.heap t items) (hx : items[i]? = none)
    (hQ : ∀ h', (∀ b o, b ≠ it → s.heap.get? b = some o → h'.get? b = some o) → Q none { s with heap := h' }) : wpAny (model prog w) A (pyNext (.ref it)) Q E s := by
  obtain ⟨o, ho, hc, hd⟩ := id hit
  obtain ⟨ol, hol, _, nl, hdl⟩ := ht
  unfold pyNext
  refine wpAny_bind (wpAny_attempt (wpAny_callSpecial?_slot (name := Str.ofString "__next__") hit.typeIs slot_tupleiter_next (wpAny_call_entry slot_tupleiter_next hit.typeIs entry_tupleiter_next ?_ (args_tupleiter_next _))))
  show wpAny _ _ (field (.ref it) 0 >>= _) _ _ s
  refine wpAny_bind (wpAny_field ho hd (x := .ref t) rfl ?_)
  show wpAny _ _ (if (Value.ref t == Value.none) = true then _ else _) _ _ s
  rw [if_neg (show ¬ ((Value.ref t == Value.none) = true) by simp)]
  show wpAny _ _ (field (.ref it) 1 >>= _) _ _ s
  refine wpAny_bind (wpAny_field ho hd (x := .int i 0) rfl ?_)
  show wpAny _ _ (seqItems? (.ref t) >>= _) _ _ s
  refine wpAny_bind (wpAny_seqItems hol hdl ?_)
  simp only [Int.toNat_natCast, hx]
  refine wpAny_bind (wpAny_rule (wpAny_bind (wpAny_setField ho hd (by simp) ?_)))
  have sb : ∀ b u, b ≠ it → s.heap.get? b = some u → (s.heap.update it (Obj.mapFields (·.setIfInBounds 0 .none))).get? b = some u := fun b u hb e => (Heap.get?_update_other _ _ (Ne.symm hb)).trans e
  refine stop_hot (hot_keep hot fun o e => sb _ _ hx1 e) fun e h' k q => ?_
  obtain ⟨oe, hoe, hce⟩ := q
  exact wpAny_bind (wpAny_isInstance (T := "StopIteration") (b := true) ⟨oe, hoe, hce⟩ isSubtype_stop (wpAny_pure (hQ _ fun b u hb z => k b u (sb b u hb z))))
theorem unpackItems {t x1 : Addr} {items : Array Value} {Q : List Value → Shared → Prop} (hot : HotAt A x1 s.heap) (ht : IsTup s.heap t items)
    (hQ : ∀ h', (∀ b o, b ≠ s.heap.objs.size → s.heap.get? b = some o → h'.get? b = some o) → Q items.toList { s with heap := h' }) : wpAny (model prog w) A (PySem.unpackItems (.ref t) items.size none) Q E s := by
  have hlt : t ≠ s.heap.objs.size := by obtain ⟨o, ho, _⟩ := ht; exact Nat.ne_of_lt (Heap.lt_size ho)
  have xlt : x1 ≠ s.heap.objs.size := by obtain ⟨_, _, _, h1, _⟩ := hot; exact Nat.ne_of_lt (Heap.lt_size h1)
  unfold PySem.unpackItems
  refine wpAny_bind ?_
  · unfold notIterableAtAll
    refine wpAny_bind (wpAny_specialOf ht.typeIs slot_tuple_iter.lookup ?_)
    refine wpAny_pure ?_
    simp only [Bool.false_eq_true, if_false]
    refine wpAny_bind (wpAny_holding (iter_tuple ht ?_))
    refine wpAny_bind (wpAny_holding (draw_tuple hlt items.size 0 _ _ ⟨_, Heap.get?_push_size _ rfl, rfl, rfl⟩ (ht.push _) (by omega) fun h₁ hit₁ hs₁ => ?_))
    have hall : List.take items.size (List.drop 0 items.toList) = items.toList := by rw [List.drop_zero]; exact List.take_of_length_le (by simp)
    rw [hall, if_neg (by simp)]
    have ht₁ : IsTup h₁ t items := (ht.push _).extBut hs₁.extBut hlt
    have hot1 : HotAt A x1 h₁ := hot_keep hot fun o e => hs₁.extBut _ _ xlt (Heap.get?_push_of_some _ e)
    refine wpAny_bind (wpAny_holding (tuple_end hot1 xlt hit₁ ht₁ (by simp) fun h₂ he₂ => ?_))
    simp only [Option.isSome_none, Bool.false_eq_true, if_false]
    refine wpAny_pure (hQ h₂ fun b o hb e => he₂ b o hb (hs₁.extBut b o hb (Heap.get?_push_of_some _ e)))
theorem assign_Tuple_hot {env : Env} {elts : List Expr} {k} {pos : Pos} {t x1 : Addr} {items : Array Value} {Q : Unit → Shared → Prop} (hot : HotAt A x1 s.heap) (ht : IsTup s.heap t items)
    (hn : (assignEach elts env).length = items.size) (hstar : (assignEach elts env).findIdx? (·.1) = none)
    (h : ∀ h', (∀ b o, b ≠ s.heap.objs.size → s.heap.get? b = some o → h'.get? b = some o) → wpAny (model prog w) A (assignInOrder ((assignEach elts env).map (·.2)) items.toList) Q E { s with heap := h' }) :
    wpAny (model prog w) A (assign (.Tuple elts k pos) env (.ref t)) Q E s := by
  rw [assign_Tuple]
  refine wpAny_bind (wpAny_standAt ?_)
  unfold unpack
  rw [hn, hstar]
  exact wpAny_bind (wpAny_holding (unpackItems hot ht h))
end
section
variable {X : Cx} {pos : Pos}
theorem pg_tupH {es : List Expr} {k : Nat} {t : TGs} {n : Nat} (hc : HotC X) (h : PGs X es t) (hn : (assignEach es X.env).length = n := by rfl) (hst : (assignEach es X.env).findIdx? (·.1) = none := by rfl) : PG X (.Tuple es k pos) (gTup X.K n t) := by
  refine ⟨fun pins s σ H v u Q I r hw => ?_⟩
  obtain ⟨a, xs, e1, hq, hl, hw⟩ := hw
  subst e1
  cases r
  obtain ⟨its, rv, ht, hz⟩ := I.tuple hq
  obtain ⟨x1, hot⟩ := hc.at I
  refine assign_Tuple_hot hot ht (by simp [hn, ← hl, rv.length]) hst fun h' hx => ?_
  exact h.run pins _ σ H xs _ Q (I.kept (t' := s.toks) fun b o e => hx b o (Nat.ne_of_lt (Heap.lt_size e)) e) (by simpa using rv) hw
end
end DH

set_option maxRecDepth 100000
set_option maxHeartbeats 4000000
/-! DH2: a comprehension over zip while an exception is handled. -/
namespace DH
open PySem PySem.Spec PyProof.Rows L2 L2H HotX
theorem turn_zipH {P : Program} {w : World} {K : PySem.W.Frag} {elts : List Expr} {kk : Nat} {tpos : Pos} {a b z TI TO i1 i2 : Addr} (D : ZipApart z TI TO i1 i2 a b) :
    TurnH P w K (.Tuple elts kk tpos) (Itz K a b) [z, TI, TO, i1, i2] z (fun i h => IsZip h z TI TO .none ∧ IsPair h TI (.ref i1) (.ref i2) ∧ (∃ x y, IsPair h TO x y) ∧ h.IsListIter i1 a i ∧ h.IsListIter i2 b i) := by
  have T0 : Turn P w K (.Tuple elts kk tpos) (Itz K a b) [z, TI, TO, i1, i2] z _ := turn_zip D
  refine ⟨T0.mem, T0.obj, T0.keep, ?_, ?_, T0.self⟩
  · intro X hP hw hK hc i pins s σ H E I hf st hg
    subst hP hw hK
    obtain ⟨hz, hTI, ⟨x0, y0, hTO⟩, h1, h2⟩ := st
    obtain ⟨xs, ys, x, y, hqx, hqy, hx, hy⟩ := hg
    obtain ⟨its, rv, p, _⟩ := I.list hqx
    obtain ⟨its2, rv2, p2, _⟩ := I.list hqy
    obtain ⟨u, hu, ru⟩ := rv.get hx
    obtain ⟨u2, hu2, ru2⟩ := rv2.get hy
    have hzl : z < s.heap.objs.size := Heap.lt_size hz
    refine wpAny_pyNext_zip_item D hz hTI hTO h1 h2 p.isList p2.isList (x := u) (y := u2) (by simpa using hu) (by simpa using hu2) fun g1 z' TO' h1' h2' hT hsz hk => ?_
    refine ⟨_, rfl, wpAny_letOwnedTupleGo_zip (s := { s with heap := g1 }) z' fun g2 z'' sb => ?_⟩
    have hT2 : g2.get? s.heap.objs.size = some { cls := .type "tuple", data := .seq #[u, u2] } := (sb.2 _ (Nat.ne_of_gt hzl)).trans hT
    have new : ObjOk X.prog X.w (upd H s.heap.objs.size (.tup [x, y])) g2 s.heap.objs.size (.tup [x, y]) := ⟨by show 2 ≤ sizeLine; decide, [u, u2], .cons ru (.cons ru2 .nil), ⟨_, hT2, rfl, _, rfl⟩⟩
    have nb : ∀ {c}, c ∉ [z, TI, TO, i1, i2] → c ≠ z ∧ c ≠ TI ∧ c ≠ TO ∧ c ≠ i1 ∧ c ≠ i2 := fun {c} q => by simpa using q
    have I1 : Inv X pins σ (upd H s.heap.objs.size (.tup [x, y])) { s with heap := g2 } :=
      I.turnedNew (t' := s.toks) (ch := [z, TI, TO, i1, i2]) (fun c o hb q => (sb.2 c (nb hb).1).trans (hk c o (nb hb).1 (nb hb).2.2.1 (nb hb).2.2.2.1 (nb hb).2.2.2.2 q)) hf (Nat.le_refl _) new
    refine ⟨.ref s.heap.objs.size, _, I1, rfl, ⟨_, x, y, rfl, I.hok.fresh (Nat.le_refl _), rfl, fun l hl => by rw [I.list_inj hl hqx]; exact hx, fun l hl => by rw [I.list_inj hl hqy]; exact hy⟩, ⟨z'', ?_, ⟨u, u2, ?_⟩, ?_, ?_⟩, fun c hcm => ?_⟩
    · exact (sb.2 _ D.TIz).trans (hk _ _ D.TIz D.TITO D.TIi1 D.TIi2 hTI)
    · exact (sb.2 _ D.TOz).trans TO'
    · exact h1'.at fun o q => (sb.2 _ D.i1z).trans q
    · exact h2'.at fun o q => (sb.2 _ D.i2z).trans q
    · have hlt : c < s.heap.objs.size := by
        have e' : c = z ∨ c = TI ∨ c = TO ∨ c = i1 ∨ c = i2 := by simpa using hcm
        obtain ⟨_, e1, _⟩ := h1
        obtain ⟨_, e2, _⟩ := h2
        rcases e' with q | q | q | q | q <;> rw [q]
        · exact hzl
        · exact Heap.lt_size hTI
        · exact Heap.lt_size hTO
        · exact Heap.lt_size e1
        · exact Heap.lt_size e2
      rw [upd_ne (Nat.ne_of_lt hlt)]
      exact (hf c hcm).1
  · intro X hP hw hK hc i pins s σ H E I hf st hg
    subst hP hw hK
    obtain ⟨hz, hTI, ⟨x0, y0, hTO⟩, h1, h2⟩ := st
    obtain ⟨xs, ys, hqx, hqy, hend⟩ := hg
    obtain ⟨its, rv, p, _⟩ := I.list hqx
    obtain ⟨its2, rv2, p2, _⟩ := I.list hqy
    have l1 := rv.length
    have l2 := rv2.length
    have he : its.toArray[i]? = none ∨ its2.toArray[i]? = none := by
      rcases hend with q | q
      · exact .inl (by simp; omega)
      · exact .inr (by simp; omega)
    obtain ⟨q, ⟨hh, v1, e1, c1⟩, hp⟩ := hc
    have hot : HotAt X.A q.1 s.heap := ⟨hh, q.2, v1, (I.pin q (List.mem_append_left _ hp)).1, e1, c1⟩
    have ne : ∀ c, c ∈ [z, TI, TO, i1, i2] → q.1 ≠ c := fun c hcm => (hf c hcm).2.2.2.2.2 q (List.mem_append_left _ hp)
    have nb : ∀ {c}, c ∉ [z, TI, TO, i1, i2] → c ≠ z ∧ c ≠ TI ∧ c ≠ TO ∧ c ≠ i1 ∧ c ≠ i2 := fun {c} q => by simpa using q
    exact pyNext_zip_end hot (ne z (by simp)) (ne TO (by simp)) (ne i1 (by simp)) (ne i2 (by simp)) D hz hTI hTO h1 h2 p.isList p2.isList he fun h' hk => ⟨rfl, I.turnedL (t' := s.toks) (ch := [z, TI, TO, i1, i2]) (fun c o hb q =>
      hk c o (nb hb).1 (nb hb).2.2.1 (nb hb).2.2.2.1 (nb hb).2.2.2.2 q) hf⟩
theorem pi_zipH {X : Cx} {e e2 : Expr} {ta : TA} {p pos tpos : Pos} {elts : List Expr} {kk : Nat} (hg : Gl X "zip") (hm : X.mg "zip" = none) (ha : PA X [e, e2] ta)
    (hs : starEach [e, e2] X.env = (false, eval e X.env) :: starEach [e2] X.env := by rfl) (hpl : (backTo pos (starEach [e2] X.env)).any (·.1) = false := by rfl) :
    PIH X (.Tuple elts kk tpos) (.Call (.Name "zip" p) [e, e2] [] pos) (iZip X.K ta) := by
  refine ⟨fun pins s0 σ H R I h => ?_⟩
  refine Call_ (ld_blt I hg hm PyProof.Rows.boot_zip (PyProof.Rows.callWith_type1 (thn (ha.run pos pins s0 σ H _ I h) fun us s ⟨vs, H1, I1, r1, q1⟩ => ?_) hs hpl))
  obtain ⟨a, b, xs, ys, rfl, hqx, hqy, q⟩ := q1
  obtain ⟨u, v, rfl, ra, rb⟩ := vals2 r1
  cases ra
  cases rb
  obtain ⟨its, rv, p1, _⟩ := I1.list hqx
  obtain ⟨its2, rv2, p2, _⟩ := I1.list hqy
  refine call_zip_2 p1.isList p2.isList fun h' hz hTI hTO h1 h2 hsz hk => wpAny_pyIter_zip hz ?_
  refine ⟨s.heap.objs.size + 4, [s.heap.objs.size + 4, s.heap.objs.size + 2, s.heap.objs.size + 3, s.heap.objs.size, s.heap.objs.size + 1], _, _, H1, rfl, I1.kept (t' := s.toks) hk, turn_zipH (PySem.W.ktu_apart s.heap.objs.size a b p1.lt p2.lt), ⟨hz, hTI, ⟨_, _, hTO⟩, h1, h2⟩, fun c hc => ?_, q⟩
  have le : s.heap.objs.size ≤ c := by
    have e' : c = s.heap.objs.size + 4 ∨ c = s.heap.objs.size + 2 ∨ c = s.heap.objs.size + 3 ∨ c = s.heap.objs.size ∨ c = s.heap.objs.size + 1 := by simpa using hc
    rcases e' with z | z | z | z | z <;> rw [z] <;> first | exact Nat.le_add_right _ _ | exact Nat.le_refl _
  exact I1.fpOk le (I1.hok.fresh le)

/-- a block's context that keeps the handled exception in sight -/
abbrev blkH (X : Cx) (s : Shared) (H : Hp) (scope : Scope) (ce : PySem.Env) (fp : List Addr) : Cx := { X.blk s H scope ce fp with pn := X.pn }
theorem inv_blkH {X : Cx} {s0 s : Shared} {H0 H : Hp} {scope : Scope} {ce : PySem.Env} {fp : List Addr} {σ : L2.St} (I : Inv (X.blk s0 H0 scope ce fp) [] σ H s) (h : ∀ p ∈ X.pn, s.heap.get? p.1 = some p.2 ∧ H p.1 = none ∧ p.1 ≠ ce.locals ∧ p.1 ∉ frs X.stack ∧ ∀ v, p.2.data ≠ .cell v) : Inv (blkH X s0 H0 scope ce fp) [] σ H s :=
  ⟨⟨I.ok.mod, I.ok.kind, I.ok.glob, I.ok.blt, I.ok.above, I.ok.inj, I.ok.has, I.ok.cab, I.ok.hd, I.ok.frames, I.ok.stk, I.ok.exf, I.ok.bs, I.ok.bsz, I.ok.noex, I.ok.exfs, I.ok.funs, I.ok.frf⟩, I.os, I.bare, I.base, I.loc, I.cell, I.free, I.freeC,
    fun p hp => h p (by simpa using hp), I.hok, I.len⟩
theorem inv_unblkH {X : Cx} {s0 s : Shared} {H0 H : Hp} {scope : Scope} {ce : PySem.Env} {fp : List Addr} {σ : L2.St} {pins : List (Addr × Obj)} (I : Inv (blkH X s0 H0 scope ce fp) pins σ H s) : Inv (X.blk s0 H0 scope ce fp) [] σ H s :=
  ⟨⟨I.ok.mod, I.ok.kind, I.ok.glob, I.ok.blt, I.ok.above, I.ok.inj, I.ok.has, I.ok.cab, I.ok.hd, I.ok.frames, I.ok.stk, I.ok.exf, I.ok.bs, I.ok.bsz, I.ok.noex, I.ok.exfs, I.ok.funs, I.ok.frf⟩, I.os, I.bare, I.base, I.loc, I.cell, I.free, I.freeC,
    fun p hp => absurd (show p ∈ ([] : List (Addr × Obj)) ++ [] from hp) (by simp), I.hok, I.len⟩
section
variable {X : Cx}
theorem pe_lcH {elt tg iter : Expr} {ifs : List Expr} {scope : Scope} {own : List (Str × Nat)} {pos : Pos} {wi : TI} {g : TG} {tt : TT} {te : TE} (hc : HotC X) (hN : X.N.Nodup) (hi : PIH X tg iter wi) (ok : BlkOk X.N X.env.scope scope own)
    (hg : ∀ (s : Shared) (H : Hp) (C : Addr) (cl : List (Str × Addr)) (fp : List Addr), PG (blkH X s H scope (compEnvC scope cl C X.env) fp) tg g) (ht : ∀ (s : Shared) (H : Hp) (C : Addr) (cl : List (Str × Addr)) (fp : List Addr), PTs (blkH X s H scope (compEnvC scope cl C X.env) fp) ifs tt)
    (he : ∀ (s : Shared) (H : Hp) (C : Addr) (cl : List (Str × Addr)) (fp : List Addr), PE (blkH X s H scope (compEnvC scope cl C X.env) fp) elt te) (hs : ∀ x, foldedSetIterable iter X.env x = pure x := by intro _; rfl) :
    PE X (.ListComp elt [⟨tg, iter, ifs, 0⟩] scope pos) (tLc wi g tt te (own.map (·.2))) := by
  refine ⟨fun pins s0 σ H Q I h => ?_⟩
  rw [eval_ListComp]
  have hfree : ∀ y ∈ scope.names, y.2 = .free → ∃ c, X.env.cells.lookup y.1 = some c := fun y hy e => (ok.free y hy e).elim (fun k => I.ok.has _ (.inl k)) fun k => I.ok.has _ (.inr k)
  refine wpAny_comprehension_free (use := none) rfl hs (closure_ok hfree) ok.kind (fun y hy e => by rw [ok.uniq y hy, e]) (thn (hi.run pins s0 σ H _ I h) fun xv s1 hx => thn hx fun itv s2 h2 => ?_)
  obtain ⟨it, fp, tn, J, H2, e, I2, T, st2, f2, q⟩ := h2
  subst e
  refine wpAny_newObj_type (newEnv_comp ?_) (by show 0 ≤ sizeLine; decide)
  generalize hD : s2.heap.objs.size = D
  have hDn : H2 D = none := I2.hok.fresh (Nat.le_of_eq hD)
  obtain ⟨W, ⟨m0, w0⟩, turn⟩ := q D hDn
  generalize hs3 : ({ s2 with heap := s2.heap.push { cls := .type "list", data := .seq ([] : List Value).toArray } } : Shared) = s3
  have I3 : Inv X pins σ (upd H2 D (.lst [])) s3 := by
    rw [← hs3]
    refine I2.laid (t' := s2.toks) (fun b o e => Heap.get?_push_of_some _ e) (Nat.le_of_eq hD) ⟨Nat.zero_le _, [], 0, .nil, ?_⟩
    rw [← hD]
    exact Heap.get?_push_size _ rfl
  have h3 : s3.heap = s2.heap.push { cls := .type "list", data := .seq ([] : List Value).toArray } := by rw [← hs3]
  have f3 : ∀ b ∈ fp, FpOk X pins (upd H2 D (.lst [])) b ∧ b < s3.heap.objs.size := fun b hb => by
    obtain ⟨o, e, _⟩ := T.obj _ _ st2 b hb
    have hlt := Heap.lt_size e
    exact ⟨⟨by rw [upd_ne (by rw [← hD]; exact Nat.ne_of_lt hlt)]; exact (f2 b hb).1, (f2 b hb).2⟩, by rw [h3, Heap.size_push]; exact Nat.lt_succ_of_lt hlt⟩
  have st3 : tn 0 s3.heap := T.keep _ _ _ st2 fun b _ o e => by rw [h3]; exact Heap.get?_push_of_some _ e
  have I4' := block_start I3 ok hN f3
  have pg := hg s3 (upd H2 D (.lst [])) s3.heap.objs.size (cellsFrom (s3.heap.objs.size + 1) scope.names (cloFrom X.env.cells scope.names [])) fp
  have pt := ht s3 (upd H2 D (.lst [])) s3.heap.objs.size (cellsFrom (s3.heap.objs.size + 1) scope.names (cloFrom X.env.cells scope.names [])) fp
  have pe := he s3 (upd H2 D (.lst [])) s3.heap.objs.size (cellsFrom (s3.heap.objs.size + 1) scope.names (cloFrom X.env.cells scope.names [])) fp
  show codeAny _ _ (.compStart (.ListComp elt [⟨tg, iter, ifs, 0⟩] scope pos) 0 (.ref it) (.ref D) (compEnvC scope (cellsFrom (s3.heap.objs.size + 1) scope.names (cloFrom X.env.cells scope.names [])) s3.heap.objs.size X.env)) _ { s3 with heap := pushCells (s3.heap.push { cls := .type "dict", data := .dict #[] }) scope.names }
  have nfp : ∀ b ∈ fp, (upd H2 D (.lst [])) b = none := fun b hb => (f3 b hb).1.1
  have hk4 : ∀ b o, s3.heap.get? b = some o → (pushCells (s3.heap.push { cls := .type "dict", data := .dict #[] }) scope.names).get? b = some o := fun b o e => pushCells_keeps _ _ _ _ (Heap.get?_push_of_some _ e)
  generalize hce : compEnvC scope (cellsFrom (s3.heap.objs.size + 1) scope.names (cloFrom X.env.cells scope.names [])) s3.heap.objs.size X.env = ce at I4' pg pt pe ⊢
  have cL : ce.locals = s3.heap.objs.size := by subst hce; rfl
  generalize hH3 : upd H2 D (.lst []) = H3 at I3 I4' pg pt pe w0 nfp f3
  generalize hs4 : ({ s3 with heap := pushCells (s3.heap.push { cls := .type "dict", data := .dict #[] }) scope.names } : Shared) = s4 at I4' ⊢
  have pin0 : ∀ p ∈ X.pn, s3.heap.get? p.1 = some p.2 ∧ H3 p.1 = none ∧ p.1 ≠ ce.locals ∧ p.1 ∉ frs X.stack ∧ ∀ v, p.2.data ≠ .cell v := fun p hp => by
    obtain ⟨e1, e2, e3, e4, e5⟩ := I3.pin p (List.mem_append_left _ hp)
    refine ⟨e1, e2, by rw [cL]; exact Nat.ne_of_lt (Heap.lt_size e1), fun z => ?_, e5⟩
    exact (List.mem_cons.mp (I3.stkSub _ z)).elim e3 e4
  have I4 : Inv (blkH X s3 H3 scope ce fp) [] (wipe σ (own.map (·.2))) H3 s4 := inv_blkH I4' fun p hp => by
    obtain ⟨e1, e2⟩ := pin0 p hp
    exact ⟨by rw [← hs4]; exact hk4 _ _ e1, e2⟩
  have hcB : HotC (blkH X s3 H3 scope ce fp) := hc
  have st4 : tn 0 s4.heap := T.keep _ _ _ st3 fun b _ o e => by rw [← hs4]; exact hk4 _ _ e
  have stat : ∀ {σ' : L2.St} {H' : Hp} {s' : Shared}, Inv (blkH X s3 H3 scope ce fp) [] σ' H' s' → (∀ b ∈ fp, H' b = none) → ∀ b ∈ fp, FpOk (blkH X s3 H3 scope ce fp) [] H' b := fun {σ' H' s'} I' hn b hb =>
    ⟨hn b hb, (I'.ok.exf b hb).1, I'.ok.exfs b hb, .inl hb, fun x c e => (I'.ok.exf b hb).2 x c e, fun p hp => (f3 b hb).1.2.2.2.2.2 p (List.mem_append_left _ (by simpa using hp))⟩
  have loop : codeAny (model X.prog X.w) X.A (.compLoop (.ListComp elt [⟨tg, iter, ifs, 0⟩] scope pos) 0 (.ref it) (.ref D) ce) (compPost (model X.prog X.w) X.A X.xe none (EP X pins σ Q) (.ref D) s3.heap.objs.size) s4 := by
    refine compLoop_any (fun n s' => ∃ i H', Inv (blkH X s3 H3 scope ce fp) [] (wipe σ (own.map (·.2))) H' s' ∧ tn i s'.heap ∧ (∀ b ∈ fp, H' b = none) ∧ W i n H') ?_ m0 ⟨0, H3, I4, st4, nfp, w0⟩
    rintro n s5 ⟨i, H5, I5, st5, n5, w5⟩
    rcases turn i n H5 w5 with ⟨stop, qq⟩ | ⟨go, Nx, hNx, step⟩
    · have td := T.done (blkH X s3 H3 scope ce fp) rfl rfl rfl hcB i [] s5 _ H5 (fun _ _ => False) I5 (stat I5 n5) st5 stop
      refine thnF td fun r s6 ⟨hr, I6'⟩ => ?_
      subst hr
      have I6 := inv_unblkH I6'
      have I7 : Inv X pins σ H5 s6 := I3.call' (ch := fp) I6.os I6.base I6.hok I6.bare fun b hb => ⟨(f3 b hb).1.2.2.2.1, (f3 b hb).1.2.1, (f3 b hb).1.2.2.2.2.1, (f3 b hb).1.2.2.2.2.2⟩
      have nC : H5 s3.heap.objs.size = none := by
        have z : H5 ce.locals = none := I6.free
        rw [cL] at z
        exact z
      obtain ⟨m, hn, _⟩ := I6.loc
      have hn : s6.heap.Ns ce.locals m := hn
      rw [cL] at hn
      obtain ⟨g0, g1, g2, g3, g4, g5⟩ := I3.fpOk (Nat.le_refl _) nC
      exact ⟨m, hn, fun h'' sb => ⟨.ref D, H5, I7.turned (t' := s6.toks) (fun b o hb e => (sb.2 b hb).trans e) g0 g1 g3 g4 g5, rfl, qq⟩⟩
    · have ti := T.item (blkH X s3 H3 scope ce fp) rfl rfl rfl hcB i [] s5 _ H5 (fun _ _ => False) I5 (stat I5 n5) st5 go
      refine thnF ti fun r s6 ⟨u, hr, h6⟩ => ?_
      subst hr
      refine thnF h6 fun _ s7 ⟨x, H7, I7, r7, y7, st7, n7⟩ => ?_
      have I7' := I7.pinned (stat I7 n7) (T.obj _ _ st7)
      refine thnF (pg.run _ s7 _ H7 x u _ I7' r7 (step x H7 y7)) fun _ s8 ⟨σ8, H8, I8, hw8, q8⟩ => ?_
      refine thnF (pt.run _ s8 σ8 H8 _ I8 q8) fun b s9 ⟨H9, I9, q9⟩ => ?_
      have fin : ∀ {s' : Shared} {H' : Hp}, Inv (blkH X s3 H3 scope ce fp) ([] ++ pinsAt fp s7.heap) σ8 H' s' → Nx H' → ∃ m, m < n ∧ ∃ i H', Inv (blkH X s3 H3 scope ce fp) [] (wipe σ (own.map (·.2))) H' s' ∧ tn i s'.heap ∧ (∀ b ∈ fp, H' b = none) ∧ W i m H' := fun {s' H'} I' nx => by
        obtain ⟨m', hm, w'⟩ := hNx H' nx
        have pin' : ∀ b ∈ fp, ∀ o, s7.heap.get? b = some o → s'.heap.get? b = some o ∧ H' b = none := fun b hb o e =>
          let z := I'.pin (b, o) (List.mem_append_right _ (List.mem_append_right _ (mem_pinsAt hb e)))
          ⟨z.1, z.2.1⟩
        have hl : (wipe σ (own.map (·.2))).length = σ8.length := by rw [← hw8, wipe_length]
        refine ⟨m', hm, i + 1, H', (I'.unpinned (pins := [])).weak hl (fun j v e => ?_), T.keep _ _ _ st7 fun b hb o e => (pin' b hb o e).1, fun b hb => ?_, w'⟩
        · rw [← hw8] at e
          exact (wipe_some e).1
        · obtain ⟨o, e, _⟩ := T.obj _ _ st7 b hb
          exact (pin' b hb o e).2
      cases b with
      | false =>
        simp only [Bool.false_eq_true, if_false] at q9 ⊢
        exact fin I9 q9
      | true =>
        simp only [if_true] at q9 ⊢
        refine thnF (pe.run _ s9 σ8 H9 _ I9 q9) fun z s10 ⟨yv, H10, I10, r10, acc, hD10, hz10, nx⟩ => ?_
        exact app_ok (X := blkH X s3 H3 scope ce fp) I10 hD10 hz10 r10 fun s11 I11 => fin I11 nx
  exact codeAny_compStart_list loop (T.self X.A 0 _ _ _ st4 loop)
end
end DH

set_option maxRecDepth 100000
set_option maxHeartbeats 4000000
/-! DH3: a lambda handed to a def that tries it; errors whose context is None. -/
namespace DH
open PySem PySem.Spec PyProof.Rows L2 L2H HotX LamX

/-- the lambda's body, its errors told with their context -/
def lamCxN (X : Cx) (A : Around) (outer : List Env) (s : Shared) (H : Hp) (E : XK) (scope : Scope) (f c' : Addr) : Cx :=
  { lamCx X A outer s H E scope f c' with xe := fun e s' => wpAny (model X.prog X.w) (A.deeper (lamEnv X scope s.heap.objs.size f c')) (leaving (lamEnv X scope s.heap.objs.size f c') e) (fun _ s'' => L2N.CX X.prog X.w outer H s E e s'') (fun e' s'' => L2N.CX X.prog X.w outer H s E e' s'') s' }
section
variable {X : Cx} {pins : List (Addr × Obj)} {σ : L2.St} {H HZ : Hp} {s s1 : Shared}
theorem pe_actN {CXg : CXT} {Eg : XK} {Ng : List Str} {qg : Str} {sg : Scope} {g f c' : Addr} {cdg pm ctv : Value} {params : Arguments} {body : Expr} {scope : Scope} {k i : Nat} {a : Str} {pn : List (Addr × Obj)} {xe : Value → Shared → Prop} {W : WX} {E : XK} {tb : TE} {p1 p2 : Pos}
    (I : Inv X pins σ H s) (L : LamS X.env.scope scope) (hf : s.heap.get? f = some (PySem.W.kla_obj "<lambda>" (X.env.qual ++ "<lambda>") params body scope (cloFrom X.env.cells scope.names []) pm c' ctv)) (hfn : H f = none) (hfr : f ∉ frs X.stack)
    (hbind : bindArgs (PySem.W.kla_fn "<lambda>" (X.env.qual ++ "<lambda>") params body scope (cloFrom X.env.cells scope.names []) pm (.ref c') ctv) ⟨[], []⟩ = pure [])
    (tk : L2N.Takes ((cxOf CXg X.prog X.w X.K X.mg X.base Ng qg sg g cdg X.A X.stack s H Eg).tr pn xe) W) (hW : ∀ cls d σ' H', E cls d H' → W cls d σ' H') (hr : Room (k + 1) (X.A.deeper (envOfC qg sg s.heap.objs.size g cdg)))
    (hbody : ∀ (A : Around) (outer : List Env) (s : Shared) (H : Hp), Room k (A.deeper (lamEnv X scope s.heap.objs.size f c')) → PE (lamCxN X A outer s H E scope f c') body tb)
    (hN : Ng[i]? = some a) (hv : Vis sg a) (hd : (a == ("__debug__" : Str)) = false := by decide) (hcd : (a == ("__classdict__" : Str)) = false := by decide) :
    PE ((cxOf CXg X.prog X.w X.K X.mg X.base Ng qg sg g cdg X.A X.stack s H Eg).tr pn xe) (.Call (.Name a p1) [] [] p2)
      (fun σZ HZ Q => σZ[i]? = some (some (.ref f)) ∧ HZ c' = some (CodeO c' (X.env.qual ++ "<lambda>")) ∧ tb σ HZ Q) := by
  refine ⟨fun pinsZ sZ σZ HZ Q IZ ⟨hs, hc, ht⟩ => ?_⟩
  refine wpAny_Call_Name_kw (thn ((pe_var (pos := p1) (i := i) hN hv hd hcd).run pinsZ sZ σZ HZ (fun v H1 => v = .ref f ∧ H1 = HZ) IZ ⟨.ref f, hs, rfl, rfl⟩) fun u s1 ⟨v, H1, I1, r1, q1⟩ => ?_)
  obtain ⟨ev, eH⟩ := q1
  subst ev
  rw [eH] at I1
  obtain rfl : u = Value.ref f := r1
  have of1 : s1.heap.get? f = some (PySem.W.kla_obj "<lambda>" (X.env.qual ++ "<lambda>") params body scope (cloFrom X.env.cells scope.names []) pm c' ctv) := I1.base.keep f _ hf hfn hfr (fun z => nomatch (show f ∈ ([] : List Addr) from z))
  refine PySem.W.callWith_F0 ⟨_, _, _, _, of1⟩ ?_
  have un : Un (frs X.stack) [] H HZ s.heap s1.heap := I1.base
  obtain ⟨⟨oc, vs, t, hoc, hdc, hvc⟩, _, _⟩ := I1.hok c' _ hc
  have rc : codeAny (model X.prog X.w) (X.A.deeper (envOfC qg sg s.heap.objs.size g cdg)) (.call (.ref f) ⟨[], []⟩) (CR (L2N.CX X.prog X.w) (envOfC qg sg s.heap.objs.size g cdg :: X.stack) X.prog X.w HZ s1 Q E) s1 := by
    refine PySem.W.kla_callFunE hr.depth of1 rfl L.co L.gen rfl ⟨c', oc, vs, t, rfl, hoc, hdc, hvc⟩ ?_
    rw [hbind]
    refine wpAny_pure (wpAny_newFunctionEnv (fun y hy => (L.own y hy).2) (fun y hy => absurd hy (by simp)) (fun h₁ hns hsb => ⟨I1.nolimit.fresh _ hsb, ?_⟩) L.kind)
    show codeAny _ _ (.expr body (lamEnv X scope s1.heap.objs.size f c')) _ _
    have kp : ∀ b o, s1.heap.get? b = some o → h₁.get? b = some o := fun b o e => hsb.extBut b o (Nat.ne_of_lt (Heap.lt_size e)) (Heap.get?_push_of_some _ e)
    have J0 : Inv (lamCx X (X.A.deeper (envOfC qg sg s.heap.objs.size g cdg)) (envOfC qg sg s.heap.objs.size g cdg :: X.stack) s1 HZ E scope f c') [] σ HZ { s1 with heap := h₁, toks := s1.toks + ([] : List (Str × Value)).length } :=
      lam_start2 I L I1.env0 hr.hd un hns kp
    have J : Inv (lamCxN X (X.A.deeper (envOfC qg sg s.heap.objs.size g cdg)) (envOfC qg sg s.heap.objs.size g cdg :: X.stack) s1 HZ E scope f c') [] σ HZ { s1 with heap := h₁, toks := s1.toks + ([] : List (Str × Value)).length } := J0.wish _
    refine PySem.W.kla_codeExpr (wpAny_mono ((hbody _ _ s1 HZ (hr.deeper _)).run [] _ _ HZ Q J ht) (fun v s' hq => ?_) fun e s' hq => hq)
    obtain ⟨w', H', J', rv, q⟩ := hq
    exact ⟨w', H', J'.os, J'.bare, J'.base, J'.hok, rv, q⟩
  have hx : Passes (L2N.CX X.prog X.w) ((cxOf CXg X.prog X.w X.K X.mg X.base Ng qg sg g cdg X.A X.stack s H Eg).tr pn xe) E := L2N.passes_call tk hW
  refine wpAny_call (codeAny_mono rc fun r s' hq => ?_)
  cases r with
  | error e => exact hx pinsZ σZ HZ s1 e s' I1 hq
  | ok fl =>
    cases fl with
    | ret u => exact I1.after hq
    | next => exact False.elim hq
    | brk => exact False.elim hq
    | cont => exact False.elim hq
end
/-- the def that calls what it got -/
def GivesN (X : Cx) (Ng : List Str) (x : Str) (sg : Scope) (g : Addr) (cdg : Value) (bg : List Stmt) (a : Str) (q : Str) (TT : (XK → Hp → VK → Prop) → Hp → VK → Prop) : Prop :=
  ∀ (f c' : Addr) (s : Shared) (H : Hp) (Q : VK) (tl : XK → Hp → VK → Prop),
    (∀ (W : WX) (pn : List (Addr × Obj)) (xe : Value → Shared → Prop) (E : XK) (p1 p2 : Pos), L2N.Takes ((cxOf C8.CX0 X.prog X.w X.K X.mg X.base Ng x sg g cdg X.A X.stack s H C8.E0).tr pn xe) W → (∀ cls d σ' H', E cls d H' → W cls d σ' H') →
      PE ((cxOf C8.CX0 X.prog X.w X.K X.mg X.base Ng x sg g cdg X.A X.stack s H C8.E0).tr pn xe) (.Call (.Name a p1) [] [] p2) (fun σZ HZ Q => σZ[0]? = some (some (.ref f)) ∧ HZ c' = some (CodeO c' q) ∧ tl E HZ Q)) →
    H c' = some (CodeO c' q) → TT tl H Q → Room 12 (X.A.deeper (envOfC x sg s.heap.objs.size g cdg)) →
    ∃ t, PSs (cxOf C8.CX0 X.prog X.w X.K X.mg X.base Ng x sg g cdg X.A X.stack s H C8.E0).nox bg t ∧ t { nx := fun _ H' => Q .non H', rt := Q } (L2.start Ng [.ref f]) H
section
variable {X : Cx}
theorem pe_lamN {T : List (Addr × Str)} {TT : (XK → Hp → VK → Prop) → Hp → VK → Prop} {x a : Str} {g c P : Addr} {k : Nat} {pg : Arguments} {bg : List Stmt} {sg : Scope} {dV kV doc pm cdv ct oc : Value} {an od : Option Addr} {osl : Array (Option Value)} {Ng : List Str}
    {params : Arguments} {body : Expr} {scope : Scope} {t : XK → TE} {p lpos pos : Pos} (hg : Gl X x) (hm : X.mg x = some (.ref g)) (hk : PySem.W.keepIn X.K (.ref g) = true)
    (lk : X.K.lookup g = some ⟨oc, od, .func (PySem.W.fnOf x x pg bg sg dV kV doc pm an cdv ct), osl⟩) (hcg : PySem.W.codeIn X.K cdv x = true) (hb : L2.Binds X.K (PySem.W.fnOf x x pg bg sg dV kV doc pm an cdv ct) [a] []) (Sg : FnScope Ng [a] sg) (hNg : Ng[0]? = some a) (hva : Vis sg a)
    (hG : GivesN X Ng x sg g cdv bg a (X.env.qual ++ "<lambda>") TT)
    (TB : TabB X.base X.mg c P) (hcode : X.env.code = .ref c) (hmT : (P, X.env.qual ++ "<lambda>") ∈ T) (hu : ∀ p ∈ T, p.1 = P → p.2 = X.env.qual ++ "<lambda>") (hr : Room (k + 14) X.A) (L : LamS X.env.scope scope) (hdef : defaultsOf params X.env = ([], []))
    (hbind : ∀ (q : Str) (cl : List (Str × Addr)) (pm cv ctv : Value), bindArgs (PySem.W.kla_fn "<lambda>" q params body scope cl pm cv ctv) ⟨[], []⟩ = pure [])
    (hbody : ∀ (A : Around) (outer : List Env) (s : Shared) (H : Hp) (E : XK) (f c' : Addr), Room (k + 12) (A.deeper (lamEnv X scope s.heap.objs.size f c')) → PE (lamCxN X A outer s H E scope f c') body (t E))
    (hdb : (x == ("__debug__" : Str)) = false := by decide) (hd : (a == ("__debug__" : Str)) = false := by decide) (hcd : (a == ("__classdict__" : Str)) = false := by decide) :
    PE X (.Call (.Name x p) [.Lambda params body scope lpos] [] pos) (tLam T TT t) := by
  refine ⟨fun pins s σ H Q I ⟨hT, h⟩ => ?_⟩
  refine wpAny_Call_Name_kw (ld_glob I hg hm ?_ hdb)
  refine PySem.W.callWith_K (h₀ := X.base) I.ok.mod.kin hk ?_ (by rfl) (by rfl)
  show wpAny _ _ (spliced ((false, eval (.Lambda params body scope lpos) X.env) :: backTo pos (starEach [] X.env))) _ _ s
  refine Calls.spliced_cons (lam_make2 I TB hcode hmT hu hT hdef (L.has I.ok) fun f c' pm' ctv H1 s' I1 eN T1 hf hfn hfr hco => ?_)
  refine Calls.spliced_nil ⟨I1.kIn, ?_⟩
  have rc : codeAny (model X.prog X.w) X.A (.call (.ref g) ⟨[.ref f], []⟩) (CR C8.CX0 X.stack X.prog X.w H1 s' Q C8.E0) s' := by
    refine run_ofS (k := k + 13) (N := Ng) (ps := [a]) (us := [.ref f]) (vs := [.ref f]) lk hcg Sg hr I1.env0 (hb s' [.ref f] I1.kIn rfl) (.cons rfl .nil) rfl fun hr' => ?_
    obtain ⟨t', ht', hq'⟩ := hG f c' s' H1 Q (fun E H' Q' => t E σ H' Q') (fun W pn xe E p1 p2 tk hW => pe_actN (k := k + 12) (i := 0) I1 L hf hfn hfr (hbind _ _ _ _ _) tk hW hr' (fun A outer s H hr2 => hbody A outer s H E f c' hr2) hNg hva hd hcd) hco (h H1 eN T1) (hr'.mono (by omega))
    exact ⟨t', ht'.nox, hq'⟩
  refine wpAny_call (codeAny_mono rc fun r s2 hq => ?_)
  cases r with
  | error e => exact (show False from hq).elim
  | ok fl =>
    cases fl with
    | ret u => exact I1.after hq
    | next => exact False.elim hq
    | brk => exact False.elim hq
    | cont => exact False.elim hq
end
end DH

set_option maxRecDepth 100000
set_option maxHeartbeats 4000000
/-! DH4: forgetting filled lists; texts split and joined; the names of an error. -/
namespace DL
open PySem PySem.Spec PyProof.Rows L2 L2H HotX LamX DH

/-! ### forgetting -/
def SubS (S S' : Sto) : Prop := ∀ a m, S a = some m → S' a = some m
theorem SubS.refl (S : Sto) : SubS S S := fun _ _ h => h
theorem SubS.trans {S S' S'' : Sto} (a : SubS S S') (b : SubS S' S'') : SubS S S'' := fun c m h => b c m (a c m h)
theorem sub_put {S : Sto} {p : Addr} {m : MO} (h : S p = none) : SubS S (sput S p m) := fun a u e => by
  rw [sput_ne (fun z => by rw [z, h] at e; cases e)]; exact e
theorem sub_put2 {S S' : Sto} {p : Addr} {m : MO} (h : S p = none) (s : SubS S S') : SubS S (sput S' p m) := fun a u e => by
  rw [sput_ne (fun z => by rw [z, h] at e; cases e)]; exact s a u e
theorem Rep.fewer {K : PySem.W.Frag} {T : List (Addr × Str)} {F I : Hp} {S S' : Sto} {H : Hp} (r : Rep K T F I S' H) (h : SubS S S') : Rep K T F I S H := ⟨r.imm, r.frm, fun a m e => r.mto a m (h a m e), r.tab, r.ntb⟩
def fgW (W : WF) : WF := fun R ds S Φ => W (fun nm S' => ∃ S'', SubS S'' S' ∧ R nm S'') ds S fun d S' => ∃ S'', SubS S'' S' ∧ Φ d S''
theorem OkF.fg {P : Program} {w : World} {K : PySem.W.Frag} {mg : Str → Option Value} {base : Heap} {T : List (Addr × Str)} {k n : Nat} {x : Str} {W : WF} (h : OkF P w K mg base T k x n W) : OkF P w K mg base T k x n (fgW W) := by
  obtain ⟨f, fd, ps, h1, h2, h3, h4⟩ := h
  refine ⟨f, fd, ps, h1, h2, h3, h4.imp fun vs H Q E ⟨F, I, S, ds, Φ, R, g1, g2, g3, g4, g5, g6⟩ => ⟨F, I, S, ds, _, _, g1, g2, g3, g4, ?_, ?_⟩⟩
  · rintro v H' I' S' d e r q ⟨S'', s, hz⟩
    exact g5 v H' I' S'' d e (r.fewer s) q hz
  · rintro nm cls d H' I' S' hc e r ⟨S'', s, hz⟩
    exact g6 nm cls d H' I' S'' hc e (r.fewer s) hz

/-! ### split, join -/
def fSplit (S : Sto) (x y : D) (Φ : D → Prop) : Prop := match x, y with
  | .str a, .str b => ((b.length == 0) = false ∧ a.length + 2 ≤ sizeLine) ∧ Φ (.lst ((Txt.split a b).map D.str))
  | _, _ => False
def fJoin (S : Sto) (x y : D) (Φ : D → Prop) : Prop := match x with
  | .str a => (match res S y with
    | .lst xs => (match strsOf xs with
      | some ys => (ys.map (·.length)).sum + ys.length * a.length ≤ 16777216 ∧ Φ (.str (Txt.join a ys))
      | none => False)
    | .tup xs => (match strsOf xs with
      | some ys => (ys.map (·.length)).sum + ys.length * a.length ≤ 16777216 ∧ Φ (.str (Txt.join a ys))
      | none => False)
    | _ => False)
  | _ => False
def MthR (K : PySem.W.Frag) (r : V → List V → Hp → VK → Prop) (f : Sto → D → D → (D → Prop) → Prop) : Prop := ∀ (T : List (Addr × Str)) (F I H : Hp) (S : Sto) (a : Str) (y : V) (b : D) (Φ : D → Prop) (Q : VK), Rep K T F I S H → Den K I y b → f S (.str a) b Φ →
  (∀ v H' I' d, Same I I' → Rep K T F I' S H' → Den K I' v d → Φ d → Q v H') → r (.str a) [y] H Q
def wMth (f : Sto → D → D → (D → Prop) → Prop) (wo we : WE) : WE := fun E ρ S Φ => wo E ρ S fun x S1 => match x with
  | .str a => we E ρ S1 fun y S2 => f S2 (.str a) y fun d => Φ d S2
  | _ => False
section
variable {X : Cx} {B : Bx} {o e : Expr} {wo we : WE} {pos apos : Pos}
theorem de_m1 {name : Str} {r : V → List V → Hp → VK → Prop} {f : Sto → D → D → (D → Prop) → Prop} (h : PE X (.Call (.Attribute o name apos) [e] [] pos) (tM1 r (eT X.K B wo) (eT X.K B we))) (hr : MthR X.K r f) : DE X B (.Call (.Attribute o name apos) [e] [] pos) (wMth f wo we) :=
  PE_imp h fun σ H Q ⟨F, I, S, ρ, Φ, n, hw, hq⟩ => by
    refine ⟨F, I, S, ρ, _, n, hw, ?_⟩
    rintro x H1 ⟨I1, S1, d1, e1, r1, q1, hw1⟩
    split at hw1
    · rename_i a
      cases q1
      refine ⟨⟨a, rfl⟩, F, I1, S1, ρ, _, n.next e1 r1, hw1, ?_⟩
      rintro y H2 ⟨I2, S2, d2, e2, r2, q2, hf⟩
      exact hr _ _ _ _ _ _ _ _ _ _ r2 q2 hf fun v H' I' d e3 r3 q3 hz => hq _ _ ⟨I', S2, d, (e1.trans e2).trans e3, r3, q3, hz⟩
    · exact hw1.elim
end
section
variable {K : PySem.W.Frag}
theorem mr_split : MthR K (fun x xs H Q => ∃ a b, x = .str a ∧ xs = [.str b] ∧ (b.length == 0) = false ∧ a.length + 2 ≤ sizeLine ∧ rNewStrs (Txt.split a b) H Q) fSplit := by
  intro T F I H S a y b Φ Q r hb hf hq
  unfold fSplit at hf
  split at hf
  · rename_i a' b' e
    cases e
    cases hb
    exact ⟨_, _, rfl, rfl, hf.1.1, hf.1.2, fun p hp => hq _ _ _ _ (r.same hp) (r.new hp nt_lst) (.lst (.inl upd_same) (DenA.ofStrs _)) hf.2⟩
  · exact hf.elim
theorem mr_join : MthR K (fun x xs H Q => ∃ a p, ∃ ys : List Str, x = .str a ∧ xs = [.ref p] ∧ (SqL K H p (ys.map V.str) ∨ SqT K H p (ys.map V.str)) ∧ (ys.map (·.length)).sum + ys.length * a.length ≤ 16777216 ∧ Q (.str (Txt.join a ys)) H) fJoin := by
  intro T F I H S a y b Φ Q r hb hf hq
  unfold fJoin at hf
  dsimp only at hf
  split at hf
  · rename_i xs e
    split at hf
    · rename_i ys q
      obtain ⟨p, vs, rfl, h1, h2⟩ := r.lst hb e
      have z := strsOf_eq q
      subst z
      cases h2.strs
      exact ⟨a, p, ys, rfl, rfl, .inl (.inl h1), hf.1, hq _ _ I _ (Same.refl _) r (.str _) hf.2⟩
    · exact hf.elim
  · rename_i xs e
    cases res_tup e
    split at hf
    · rename_i ys q
      obtain ⟨p, vs, rfl, h1, h2⟩ := r.tup hb
      have z := strsOf_eq q
      subst z
      cases h2.strs
      exact ⟨a, p, ys, rfl, rfl, .inr h1, hf.1, hq _ _ I _ (Same.refl _) r (.str _) hf.2⟩
    · exact hf.elim
  · exact hf.elim
end

/-! ### while an error is handled -/
/-- the class D of the error: what isinstance says of it -/
structure ErrK (K : PySem.W.Frag) (mg : Str → Option Value) (names : List Str) (D : Addr) (q : Str → Bool) : Prop where
  exc : ExcC K D
  own : ∀ nm ∈ names, ∃ C, mg nm = some (.ref C) ∧ PySem.W.kitOne K (.ref D) (.ref C) = some (q nm)
  ve : mg "ValueError" = none ∧ PySem.W.kitOne K (.ref D) (.type "ValueError") = some (q "ValueError")
/-- isinstance(e, C): e the error -/
def wIs (a : Addr) (q : Str → Bool) (nm : Str) (i : Nat) : WE := fun _ ρ S Φ => match ρ[i]? with
  | some (some (.ptr b)) => b = a ∧ Φ (.bl (q nm)) S
  | _ => False
section
variable {X : Cx} {B : Bx} {a D : Addr} {oe : Obj} {names : List Str} {q : Str → Bool}
/-- the error's own dict, where it has one, is tracked -/
def DctOk (d : Option Addr) (H : Hp) : Prop := d = none ∨ ∃ dx fs, d = some dx ∧ H dx = some (.xd fs)
def rIsP (K : PySem.W.Frag) (D a : Addr) (d : Option Addr) : List V → Hp → VK → Prop := fun xs H Q => ∃ (c : V) (cv : Value) (b : Bool), xs = [.ref a, c] ∧ (∀ u, RelV c u → u = cv) ∧ PySem.W.kitOne K (.ref D) cv = some b ∧ DctOk d H ∧ Q (.bl b) H
theorem call_isP {d : Option Addr} (C : ExcC X.K D) (hz : Zc (.ref D) d oe) (hf : ∃ vs, oe.data = .fields vs) (hp : (a, oe) ∈ X.pn) : CallR X (.builtin "isinstance") (rIsP X.K D a d) := by
  intro pins s σ H xs us Q I r ⟨c, cv, b, e0, hcv, e, hd, hq⟩
  subst e0
  obtain ⟨u, v, rfl, rx, rt⟩ := vals2 r
  cases rx
  cases hcv _ rt
  obtain ⟨hget, _⟩ := I.pin (a, oe) (List.mem_append_left _ hp)
  obtain ⟨vs, hv⟩ := hf
  obtain ⟨oc, od, oda, osl⟩ := oe
  obtain ⟨h1, h2⟩ := hz
  dsimp only at h1 h2 hv
  subst h1 h2 hv
  have fin : ∀ tk, EP X pins σ Q (.bool b) { s with toks := tk } := fun tk => ⟨.bl b, H, I.kept (t' := tk) fun _ _ z => z, rfl, hq⟩
  have cl : (PySem.W.clsIn X.K D).isSome = true := by
    obtain ⟨cd, hc, _⟩ := PySem.W.any_some C.hd
    rw [hc]
    rfl
  rcases hd with rfl | ⟨dx, fs, rfl, hx⟩
  · exact PySem.W.kia_one (PySem.W.kitx_exc (od := none) cl C.hg C.hk C.hs C.ha C.hn C.ht C.hm) I.kIn ⟨hget, rfl, rfl, trivial⟩ e (fun z => nomatch z) fin
  · obtain ⟨mA, ⟨o, _, _, ho, _⟩, _⟩ := I.hok dx _ hx
    exact PySem.W.kia_one (PySem.W.kitx_exc (od := some o) cl C.hg C.hk C.hs C.ha C.hn C.ht C.hm) I.kIn ⟨hget, rfl, rfl, ho⟩ e (fun z => nomatch z) fin
theorem dct_now {K : PySem.W.Frag} {T : List (Addr × Str)} {F I H : Hp} {S : Sto} {d : Option Addr} (r : Rep K T F I S H) (h : DctOk d F ∨ DctOk d I) : DctOk d H := by
  rcases h with (h | ⟨dx, fs, h1, h2⟩) | (h | ⟨dx, fs, h1, h2⟩)
  · exact .inl h
  · exact .inr ⟨dx, fs, h1, (r.frm _ _ h2).1⟩
  · exact .inl h
  · exact .inr ⟨dx, fs, h1, r.imm _ _ h2⟩
theorem dct_mono {F F' : Hp} {d : Option Addr} (s : Same F F') (h : DctOk d F) : DctOk d F' := h.imp (fun z => z) fun ⟨dx, fs, h1, h2⟩ => ⟨dx, fs, h1, s _ _ h2⟩
theorem de_is {x nm : Str} {p p1 p2 pos : Pos} (i : Nat) {d : Option Addr} (k : ErrK X.K X.mg names D q) (hz : Zc (.ref D) d oe) (hdc : DctOk d B.F ∨ DctOk d B.I) (hf : ∃ vs, oe.data = .fields vs) (hp : (a, oe) ∈ X.pn) (hm : X.mg "isinstance" = none) (hin : nm ∈ names)
    (hg : Gl X "isinstance" := by rfl) (hgn : Gl X nm := by rfl) (hN : X.N[i]? = some x := by rfl) (hv : Vis X.env.scope x := by first | exact Or.inl rfl | exact Or.inr (Or.inl rfl) | exact Or.inr (Or.inr rfl)) (hd : (x == ("__debug__" : Str)) = false := by decide)
    (hcd : (x == ("__classdict__" : Str)) = false := by decide) (hnd : (nm == ("__debug__" : Str)) = false := by decide) : DE X B (.Call (.Name "isinstance" p) [.Name x p1, .Name nm p2] [] pos) (wIs a q nm i) := by
  obtain ⟨C, hC, hk⟩ := k.own nm hin
  refine PE_imp (pe_callB (call_isP k.exc hz hf hp) hg hm bt_isinstance (pa_cons (pe_var (pos := p1) hN hv hd hcd) (pa_cons (pe_glob (pos := p2) (v := .ref C) hgn hC rfl hnd) pa_nil))) fun σ H Q ⟨F, I, S, ρ, Φ, n, hw, hq⟩ => ?_
  unfold wIs at hw
  split at hw
  · rename_i b e
    obtain ⟨rfl, hw⟩ := hw
    obtain ⟨v, e1, e2⟩ := n.sl.get i _ e
    cases e2
    exact ⟨_, e1, .ref C, .ref C, q nm, rfl, fun u r => r, hk, dct_now n.rep (hdc.imp (dct_mono n.fr) (dct_mono n.en)), hq _ _ (n.here (.bl _) hw)⟩
  · exact hw.elim
theorem de_isV {x : Str} {p p1 p2 pos : Pos} (i : Nat) {d : Option Addr} (k : ErrK X.K X.mg names D q) (hz : Zc (.ref D) d oe) (hdc : DctOk d B.F ∨ DctOk d B.I) (hf : ∃ vs, oe.data = .fields vs) (hp : (a, oe) ∈ X.pn) (hm : X.mg "isinstance" = none)
    (hg : Gl X "isinstance" := by rfl) (hgn : Gl X "ValueError" := by rfl) (hN : X.N[i]? = some x := by rfl) (hv : Vis X.env.scope x := by first | exact Or.inl rfl | exact Or.inr (Or.inl rfl) | exact Or.inr (Or.inr rfl)) (hd : (x == ("__debug__" : Str)) = false := by decide)
    (hcd : (x == ("__classdict__" : Str)) = false := by decide) : DE X B (.Call (.Name "isinstance" p) [.Name x p1, .Name "ValueError" p2] [] pos) (wIs a q "ValueError" i) := by
  refine PE_imp (pe_callB (call_isP k.exc hz hf hp) hg hm bt_isinstance (pa_cons (pe_var (pos := p1) hN hv hd hcd) (pa_cons (pe_bltn (pos := p2) (v := .ty "ValueError") hgn k.ve.1 (by decide +kernel) rfl) pa_nil))) fun σ H Q ⟨F, I, S, ρ, Φ, n, hw, hq⟩ => ?_
  unfold wIs at hw
  split at hw
  · rename_i b e
    obtain ⟨rfl, hw⟩ := hw
    obtain ⟨v, e1, e2⟩ := n.sl.get i _ e
    cases e2
    exact ⟨_, e1, .ty "ValueError", .type "ValueError", q "ValueError", rfl, fun u r => r, k.ve.2, dct_now n.rep (hdc.imp (dct_mono n.fr) (dct_mono n.en)), hq _ _ (n.here (.bl _) hw)⟩
  · exact hw.elim
/-- a tuple alone as a comprehension's target -/
def gTq (n : Nat) (gs : WGs) : WG := fun E d ρ S Φ => match res S d with
  | .tup ds => ds.length = n ∧ gs E ds ρ S Φ
  | _ => False
theorem tgc_tupT {K : PySem.W.Frag} {T : List (Addr × Str)} {vs : List Nat} {E : WR} {n : Nat} {gs : TGs} {ws : WGs} (h : TgCs K T vs gs (ws E)) : TgC K T vs (gTup K n gs) (gTq n ws E) := fun F I S σ ρ H v d Φ Q r s hd hg hq => by
  unfold gTq at hg
  split at hg
  · rename_i ds e
    cases res_tup e
    obtain ⟨a, xs, rfl, h1, h2⟩ := r.tup hd
    exact ⟨a, xs, rfl, h1, by rw [h2.length]; exact hg.1, h F I S σ ρ H xs ds Φ Q r s h2 hg.2 hq⟩
  · exact hg.elim
/-- over zip of two lists -/
def wIZipL (ws : WA) : WI := fun E ρ S Φ => ws E ρ S fun ds S1 => match ds with
  | [d, e] => (match res S1 d, res S1 e with
    | .lst xs, .lst ys => Φ (zipD xs ys) (fun S => keepOf d xs S ∧ keepOf e ys S) S1
    | _, _ => False)
  | _ => False
def DIH (X : Cx) (B : Bx) (tg iter : Expr) (w : WI) : Prop := PIH X tg iter (iT X.K B w)
theorem PIH_imp {tg e : Expr} {t t' : TI} (h : PIH X tg e t) (q : ∀ σ H R, t' σ H R → t σ H R) : PIH X tg e t' := ⟨fun pins s σ H R I z => h.run pins s σ H R I (q _ _ _ z)⟩
theorem dih_zip {e1 e2 : Expr} {ws : WA} {elts : List Expr} {kk : Nat} {p pos tpos : Pos} (hg : Gl X "zip") (hm : X.mg "zip" = none) (ha : DA X B [e1, e2] 2 ws) (hs : starEach [e1, e2] X.env = (false, eval e1 X.env) :: starEach [e2] X.env := by rfl)
    (hpl : (backTo pos (starEach [e2] X.env)).any (·.1) = false := by rfl) : DIH X B (.Tuple elts kk tpos) (.Call (.Name "zip" p) [e1, e2] [] pos) (wIZipL ws) :=
  PIH_imp (pi_zipH hg hm (PA_short ha) hs hpl) fun σ H R ⟨F, I, S, ρ, Φ, n, hw, hq⟩ => by
    refine ⟨F, I, S, ρ, _, n, hw, ?_⟩
    rintro vs H1 ⟨I1, S1, ds, e1, r1, q1, hl, hf⟩ hsh
    split at hf
    · obtain ⟨v, w, rfl, h1, h2⟩ := q1.two
      split at hf
      · rename_i xs ys g1 g2
        obtain ⟨a, us, rfl, k1, k2⟩ := r1.lst h1 g1
        obtain ⟨b, ws, rfl, k3, k4⟩ := r1.lst h2 g2
        exact ⟨a, b, us, ws, rfl, .inl k1, .inl k3, hq _ _ ⟨I1, S1, _, _, e1, r1, jok_zipL r1 h1 g1 h2 g2, zip_short k2 (hsh _ (by simp) a us rfl (.inl (.inl k1))), hf⟩⟩
      · exact hf.elim
    · exact hf.elim
theorem de_lcH {elt tg iter : Expr} {ifs : List Expr} {scope : Scope} {own : List (Str × Nat)} {pos : Pos} {wi : WI} {gH : TG} {g : WG} {tt : WT} {te : WE} (hc : HotC X) (hN : X.N.Nodup) (hi : DIH X B tg iter wi) (ok : BlkOk X.N X.env.scope scope own)
    (hgH : ∀ (s : Shared) (H : Hp) (C : Addr) (cl : List (Str × Addr)) (fp : List Addr), PG (blkH X s H scope (compEnvC scope cl C X.env) fp) tg gH) (hg : TgC X.K B.T (own.map (·.2)) gH (g noE))
    (ht : ∀ (s : Shared) (H : Hp) (C : Addr) (cl : List (Str × Addr)) (fp : List Addr), DTs (blkH X s H scope (compEnvC scope cl C X.env) fp) B.in ifs tt)
    (he : ∀ (s : Shared) (H : Hp) (C : Addr) (cl : List (Str × Addr)) (fp : List Addr), DE (blkH X s H scope (compEnvC scope cl C X.env) fp) B.in elt te) (hs : ∀ x, foldedSetIterable iter X.env x = pure x := by intro _; rfl) :
    DE X B (.ListComp elt [⟨tg, iter, ifs, 0⟩] scope pos) (wComp wi g tt te (own.map (·.2))) :=
  PE_imp (pe_lcH (tt := tT X.K B.in tt) (te := eT X.K B.in te) hc hN hi ok hgH ht he hs) fun σ H Q h => lc_read hg h
end
/-- a hot def's run, its body told of the very error -/
theorem run_hot {CX : CXT} {P : Program} {w : World} {K : PySem.W.Frag} {mg : Str → Option Value} {base : Heap} {k : Nat} {f : Addr} {name qual : Str} {params : Arguments} {body : List Stmt} {scope : Scope} {dV kV doc pm cdv ct oc : Value} {an od : Option Addr}
    {osl : Array (Option Value)} {N ps : List Str} (lk : K.lookup f = some ⟨oc, od, .func (PySem.W.fnOf name qual params body scope dV kV doc pm an cdv ct), osl⟩) (hcd : PySem.W.codeIn K cdv qual = true) (S : FnScope N ps scope)
    {A : Around} {outer : List PySem.Env} {s : Shared} {H : Hp} {args : Args} {us : List Value} {vs : List V} {Q : VK} {E : XK} {p : Addr × Obj} (hr : RoomH (k + 1) A) (hpin : PinOk outer H s p) (e0 : Env0 P w K mg base A outer s H)
    (hb : BindsTo s (PySem.W.fnOf name qual params body scope dV kV doc pm an cdv ct) args (ps.zip us)) (r : Vals vs us) (hl : vs.length = ps.length)
    (hbody : RoomH k (A.deeper (envOfC qual scope s.heap.objs.size f cdv)) → ∃ t, PSs (cxH CX P w K mg base N qual scope f cdv A outer s H E p) body t ∧ t { nx := fun _ H' => Q .non H', rt := Q } (L2.start N vs) H) :
    codeAny (model P w) A (.call (.ref f) args) (CR CX outer P w H s Q E) s := by
  have KX : K.In s.heap := e0.mod.kin.keeps fun b o e => (e0.bs b o e).1
  have lim : s.heap.NoLimit := e0.mod.nolimit.keeps fun b o e => (e0.bs b o e).1
  have hkind : ∀ y ∈ ps.zip us, scope.names.lookup y.1 = some .local ∨ (scope.names.lookup y.1 = some .cell ∧ ((cellsFrom (s.heap.objs.size + 1) scope.names []).lookup y.1).isSome = true) := fun ⟨n, v⟩ hy =>
    (S.par n (List.of_mem_zip hy).1).elim .inl fun q => .inr ⟨q, PySem.W.cellsFrom_some _ _ _ (.inl q)⟩
  refine codeAny_call_function hr.depth (KX _ _ lk) rfl S.co S.gen rfl (PySem.W.codeRec_of KX hcd) (hb _ _ _ _ ?_)
  refine wpAny_newFunctionEnv_cells S.kind hkind fun env he s1 x => ?_
  subst he
  refine ⟨lim.keeps x.toInCall.keep, codeAny_func ?_⟩
  obtain ⟨t, ht, hq⟩ := hbody (hr.deeper _)
  have I : Inv (cxH CX P w K mg base N qual scope f cdv A outer s H E p) [] (L2.start N vs) H s1 := inv_startH S hpin e0 hl r x
  refine wpAny_mono (ht.run [] s1 (L2.start N vs) H _ I hq) (fun fl s' hs => ?_) fun e s' hs => hs
  cases fl with
  | ret u =>
    obtain ⟨v, σ', H', J, rv, q⟩ := hs
    exact ⟨v, H', J.os, J.bare, J.base, J.hok, rv, q⟩
  | next =>
    obtain ⟨σ', H', J, q⟩ := hs
    exact ⟨.non, H', J.os, J.bare, J.base, J.hok, rfl, q⟩
  | brk => obtain ⟨_, _, _, q⟩ := hs; exact q.elim
  | cont => obtain ⟨_, _, _, q⟩ := hs; exact q.elim
end DL

set_option maxRecDepth 100000
set_option maxHeartbeats 4000000
/-! DH5: which error a call raises. -/
namespace DL
open PySem PySem.Spec PyProof.Rows L2 L2H HotX LamX DH

/-- the def that tells an error's names, called while that error is handled -/
def OkNames (P : Program) (w : World) (K : PySem.W.Frag) (mg : Str → Option Value) (base : Heap) (T : List (Addr × Str)) (names : List Str) (k : Nat) (x : Str) (txt : (Str → Bool) → Str) : Prop :=
  ∃ (f : Addr) (fd : FuncData) (y : Str), mg x = some (.ref f) ∧ PySem.W.keepIn K (.ref f) = true ∧ Binds K fd [y] [] ∧
    ∀ (A : Around) (outer : List PySem.Env) (s : Shared) (H : Hp) (a : Addr) (oe : Obj) (D : Addr) (d : Option Addr) (q : Str → Bool) (F I : Hp) (S : Sto) (Q : VK), RoomH k A → Hot1 A (a, oe) → PinOk outer H s (a, oe) → Env0 P w K mg base A outer s H → ErrK K mg names D q → Zc (.ref D) d oe → DctOk d H →
      BindsTo s fd ⟨[.ref a], []⟩ [(y, .ref a)] → Rep K T F I S H → (∀ H' I', Same I I' → Rep K T F I' S H' → Q (.str (txt q)) H') → codeAny (model P w) A (.call (.ref f) ⟨[.ref a], []⟩) (CR (L2N.CX P w) outer P w H s Q fun _ _ _ => False) s
theorem okNames {P : Program} {w : World} {K : PySem.W.Frag} {mg : Str → Option Value} {base : Heap} {T : List (Addr × Str)} {names : List Str} {x y : Str} {st : Stmt} {N : List Str} {m : Nat} {b : Addr → (Str → Bool) → WS} {txt : (Str → Bool) → Str}
    (h : DefAt K mg x st [y]) (S : FnScope N [y] (defScope st)) (hm : N.length = m)
    (hb : ∀ (a : Addr) (q : Str → Bool) (R : WR) (St : Sto) (Φ : D → Sto → Prop), (∀ S', SubS St S' → Φ (.str (txt q)) S') → b a q R { nx := fun _ _ => False, rt := Φ } (estart m [.ptr a]) St)
    (hbody : ∀ (f : Addr) (cdv : Value) (A : Around) (outer : List PySem.Env) (s : Shared) (H : Hp) (E : XK) (F I : Hp) (R : WR) (a : Addr) (oe : Obj) (D : Addr) (d : Option Addr) (q : Str → Bool), RoomH 2 (A.deeper (envOfC x (defScope st) s.heap.objs.size f cdv)) → Hot1 (A.deeper (envOfC x (defScope st) s.heap.objs.size f cdv)) (a, oe) → ErrK K mg names D q → Zc (.ref D) d oe → DctOk d F ∨ DctOk d I → (∃ vs, oe.data = .fields vs) →
      DSs (cxH (L2N.CX P w) P w K mg base N x (defScope st) f cdv A outer s H E (a, oe)) ⟨T, F, I, R⟩ (defBody st) (b a q)) : OkNames P w K mg base T names 3 x txt := by
  obtain ⟨f, fd, F, hm', hbn⟩ := h.ex
  refine ⟨f, fd, y, hm', F.kp, hbn, ?_⟩
  obtain ⟨oc, od, kV, doc, pm, an, cdv, ct, osl, rfl, lk, hcd⟩ := F.ex
  intro A outer s H a oe D d q F0 I St Q hr hot hpin e0 ek hz hdc hbt rep0 hq
  obtain ⟨F, sF, rep, hdF⟩ : ∃ F, Same F0 F ∧ Rep K T F I St H ∧ (DctOk d F ∨ DctOk d I) := by
    rcases hdc with h | ⟨dx, fs, h1, h2⟩
    · exact ⟨F0, Same.refl _, rep0, .inl (.inl h)⟩
    · cases hI : I dx with
      | some o =>
        have z := rep0.imm _ _ hI
        rw [h2] at z
        cases z
        exact ⟨F0, Same.refl _, rep0, .inr (.inr ⟨dx, fs, h1, hI⟩)⟩
      | none =>
        refine ⟨upd F0 dx (.xd fs), fun b o e => ?_, ⟨rep0.imm, fun b o e => ?_, fun b m e => ?_, rep0.tab, fun b ps => ⟨(rep0.ntb b ps).1, fun e => ?_⟩⟩, .inl (.inr ⟨dx, fs, h1, upd_same⟩)⟩
        · by_cases hb : b = dx
          · subst hb
            have z := (rep0.frm _ _ e).1
            rw [h2] at z
            cases z
            exact upd_same
          · rw [upd_ne hb]; exact e
        · by_cases hb : b = dx
          · subst hb; rw [upd_same] at e; cases e; exact ⟨h2, hI⟩
          · rw [upd_ne hb] at e; exact rep0.frm b o e
        · obtain ⟨z1, z2, z3⟩ := rep0.mto b m e
          have hb : b ≠ dx := fun z => by
            subst z
            cases m with
            | lst ds => obtain ⟨_, q, _⟩ := z3; rw [h2] at q; cases q
            | ins C fs => obtain ⟨_, _, q, _⟩ := z3; rw [h2] at q; cases q
          exact ⟨z1, by rw [upd_ne hb]; exact z2, z3⟩
        · by_cases hb : b = dx
          · subst hb; rw [upd_same] at e; cases e
          · rw [upd_ne hb] at e; exact (rep0.ntb b ps).2 e
  refine run_hot (k := 2) (ps := [y]) (us := [.ref a]) (vs := [.ref a]) lk hcd S hr hpin e0 hbt (.cons rfl .nil) rfl fun hr' => ?_
  refine ⟨_, hbody f cdv A outer s H (fun _ _ _ => False) F I (fun _ _ => False) a oe D d q hr' hot ek hz hdF (let ⟨_, v, e, _⟩ := hot; ⟨v, e⟩), F, I, St, estart m [.ptr a], _, ⟨Same.refl _, Same.refl _, rep, by rw [← hm]; exact Slots.start (.cons (.ptr a) .nil) N⟩,
    hb a q (fun _ _ => False) St (fun d S' => d = .str (txt q) ∧ SubS St S') (fun S' h => ⟨rfl, h⟩), ?_, ?_, ?_, ?_⟩
  · rintro σ' H' ⟨I', S', ρ', e, r, s', hz⟩
    exact hz.elim
  · rintro v H' ⟨I', S', d, e, r, qd, rfl, hs⟩
    cases qd
    exact hq H' I' e ((r.fewer hs).sub sF)
  · rintro σ' H' ⟨I', S', ρ', e, r, s', hz⟩
    exact hz.elim
  · rintro σ' H' ⟨I', S', ρ', e, r, s', hz⟩
    exact hz.elim
/-- what such a call is worth: the lambda's reading, its errors told by the text of their names -/
def TTn (K : PySem.W.Frag) (mg : Str → Option Value) (T : List (Addr × Str)) (names : List Str) (CE : Addr) (txt : (Str → Bool) → Str) : (XK → Hp → VK → Prop) → Hp → VK → Prop := fun tl H Q =>
  tl (fun cls d H' => ∃ D q F I S, cls = .ref D ∧ DctOk d H' ∧ ErrK K mg names D q ∧ PySem.W.exmOne K cls (.ref CE) = some true ∧ Rep K T F I S H' ∧ ∀ H'' I', Same I I' → Rep K T F I' S H'' → Q (.str (txt q)) H'') H (fun _ H' => Q (.str "") H')
theorem gives_err {X : Cx} {T : List (Addr × Str)} {names : List Str} {Ng : List Str} {x a e cn fn q : Str} {sg : Scope} {g CE : Addr} {cdg : Value} {ie : Nat} {p1 p2 p3 p4 p5 p6 p7 p8 p9 p10 p11 p12 : Pos} {jx : Nat} {txt : (Str → Bool) → Str}
    (hnames : OkNames X.prog X.w X.K X.mg X.base T names 3 fn txt) (hge : sg.names.lookup cn = some .globalImplicit) (hme : X.mg cn = some (.ref CE)) (hde : (cn == ("__debug__" : Str)) = false) (hgf : sg.names.lookup fn = some .globalImplicit) (hdf : (fn == ("__debug__" : Str)) = false)
    (hnd : Ng.Nodup) (hie : Ng[ie]? = some e) (hle : sg.names.lookup e = some .local) (hdd : (e == ("__debug__" : Str)) = false) (hdc : (e == ("__classdict__" : Str)) = false)
    (h0 : ∀ f : Addr, (L2.start Ng [V.ref f])[0]? = some (some (V.ref f))) (h1 : ie < (L2.start Ng [V.ref 0]).length) (hsw : ∀ (X' : Cx), swapsWith (.Call (.Name a p1) [] [] p2) none p3.line X'.env = pure false) :
    GivesN X Ng x sg g cdg [.Try [.Expr (.Call (.Name a p1) [] [] p2) p3] [.ExceptHandler (some (.Name cn p4)) (some e) [.Return (some (.Call (.Name fn p5) [.Name e p6] [] p7)) p8] p9] [] [] p10, .Return (some (.Constant (.str "") jx p11)) p12] a q (TTn X.K X.mg T names CE txt) := by
  intro f c' s H Q tl act hc h hr
  have hgl : Gl (cxOf C8.CX0 X.prog X.w X.K X.mg X.base Ng x sg g cdg X.A X.stack s H C8.E0).nox cn := hge
  obtain ⟨ff, fd, y, n1, n2, n3, n4⟩ := hnames
  have tk0 : L2N.Takes (cxOf C8.CX0 X.prog X.w X.K X.mg X.base Ng x sg g cdg X.A X.stack s H C8.E0).nox (fun _ _ _ _ => False) := fun _ _ ⟨_, _, _, _, _, _, _, _, _, _, _, _, _, _, _, _, z⟩ => z.elim
  refine ⟨_, pss_cons (L2N.ps_try_as (X := (cxOf C8.CX0 X.prog X.w X.K X.mg X.base Ng x sg g cdg X.A X.stack s H C8.E0).nox) (c := .ref CE) (i := ie)
      (tb := fun W Dn σ H => ∃ Ech : XK, (∀ cls d σ' H', Ech cls d H' → W cls d σ' H') ∧ σ[0]? = some (some (.ref f)) ∧ H c' = some (CodeO c' q) ∧ tl Ech H (fun _ H' => Dn.nx σ H'))
      (ts := fun a cls d Dn σ H => (∃ σ0 : L2.St, σ = σ0.set ie (some (.ref a))) ∧ ∃ D q F I S, cls = .ref D ∧ DctOk d H ∧ ErrK X.K X.mg names D q ∧ Rep X.K T F I S H ∧ ∀ H'' I', Same I I' → Rep X.K T F I' S H'' → Dn.rt (.str (txt q)) H'')
      rfl rfl hnd hie hle ⟨hgl, hde, .inl hme⟩ tk0 (fun W pn xe tk _ => ?_) (fun a oe cls d pn hz hf => ?_)) (pss_one (ps_ret pe_str)), ?_⟩
  · refine ⟨fun pins s' σ H' Dn I ⟨Ech, hW, k1, k2, k3⟩ => ?_⟩
    have hp := act W pn xe Ech p1 p2 tk hW
    exact (pss_one (ps_expr (pos := p3) hp (hsw _))).run pins s' σ H' Dn I ⟨k1, k2, k3⟩
  · have pe : PE ((cxOf C8.CX0 X.prog X.w X.K X.mg X.base Ng x sg g cdg X.A X.stack s H C8.E0).nox.suite a ((a, oe) :: pn)) (.Call (.Name fn p5) [.Name e p6] [] p7)
        (fun σ H Q => (∃ σ0 : L2.St, σ = σ0.set ie (some (.ref a))) ∧ ∃ D q F I S, cls = .ref D ∧ DctOk d H ∧ ErrK X.K X.mg names D q ∧ Rep X.K T F I S H ∧ ∀ H'' I', Same I I' → Rep X.K T F I' S H'' → Q (.str (txt q)) H'') := by
      refine ⟨fun pins s' σ H' Q I ⟨⟨σ0, k1⟩, D, q, F, Im, S, e1, e2, ek, rep, hq⟩ => ?_⟩
      subst e1
      have hl : ie < σ0.length := by
        have z := I.len
        rw [k1, List.length_set] at z
        rw [z]
        exact (List.getElem?_eq_some_iff.mp hie).1
      have k2 : σ[ie]? = some (some (.ref a)) := by rw [k1]; exact List.getElem?_set_self hl
      have ha : PA ((cxOf C8.CX0 X.prog X.w X.K X.mg X.base Ng x sg g cdg X.A X.stack s H C8.E0).nox.suite a ((a, oe) :: pn)) [.Name e p6] (tCons (tVar ie) tNil) := pa_cons (pe_var hie (.inl hle) hdd hdc) pa_nil
      refine wpAny_Call_Name_kw (ld_glob I hgf n1 ?_ hdf)
      refine PySem.W.callWith_K (h₀ := X.base) I.ok.mod.kin n2 (thn (ha.run p7 pins s' σ H' (fun vs H1 => vs = [.ref a] ∧ H1 = H') I ⟨.ref a, k2, rfl, rfl⟩) fun us s1 ⟨vs, H1, I1, r, z1, z2⟩ => ⟨I1.kIn, ?_⟩) (by rfl) (by rfl)
      subst z1 z2
      have eu : us = [.ref a] := Vals.ref1 r
      subst eu
      obtain ⟨vs, hvs⟩ := hf
      have P1 := I1.pin (a, oe) (List.mem_append_left _ List.mem_cons_self)
      have hpin : PinOk ((cxOf C8.CX0 X.prog X.w X.K X.mg X.base Ng x sg g cdg X.A X.stack s H C8.E0).nox.suite a ((a, oe) :: pn)).stack H1 s1 (a, oe) :=
        ⟨P1.1, P1.2.1, fun hm => (List.mem_cons.mp (I1.stkSub a hm)).elim P1.2.2.1 P1.2.2.2.1, P1.2.2.2.2⟩
      have rm : RoomH 3 ((cxOf C8.CX0 X.prog X.w X.K X.mg X.base Ng x sg g cdg X.A X.stack s H C8.E0).nox.suite a ((a, oe) :: pn)).A := ⟨(roomH_of (hr.mono (by decide : 3 ≤ 12))).dp, (roomH_of (hr.mono (by decide : 3 ≤ 12))).un⟩
      refine wpAny_call (codeAny_mono (n4 _ _ s1 H1 a oe D d q F Im S Q rm ⟨rfl, vs, hvs, hz.2.2 vs hvs⟩ hpin I1.env0 ek ⟨hz.1, hz.2.1⟩ e2 (n3 s1 [.ref a] I1.kIn rfl) rep hq) fun r s2 hq2 => ?_)
      cases r with
      | error e =>
        obtain ⟨_, _, _, _, _, _, _, _, _, _, _, _, z⟩ := hq2
        exact z.elim
      | ok fl =>
        cases fl with
        | ret u => exact I1.after hq2
        | next => exact False.elim hq2
        | brk => exact False.elim hq2
        | cont => exact False.elim hq2
    exact pss_one (ps_ret pe)
  · refine ⟨_, fun cls d σ' H' ⟨D, q, F, I, S, e1, e2, ek, ex, rep, hq⟩ => ⟨true, ex, fun _ a _ => ⟨⟨σ', rfl⟩, D, q, F, I, S, e1, e2, ek, rep, hq⟩, fun z => Bool.noConfusion z⟩, h0 f, hc, h⟩
end DL

set_option maxRecDepth 100000
set_option maxHeartbeats 4000000
/-! DH6: a lambda handed to the def that tells which error it raises. -/
namespace DL
open PySem PySem.Spec PyProof.Rows L2 L2H HotX LamX DH

theorem Rep.extN {K : PySem.W.Frag} {T : List (Addr × Str)} {F I : Hp} {S : Sto} {H H1 : Hp} (r : Rep K T F I S H) (e : ExtN H H1) (t : Tabs T H1) : Rep K T F I S H1 where
  imm := fun b o q => e b o (r.imm b o q) fun ps z => (r.ntb b ps).1 (by rw [q, z])
  frm := fun b o q => ⟨e b o (r.frm b o q).1 fun ps z => (r.ntb b ps).2 (by rw [q, z]), (r.frm b o q).2⟩
  mto := fun a m q => by
    obtain ⟨h1, h2, h3⟩ := r.mto a m q
    refine ⟨h1, h2, ?_⟩
    cases m with
    | lst ds => obtain ⟨xs, e1, e2⟩ := h3; exact ⟨xs, e _ _ e1 (fun ps z => nomatch z), e2⟩
    | ins C fs => obtain ⟨dx, vs, e1, e2⟩ := h3; exact ⟨dx, vs, e _ _ e1 (fun ps z => nomatch z), e2⟩
  tab := t
  ntb := r.ntb

/-- the def x, which is handed a lambda, tells the error it raised by the text et -/
structure OkErr (P : Program) (w : World) (K : PySem.W.Frag) (mg : Str → Option Value) (base : Heap) (T : List (Addr × Str)) (x : Str) (et : Str → Option Str) : Prop where
  ex : ∃ (g : Addr) (pg : Arguments) (bg : List Stmt) (sg : Scope) (dV kV doc pm cdv ct oc : Value) (an od : Option Addr) (osl : Array (Option Value)) (Ng : List Str) (a : Str) (names : List Str) (CE : Addr) (txt : (Str → Bool) → Str),
    mg x = some (.ref g) ∧ PySem.W.keepIn K (.ref g) = true ∧ K.lookup g = some ⟨oc, od, .func (PySem.W.fnOf x x pg bg sg dV kV doc pm an cdv ct), osl⟩ ∧ PySem.W.codeIn K cdv x = true ∧
    L2.Binds K (PySem.W.fnOf x x pg bg sg dV kV doc pm an cdv ct) [a] [] ∧ FnScope Ng [a] sg ∧ Ng[0]? = some a ∧ Vis sg a ∧ (a == ("__debug__" : Str)) = false ∧ (a == ("__classdict__" : Str)) = false ∧
    (∀ (X : Cx) (q : Str), X.prog = P → X.w = w → X.K = K → X.mg = mg → X.base = base → GivesN X Ng x sg g cdv bg a q (TTn K mg T names CE txt)) ∧
    ∀ nm t, et nm = some t → ∃ C q, mg nm = some (.ref C) ∧ ErrK K mg names C q ∧ PySem.W.exmOne K (.ref C) (.ref CE) = some true ∧ txt q = t
/-- what a def asks that makes lambdas: its code object and the table -/
def TabAt (X : Cx) (T : List (Addr × Str)) : Prop := ∃ c P, TabB X.base X.mg c P ∧ X.env.code = .ref c ∧ (P, X.env.qual ++ "<lambda>") ∈ T ∧ ∀ p ∈ T, p.1 = P → p.2 = X.env.qual ++ "<lambda>"
def wErr (et : Str → Option Str) (w : WE) : WE := fun E ρ S Φ => w (fun nm S' => match et nm with
  | some t => Φ (.str t) S'
  | none => False) ρ S fun _ S' => Φ (.str "") S'
/-- the reading of a lambda's body, its errors included -/
def eTx (K : PySem.W.Frag) (mg : Str → Option Value) (T : List (Addr × Str)) (w : WE) (E : XK) : TE := fun σ H Q => ∃ F I S ρ Φ R, Rep K T F I S H ∧ Slots K I σ ρ ∧ w R ρ S Φ ∧
  (∀ v H' I' S' d, Same I I' → Rep K T F I' S' H' → Den K I' v d → Φ d S' → Q v H') ∧ ∀ nm cls d H' I' S', ClsOf mg H' nm cls d → Same I I' → Rep K T F I' S' H' → R nm S' → E cls d H'
section
variable {X : Cx} {B : Bx}
theorem pe_tx {A : Around} {outer : List PySem.Env} {s : Shared} {H : Hp} {E : XK} {scope : Scope} {f c' : Addr} {body : Expr} {w : WE} {T : List (Addr × Str)}
    (hb : ∀ (F I : Hp) (R : WR), Tk (lamCxN X A outer s H E scope f c') ⟨T, F, I, R⟩ → DE (lamCxN X A outer s H E scope f c') ⟨T, F, I, R⟩ body w) : PE (lamCxN X A outer s H E scope f c') body (eTx X.K X.mg T w E) := by
  refine ⟨fun pins s' σ H' Q I' ⟨F, I, S, ρ, Φ, R, h1, h2, h3, h4, h5⟩ => ?_⟩
  have tk : Tk (lamCxN X A outer s H E scope f c') ⟨T, F, I, R⟩ := L2N.Takes.imp (L2N.takes_of (E := E) rfl rfl rfl rfl) fun c d σ H' ⟨nm, I', S', g1, g2, g3, g4⟩ => h5 nm c d H' I' S' g1 g2 g3 g4
  refine (hb F I R tk).run pins s' σ H' Q I' ⟨F, I, S, ρ, Φ, ⟨Same.refl _, Same.refl _, h1, h2⟩, h3, ?_⟩
  rintro v H2 ⟨I2, S2, d, e, r, q, hz⟩
  exact h4 v H2 I2 S2 d e r q hz
theorem de_err {x : Str} {et : Str → Option Str} {params : Arguments} {body : Expr} {scope : Scope} {w : WE} {p lpos pos : Pos} {k : Nat} (g : OkErr X.prog X.w X.K X.mg X.base B.T x et) (ta : TabAt X B.T) (hr : Room (k + 14) X.A) (hg : Gl X x) (L : LamS X.env.scope scope) (hdef : defaultsOf params X.env = ([], []))
    (hbind : ∀ (q : Str) (cl : List (Str × Addr)) (pm cv ctv : Value), bindArgs (PySem.W.kla_fn "<lambda>" q params body scope cl pm cv ctv) ⟨[], []⟩ = pure [])
    (hb : ∀ (A : Around) (outer : List PySem.Env) (s : Shared) (H : Hp) (E : XK) (f c' : Addr) (F I : Hp) (R : WR), Room (k + 12) (lamCxN X A outer s H E scope f c').A → Tk (lamCxN X A outer s H E scope f c') ⟨B.T, F, I, R⟩ → DE (lamCxN X A outer s H E scope f c') ⟨B.T, F, I, R⟩ body w)
    (hdb : (x == ("__debug__" : Str)) = false := by decide) : DE X B (.Call (.Name x p) [.Lambda params body scope lpos] [] pos) (wErr et w) := by
  obtain ⟨g, pg, bg, sg, dV, kV, doc, pm, cdv, ct, oc, an, od, osl, Ng, a, names, CE, txt, h1, h2, h3, h4, h5, h6, h7, h8, h9, h10, h11, h12⟩ := g.ex
  obtain ⟨c, Pt, t1, t2, t3, t4⟩ := ta
  refine PE_imp (pe_lamN (k := k) hg h1 h2 h3 h4 h5 h6 h7 h8 (h11 X _ rfl rfl rfl rfl rfl) t1 t2 t3 t4 hr L hdef hbind (fun A outer s H E f c' hr' => pe_tx fun F I R tk => hb A outer s H E f c' F I R hr' tk) hdb h9 h10) fun σ H Q ⟨F, I, S, ρ, Φ, n, hw, hq⟩ => ?_
  refine ⟨n.rep.tab, fun H1 eN T1 => ?_⟩
  have r1 := n.rep.extN eN T1
  refine ⟨F, I, S, ρ, _, _, r1, n.sl, hw, fun v H' I' S' d e r q hz => hq _ _ ⟨I', S', .str "", e, r, .str _, hz⟩, fun nm cls d H' I' S' hc e r hz => ?_⟩
  split at hz
  · rename_i t et'
    obtain ⟨C, q, e1, e2, e3, e4⟩ := h12 nm t et'
    rcases hc with ⟨C', c1, c2, c3⟩ | ⟨n, c1, _⟩
    · rw [e1] at c1
      cases c1
      refine ⟨C, q, F, I', S', c2, c3, e2, by rw [c2]; exact e3, r, fun H'' I'' e' r' => hq _ _ ⟨I'', S', .str t, e.trans e', r', by rw [e4]; exact .str _, hz⟩⟩
    · rw [e1] at c1; cases c1
  · exact hz.elim
end
section
variable {P : Program} {w : World} {K : PySem.W.Frag} {mg : Str → Option Value} {base : Heap} {T : List (Addr × Str)}
/-- a def that makes lambdas -/
structure HostAt (K : PySem.W.Frag) (mg : Str → Option Value) (base : Heap) (T : List (Addr × Str)) (x : Str) (st : Stmt) (ps : List Str) : Prop where
  ex : ∃ (f : Addr) (fd : FuncData) (c Pt : Addr) (oc : Value) (od : Option Addr) (kV doc pm : Value) (an : Option Addr) (ct : Value) (osl : Array (Option Value)), mg x = some (.ref f) ∧ Binds K fd ps [] ∧
    fd = PySem.W.fnOf x x (defArgs st) (defBody st) (defScope st) .none kV doc pm an (.ref c) ct ∧ K.lookup f = some ⟨oc, od, .func fd, osl⟩ ∧ PySem.W.codeIn K (.ref c) x = true ∧ PySem.W.keepIn K (.ref f) = true ∧
    TabB base mg c Pt ∧ (Pt, x ++ ".<locals>.<lambda>") ∈ T ∧ ∀ p ∈ T, p.1 = Pt → p.2 = x ++ ".<locals>.<lambda>"
theorem okFh {x : Str} {st : Stmt} {N ps : List Str} {k m n : Nat} {b : WS} (h : HostAt K mg base T x st ps) (S : FnScope N ps (defScope st)) (hn : ps.length = n) (hm : N.length = m) (hq : x ++ ".<locals>.<lambda>" = (x ++ ".<locals>.") ++ "<lambda>")
    (hbody : ∀ (f : Addr) (cdv : Value) (A : Around) (outer : List PySem.Env) (s : Shared) (H : Hp) (E : XK) (F I : Hp) (R : WR), TabAt (cxOf (L2N.CX P w) P w K mg base N x (defScope st) f cdv A outer s H E) T → Room k (A.deeper (envOfC x (defScope st) s.heap.objs.size f cdv)) →
      Tk (cxOf (L2N.CX P w) P w K mg base N x (defScope st) f cdv A outer s H E) ⟨T, F, I, R⟩ → DSs (cxOf (L2N.CX P w) P w K mg base N x (defScope st) f cdv A outer s H E) ⟨T, F, I, R⟩ (defBody st) b) :
    OkF P w K mg base T (k + 1) x n (fnW m b) := by
  obtain ⟨f, fd, c, Pt, oc, od, kV, doc, pm, an, ct, osl, h1, h2, rfl, h4, h5, h6, h7, h8, h9⟩ := h.ex
  refine ⟨f, _, ps, h1, h6, h2, fn_of h4 h5 S (fun vs H Q E ⟨F, I, S, ds, Φ, R, h1, h2, h3, h4, h5, h6⟩ => by rw [h2.length, h3, hn]) fun A outer s H vs Q E hr ⟨F, I, S, ds, Φ, R, g1, g2, g3, g4, g5, g6⟩ => ?_⟩
  have tk : Tk (cxOf (L2N.CX P w) P w K mg base N x (defScope st) f (.ref c) A outer s H E) ⟨T, F, I, R⟩ := L2N.Takes.imp (L2N.takes_of (E := E) rfl rfl rfl rfl) fun c d σ H' ⟨nm, I', S', k1, k2, k3, k4⟩ => g6 nm c d H' I' S' k1 k2 k3 k4
  have ta : TabAt (cxOf (L2N.CX P w) P w K mg base N x (defScope st) f (.ref c) A outer s H E) T := ⟨c, Pt, h7, rfl, by rw [← show x ++ ".<locals>.<lambda>" = (cxOf (L2N.CX P w) P w K mg base N x (defScope st) f (.ref c) A outer s H E).env.qual ++ "<lambda>" from hq]; exact h8,
    by rw [← show x ++ ".<locals>.<lambda>" = (cxOf (L2N.CX P w) P w K mg base N x (defScope st) f (.ref c) A outer s H E).env.qual ++ "<lambda>" from hq]; exact h9⟩
  refine ⟨_, hbody f (.ref c) A outer s H E F I R ta hr tk, F, I, S, estart m ds, { nx := fun _ S => Φ .non S, rt := Φ }, ⟨Same.refl _, Same.refl _, g1, by rw [← hm]; exact Slots.start g2 N⟩, g4, ?_, ?_, ?_, ?_⟩
  · rintro σ' H' ⟨I', S', ρ', e, r, s', hz⟩
    exact g5 _ _ I' S' .non e r .non hz
  · rintro v H' ⟨I', S', d, e, r, q, hz⟩
    exact g5 _ _ I' S' d e r q hz
  · rintro σ' H' ⟨I', S', ρ', e, r, s', hz⟩
    exact hz.elim
  · rintro σ' H' ⟨I', S', ρ', e, r, s', hz⟩
    exact hz.elim
end
end DL

set_option maxRecDepth 100000
set_option maxHeartbeats 4000000
/-! DH7: t[::-1], str(bool), the script's list, a def that calls itself. -/
namespace DL
open PySem PySem.Spec PyProof.Rows L2

section
variable {prog : Program} {w : World} {A : Around} {E : Value → Shared → Prop} {s : Shared}
theorem applied_rev {sl : Addr} {vs : Value} {n : Nat} {Q : Int × Int × Nat → Shared → Prop} (hs : s.heap.IsSliceOf sl .none .none vs) (ps : IsPart vs (some (-1)))
    (h : Q ((n : Int) - 1, -1, n) s) : wpAny (model prog w) A (Builtin.Slice.sliceApplied (.ref sl) (pure (n : Int))) Q E s := by
  obtain ⟨os, hos, hcs, hds⟩ := id hs
  unfold Builtin.Slice.sliceApplied Builtin.Slice.sliceFields
  refine wpAny_bind (wpAny_bind (wpAny_field hos hds (x := .none) rfl (wpAny_bind (wpAny_field hos hds (x := .none) rfl (wpAny_bind (wpAny_field hos hds (x := vs) rfl (wpAny_pure ?_)))))))
  refine wpAny_bind (HT.slicePart_ ps ?_)
  show wpAny _ _ (if ((-1 : Int) == 0) = true then _ else _) _ _ s
  rw [if_neg (by decide)]
  refine wpAny_bind (slicePart_none (wpAny_bind (slicePart_none (wpAny_bind (wpAny_pure ?_)))))
  show wpAny _ _ (pure ((n : Int) - 1, (-1 : Int), Builtin.Slice.slicePlaces ((n : Int) - 1) (-1) (-1))) _ _ s
  have e : Builtin.Slice.slicePlaces ((n : Int) - 1) (-1) (-1) = n := by
    unfold Builtin.Slice.slicePlaces
    have h1 : ¬ ((-1 : Int) > 0) := by omega
    simp only [h1, if_false, Int.neg_neg, Int.ediv_one]
    split <;> omega
  rw [e]
  exact wpAny_pure h
theorem fm_congr {α β : Type} {f g : α → Option β} : ∀ {l : List α}, (∀ x ∈ l, f x = g x) → l.filterMap f = l.filterMap g
  | [], _ => rfl
  | x :: r, h => by
    rw [List.filterMap_cons, List.filterMap_cons, h x List.mem_cons_self, fm_congr fun y hy => h y (List.mem_cons_of_mem _ hy)]
theorem pick_rev (xs : Array Value) : ((List.range xs.size).filterMap fun (m : Nat) => xs[((xs.size : Int) - 1 + (m : Int) * (-1)).toNat]?).toArray = xs.toList.reverse.toArray := by
  congr 1
  have e : (List.range xs.size).filterMap (fun (m : Nat) => xs[((xs.size : Int) - 1 + (m : Int) * (-1)).toNat]?) = ((List.range xs.size).map fun k => xs.size - 1 - k).filterMap (xs[·]?) := by
    rw [List.filterMap_map]
    refine fm_congr fun m hm => ?_
    have hm := List.mem_range.mp hm
    show xs[((xs.size : Int) - 1 + (m : Int) * (-1)).toNat]? = xs[xs.size - 1 - m]?
    have : ((xs.size : Int) - 1 + (m : Int) * (-1)).toNat = xs.size - 1 - m := by omega
    rw [this]
  rw [e, PySem.W.krv_range, List.filterMap_reverse, PySem.W.krv_all]
theorem getItem_tup_rev {t sl : Addr} {items : Array Value} {vs : Value} {Q : Value → Shared → Prop} (ht : IsTup s.heap t items) (hs : s.heap.IsSliceOf sl .none .none vs) (ps : IsPart vs (some (-1)))
    (h : Q (.ref s.heap.objs.size) { s with heap := s.heap.push { cls := .type "tuple", data := .seq items.toList.reverse.toArray } })
    (hsz : items.size ≤ sizeLine) : wpAny (model prog w) A (getItem (.ref t) (.ref sl)) Q E s := by
  have htake : sizeOk (.seq items.toList.reverse.toArray) := by
    show items.toList.reverse.toArray.size ≤ sizeLine
    rw [List.size_toArray, List.length_reverse, Array.length_toList]
    exact hsz
  obtain ⟨os, hos, hcs, hds⟩ := id hs
  have hTs : s.TypeIs (.ref sl) "slice" := ⟨os, hos, hcs⟩
  unfold getItem
  try with_reducible refine wpAny_holding ?_
  first | refine wpAny_bind (wpAny_pure ?_) | skip
  refine wpAny_bind (wpAny_sequenceKey ht.typeIs (by decide) ?_)
  refine wpAny_bind (wpAny_callSpecial?_slot (name := Str.ofString "__getitem__") ht.typeIs PyProof.Rows.slot_tuple_getitem
    (wpAny_call_entry PyProof.Rows.slot_tuple_getitem ht.typeIs entry_tuple_getitem ?_ (args_tuple_getitem _ _)))
  show wpAny _ _ (Builtin.Tuple.tupleItemsOf (.ref t) >>= _) _ _ s
  refine wpAny_bind (tupleItemsOf_ ht ?_)
  refine wpAny_bind (wpAny_typeOf hTs ?_)
  rw [if_pos (by decide)]
  refine wpAny_bind (applied_rev hs ps ?_)
  have hno : ¬ ((((items.size : Int) - 1) == 0 && (-1 : Int) == 1 && items.size == items.size) = true) := by
    intro q
    rw [Bool.and_eq_true, Bool.and_eq_true] at q
    exact absurd q.1.2 (by decide)
  show wpAny _ _ (if (((items.size : Int) - 1) == 0 && (-1 : Int) == 1 && items.size == items.size) = true then _ else _) _ _ s
  rw [if_neg hno, pick_rev]
  first
    | exact wpAny_bind (m := Builtin.Tuple.tupleExact _) (wpAny_newObj_type (wpAny_pure ⟨_, rfl, wpAny_pure h⟩) htake)
    | exact wpAny_bind (m := Builtin.Tuple.tupleExact _) (wpAny_newObj_type (wpAny_bind (wpAny_pure (wpAny_pure ⟨_, rfl, wpAny_pure h⟩))) htake)
    | exact wpAny_bind (wpAny_bind (m := Builtin.Tuple.tupleExact _) (wpAny_newObj_type (wpAny_pure (wpAny_pure ⟨_, rfl, wpAny_pure h⟩)) htake))
    | exact wpAny_bind (wpAny_bind (m := Builtin.Tuple.tupleExact _) (wpAny_newObj_type (wpAny_pure ⟨_, rfl, wpAny_pure h⟩) htake))
end
section
variable {X : Cx} {B : Bx} {a : Expr} {wa : WE} {pos : Pos}
def tRevT (K : PySem.W.Frag) (te : TE) : TE := fun σ H Q => te σ H fun x H1 => ∃ a xs, x = .ref a ∧ SqT K H1 a xs ∧ ∀ p, H1 p = none → Q (.ref p) (upd H1 p (.tup xs.reverse))
theorem pe_revT {e : Expr} {te : TE} {k : Nat} {p1 p2 p3 pos : Pos} (he : PE X e te) : PE X (.Subscript e (.Slice none none (some (.UnaryOp .USub (.Constant (.int 1) k p1) p2)) p3) pos) (tRevT X.K te) := by
  refine ⟨fun pins s σ H Q I h => ?_⟩
  refine Subscript_ (thn (he.run pins s σ H _ I h) fun v s1 ⟨x, H1, I1, r1, q1⟩ => ?_)
  obtain ⟨a, xs, ex, hx, q⟩ := q1
  subst ex
  cases r1
  have hst : PO X (some (.UnaryOp .USub (.Constant (.int 1) k p1) p2)) (tPart (tUn (rU fun i => .int (-i)) (tC (.int 1)))) := po_some (pe_un un_neg pe_int)
  refine wpAny_Slice (thn (po_none.run pins s1 σ H1 (fun o H2 => o = none ∧ H2 = H1) I1 ⟨rfl, rfl⟩) fun vl s2 ⟨l, H2, I2, pl, el, e2⟩ => ?_)
  subst el e2
  cases pl
  refine thn (po_none.run pins s2 σ H2 (fun o H3 => o = none ∧ H3 = H2) I2 ⟨rfl, rfl⟩) fun vu s3 ⟨u, H3, I3, pu, eu, e3⟩ => ?_
  subst eu e3
  cases pu
  refine thn (hst.run pins s3 σ H3 (fun o H4 => o = some (-1) ∧ H4 = H3) I3 ⟨1, rfl, -1, rfl, rfl, rfl⟩) fun vs s4 ⟨o, H4, I4, ps, eo, e4⟩ => ?_
  subst eo e4
  have I5 : Inv X pins σ H4 { s4 with heap := s4.heap.push { cls := .type "slice", data := .fields #[.none, .none, vs] } } := I4.kept (t' := s4.toks) fun b ob q => Heap.get?_push_of_some _ q
  obtain ⟨its, r, ht, hz⟩ := I5.tuple hx
  have hlen := r.length
  show wpAny (model X.prog X.w) X.A (subscriptTail e (.Slice none none (some (.UnaryOp .USub (.Constant (.int 1) k p1) p2)) p3) (.ref a) (.ref s4.heap.objs.size)) (EP X pins σ Q) X.xe { s4 with heap := s4.heap.push { cls := .type "slice", data := .fields #[.none, .none, vs] } }
  refine tail_any (ops := [.ref a, .ref s4.heap.objs.size]) ht.typeIs (PyProof.Rows.slot_tuple_getitem.lookup) ?_ (by with_unfolding_all rfl)
  refine getItem_tup_rev ht (Heap.IsSliceOf.new _ .none .none vs) ps ?_ (by rw [List.size_toArray]; omega)
  refine ⟨.ref _, _, I5.laid (t' := s4.toks) (o := .tup xs.reverse) (fun b ob q => Heap.get?_push_of_some _ q) (Nat.le_refl _) ?_, rfl, q _ (I5.hok.fresh (Nat.le_refl _))⟩
  exact ⟨by rw [List.length_reverse]; exact hz, _, r.reverse, IsTup.new _ _⟩
/-- t[::-1] of a tuple -/
def fRevT (S : Sto) (x : D) (Φ : D → Prop) : Prop := match x with
  | .tup xs => Φ (.tup xs.reverse)
  | _ => False
theorem de_revT {k : Nat} {p1 p2 p3 : Pos} (ha : DE X B a wa) : DE X B (.Subscript a (.Slice none none (some (.UnaryOp .USub (.Constant (.int 1) k p1) p2)) p3) pos) (wUna fRevT wa) :=
  PE_imp (pe_revT ha) fun σ H Q ⟨F, I, S, ρ, Φ, n, hw, hq⟩ => by
    refine ⟨F, I, S, ρ, _, n, hw, ?_⟩
    rintro v H1 ⟨I1, S1, d1, e1, r1, q1, hf⟩
    unfold fRevT at hf
    split at hf
    · obtain ⟨p, vs, rfl, h1, h2⟩ := r1.tup q1
      exact ⟨p, vs, rfl, h1, fun p hp => hq _ _ ⟨_, S1, _, e1.trans (r1.same hp), r1.new hp nt_tup, .tup (.inl (.inl upd_same)) (h2.rev.mono (r1.same hp)), hf⟩⟩
    · exact hf.elim
end
/-! ### str of a bool -/
def rStrE : List V → Hp → VK → Prop := fun xs H Q => rStrD xs H Q ∨ ∃ b, xs = [.bl b] ∧ Q (.str (if b then "True" else "False")) H
theorem call_strB {X : Cx} : CallR X (.type "str") (fun xs H Q => ∃ b, xs = [.bl b] ∧ Q (.str (if b then "True" else "False")) H) := by
  intro pins s σ H xs us Q I r h
  obtain ⟨b, rfl, q⟩ := h
  obtain ⟨u, rfl, r1⟩ := vals1 r
  cases r1
  exact PySem.P.str_of_bool ⟨.str _, H, I.tok _, ⟨_, rfl⟩, q⟩
theorem call_strE {X : Cx} : CallR X (.type "str") rStrE := call_strD.or call_strB
def fStrE (S : Sto) (ds : List D) (Φ : D → Prop) : Prop := match ds with
  | [.bl b] => Φ (.str (if b then "True" else "False"))
  | _ => fStrI S ds Φ
theorem fr_strE {K : PySem.W.Frag} : FnR K rStrE fStrE := by
  intro T F I H S vs ds Φ Q r hd hf hq
  unfold fStrE at hf
  split at hf
  · obtain ⟨v, rfl, h⟩ := hd.one
    cases h
    exact .inr ⟨_, rfl, hq _ _ I _ (Same.refl _) r (.str _) hf⟩
  · exact .inl (fr_str T F I H S vs ds Φ Q r hd hf hq)
/-! ### the script's list -/
def KLst (K : PySem.W.Frag) (a : Addr) (xs : List V) : Prop := ∃ (o : Obj) (its : Array Value) (n : Nat), K.lookup a = some o ∧ o.cls = .type "list" ∧ o.dict = none ∧ o.data = .seq its n ∧ its.size ≤ sizeLine ∧ Vals xs its.toList
def rLsS (K : PySem.W.Frag) : R2 := fun x y H Q => ∃ l b xs zs, x = .ref l ∧ y = .ref b ∧ Rd H l (.lst xs) ∧ SqL K H b zs ∧ xs.length + zs.length ≤ sizeLine ∧ ∀ p, H p = none → Q (.ref p) (upd H p (.lst (xs ++ zs)))
section
variable {X : Cx} {B : Bx} {a : Expr} {wa : WE} {pos : Pos}
theorem op_catS : OpR X (binaryOp .Add) (rLsS X.K) := by
  intro pins s σ H x y v u Q I rx ry h
  obtain ⟨l, b, xs, zs, rfl, rfl, hx, hy, hz, q⟩ := h
  cases rx
  cases ry
  obtain ⟨z1, its, n, r1, e1⟩ := hx.ok I.hok
  obtain ⟨its2, r2, ⟨⟨cls2, dd2, data2, sl2⟩, n2, ho2, hc2, hn2, hd2⟩, _⟩ := I.list hy
  dsimp only at hc2 hn2 hd2
  subst hc2 hn2 hd2
  have l1 := r1.length
  have l2 := r2.length
  refine concat_meets ⟨_, e1, rfl⟩ ⟨_, ho2, rfl⟩ noFill_list_add seq_list_add PySem.F.slot_list_add PySem.F.entry_list_add (PySem.F.args_list_add_2 _ _) (list_addW l b its.toArray its2.toArray n n2 none none _ _ (by rw [List.size_toArray, List.size_toArray]; omega)) ⟨e1, ho2, ?_⟩
  rw [show its.toArray ++ its2.toArray = (its ++ its2).toArray from by simp]
  exact ⟨.ref _, _, I.lnew (t' := s.toks) (r1.append r2) (by rw [List.length_append]; exact hz), rfl, q _ I.fresh⟩
/-- what the law is called with -/
def scrOk (K : PySem.W.Frag) (d : D) (ns : List Int) : Prop := d = .lst (ns.map D.int) ∨ ∃ b, d = .ptr b ∧ KLst K b (ns.map V.int)
/-- a list and the script's list -/
def wScr (kl : D → List Int → Prop) (wa : WE) (i : Nat) : WE := fun E ρ S Φ => wa E ρ S fun x S1 => match res S1 x, ρ[i]? with
  | .lst xs, some (some d) => ∃ ns, kl d ns ∧ xs.length + ns.length ≤ sizeLine ∧ Φ (.lst (xs ++ ns.map D.int)) S1
  | _, _ => False
theorem de_scr {x : Str} {p1 : Pos} (i : Nat) (ha : DE X B a wa) (hN : X.N[i]? = some x := by rfl) (hv : Vis X.env.scope x := by first | exact Or.inl rfl | exact Or.inr (Or.inl rfl) | exact Or.inr (Or.inr rfl)) (hd : (x == ("__debug__" : Str)) = false := by decide)
    (hcd : (x == ("__classdict__" : Str)) = false := by decide) : DE X B (.BinOp a .Add (.Name x p1) pos) (wScr (scrOk X.K) wa i) :=
  PE_imp (pe_op op_catS ha (pe_var (pos := p1) hN hv hd hcd)) fun σ H Q ⟨F, I, S, ρ, Φ, n, hw, hq⟩ => by
    refine ⟨F, I, S, ρ, _, n, hw, ?_⟩
    rintro x H1 ⟨I1, S1, d1, e1, r1, q1, hw1⟩
    split at hw1
    · rename_i xs d g1 g2
      obtain ⟨l, us, rfl, h1, h2⟩ := r1.lst q1 g1
      obtain ⟨v, e2, q2⟩ := n.sl.get i _ g2
      obtain ⟨ns, hk, hz, hw2⟩ := hw1
      have fin : ∀ b, v = .ref b → SqL X.K H1 b (ns.map V.int) → rLsS X.K (.ref l) v H1 Q := fun b ev hb => by
        subst ev
        exact ⟨l, b, us, _, rfl, rfl, h1, hb, by rw [h2.length, List.length_map]; exact hz, fun p hp => hq _ _ ⟨_, S1, _, e1.trans (r1.same hp), r1.new hp nt_lst, .lst (.inl upd_same) ((h2.app (DenA.ofInts ns)).mono (r1.same hp)), hw2⟩⟩
      rcases hk with rfl | ⟨b, rfl, hk⟩
      · cases q2 with
        | lst k1 k2 =>
          cases k2.ints
          exact ⟨_, e2, fin _ rfl (.inl (rdMono r1.imm (rdMono e1 k1)))⟩
      · cases q2 with
        | ptr _ => exact ⟨_, e2, fin _ rfl (.inr hk)⟩
    · exact hw1.elim
end
/-! ### a def that calls itself -/
theorem okF0 {P : Program} {w : World} {K : PySem.W.Frag} {mg : Str → Option Value} {base : Heap} {T : List (Addr × Str)} {x : Str} {st : Stmt} {ps : List Str} {k n : Nat} (h : DefAt K mg x st ps) : OkF P w K mg base T k x n (fun _ _ _ _ => False) := by
  obtain ⟨f, fd, F, hm', hb⟩ := h.ex
  exact ⟨f, fd, ps, hm', F.kp, hb, ⟨fun vs H Q E ⟨_, _, _, _, _, _, _, _, _, z, _⟩ => z.elim, fun A outer s H args us vs Q E _ _ _ _ ⟨_, _, _, _, _, _, _, _, _, z, _⟩ => z.elim⟩⟩
end DL

set_option maxRecDepth 100000
set_option maxHeartbeats 4000000
/-! DH7b: not of a value that may be a bool or an int. -/
namespace DL
open PySem PySem.Spec PyProof.Rows L2
def wNotV (wa : WE) : WE := fun E ρ S Φ => wa E ρ S fun x S1 => match x with
  | .bl b => Φ (.bl (!b)) S1
  | .int i => Φ (.bl (!(i != 0))) S1
  | _ => False
section
variable {X : Cx} {B : Bx} {a : Expr} {wa : WE} {pos : Pos}
theorem de_notV (ha : DE X B a wa) : DE X B (.UnaryOp .Not a pos) (wNotV wa) :=
  PE_imp (pe_notT ha) fun σ H Q ⟨F, I, S, ρ, Φ, n, hw, hq⟩ => by
    refine ⟨F, I, S, ρ, _, n, hw, ?_⟩
    rintro x H1 ⟨I1, S1, d1, e1, r1, q1, hw1⟩
    cases q1 with
    | bl k => exact ⟨k, rfl, hq _ _ ⟨I1, S1, _, e1, r1, .bl _, hw1⟩⟩
    | int i => exact ⟨i != 0, rfl, hq _ _ ⟨I1, S1, _, e1, r1, .bl _, hw1⟩⟩
    | _ => exact hw1.elim
end
end DL

set_option maxRecDepth 100000
set_option maxHeartbeats 4000000
/-! DH8: the laws' own defs that tell an error. -/
namespace DL
open PySem PySem.Spec PyProof.Rows L2 L2H HotX LamX DH

def errLab : List (Str × Str) := [("InvalidBody", "body"), ("InvalidPoint", "point"), ("InvalidSize", "size"), ("InvalidNumber", "number"), ("InvalidTurn", "turn"), ("InvalidSlope", "slope"), ("InvalidCorners", "corners"), ("InvalidStep", "step"), ("InvalidPair", "pair"), ("InvalidIndex", "index"), ("InvalidText", "text"), ("NotEmpty", "empty"), ("Unlike", "unlike"), ("NothingToUndo", "undo"), ("TooMany", "many"), ("ValueError", "value")]
def errN : List Str := ["InvalidBody", "InvalidPoint", "InvalidSize", "InvalidNumber", "InvalidTurn", "InvalidSlope", "InvalidCorners", "InvalidStep", "InvalidPair", "InvalidIndex", "InvalidText", "NotEmpty", "Unlike", "NothingToUndo", "TooMany"]
def pickL : List Str → List Bool → List Str
  | x :: xs, b :: bs => if b then x :: pickL xs bs else pickL xs bs
  | _, _ => []
def errTxt (q : Str → Bool) : Str := Txt.join " " (pickL (errLab.map (·.2)) (errLab.map fun p => q p.1))
def qErr (nm : Str) : Str → Bool := fun x => x == nm || x == "ValueError"
def errT (nm : Str) : Option Str := if errN.contains nm then some (errTxt (qErr nm)) else none
/-- what is known of the classes of errors -/
def ErrFacts (K : PySem.W.Frag) (mg : Str → Option Value) (names : List Str) (et : Str → Option Str) (txt : (Str → Bool) → Str) : Prop := ∃ CE, mg "CornerError" = some (.ref CE) ∧
  ∀ nm t, et nm = some t → ∃ C q, mg nm = some (.ref C) ∧ ErrK K mg names C q ∧ PySem.W.exmOne K (.ref C) (.ref CE) = some true ∧ txt q = t
theorem okErr {P : Program} {w : World} {K : PySem.W.Frag} {mg : Str → Option Value} {base : Heap} {T : List (Addr × Str)} {st : Stmt} {p1 p2 p3 p4 p5 p6 p7 p8 p9 p10 p11 p12 : Pos} {jx : Nat} (d : DefAt K mg "_law_error" st ["_law_call"]) (S : FnScope ["_law_call", "_law_e"] ["_law_call"] (defScope st))
    (hbody : defBody st = [.Try [.Expr (.Call (.Name "_law_call" p1) [] [] p2) p3] [.ExceptHandler (some (.Name "CornerError" p4)) (some "_law_e") [.Return (some (.Call (.Name "_law_names" p5) [.Name "_law_e" p6] [] p7)) p8] p9] [] [] p10, .Return (some (.Constant (.str "") jx p11)) p12])
    (h1 : (defScope st).names.lookup ("CornerError" : Str) = some .globalImplicit) (h2 : (defScope st).names.lookup ("_law_names" : Str) = some .globalImplicit) (h3 : (defScope st).names.lookup ("_law_e" : Str) = some .local) (hva : Vis (defScope st) "_law_call")
    (hn : OkNames P w K mg base T errN 3 "_law_names" errTxt) (hf : ErrFacts K mg errN errT errTxt) : OkErr P w K mg base T "_law_error" errT := by
  obtain ⟨CE, hce, hf⟩ := hf
  obtain ⟨f, fd, F, hm', hb⟩ := d.ex
  obtain ⟨oc, od, kV, doc, pm, an, cdv, ct, osl, rfl, lk, hcd⟩ := F.ex
  refine ⟨f, _, _, _, _, _, _, _, _, _, _, _, _, _, ["_law_call", "_law_e"], "_law_call", errN, CE, errTxt, hm', F.kp, lk, hcd, hb, S, rfl, hva, by decide, by decide, fun X q e1 e2 e3 e4 e5 => ?_, hf⟩
  subst e1 e2 e3 e4 e5
  rw [hbody]
  exact gives_err (ie := 1) hn h1 hce (by decide) h2 (by decide) (by decide) rfl h3 (by decide) (by decide) (fun f => rfl) (by decide) fun X' => rfl

/-- the labels picked -/
theorem comp_names {i j : Nat} {keep : Sto → Prop} {ρ0 : Ro} {S : Sto} {Φ : List D → Sto → Prop} (hi : i < ρ0.length) (hj : j < ρ0.length) (hij : i ≠ j) (hk : keep S) : ∀ (ls : List Str) (bs : List Bool) (acc : List D), Φ (acc ++ (pickL ls bs).map D.str) S →
    compD (gTq 2 (gCn (gNm i) (gCn (gNm j) gNl)) noE) (wTst (wVar j) noE) (wVar i noE) keep ρ0 (zipD (ls.map D.str) (bs.map D.bl)) acc S Φ
  | [], bs, acc, h => by
    unfold pickL at h
    simp only [List.map_nil, List.append_nil] at h
    show compD _ _ _ _ _ (zipD [] _) _ _ _
    exact ⟨hk, h⟩
  | x :: xs, [], acc, h => by
    unfold pickL at h
    simp only [List.map_nil, List.append_nil] at h
    exact ⟨hk, h⟩
  | x :: xs, b :: bs, acc, h => by
    have g1 : (((ρ0.set i (some (D.str x))).set j (some (D.bl b)))[j]? : Option (Option D)) = some (some (D.bl b)) := by
      rw [List.getElem?_set_self (by rw [List.length_set]; exact hj)]
    have g2 : (((ρ0.set i (some (D.str x))).set j (some (D.bl b)))[i]? : Option (Option D)) = some (some (D.str x)) := by
      rw [List.getElem?_set_ne (Ne.symm hij), List.getElem?_set_self hi]
    refine ⟨hk, rfl, ?_⟩
    simp only [gCn, gNm, gNl, wTst, wVar, g1, g2]
    cases b with
    | true =>
      simp only [pickL, if_true, List.map_cons] at h
      simp only [if_true]
      refine comp_names hi hj hij hk xs bs (acc ++ [.str x]) ?_
      simpa using h
    | false =>
      simp only [pickL, Bool.false_eq_true, if_false] at h
      simp only [Bool.false_eq_true, if_false]
      exact comp_names hi hj hij hk xs bs acc h
def B_l_names (a : Addr) (q : Str → Bool) : WS := (sSeq (sAsg (wLstM (wCons (wIs a q "InvalidBody" 0) (wCons (wIs a q "InvalidPoint" 0) (wCons (wIs a q "InvalidSize" 0) wNil)))) (gNm 1))
  (sSeq (sAsg (wCatM (wVar 1) (wLst (wCons (wIs a q "InvalidNumber" 0) (wCons (wIs a q "InvalidTurn" 0) (wCons (wIs a q "InvalidSlope" 0) wNil))))) (gNm 1))
  (sSeq (sAsg (wCatM (wVar 1) (wLst (wCons (wIs a q "InvalidCorners" 0) (wCons (wIs a q "InvalidStep" 0) (wCons (wIs a q "InvalidPair" 0) wNil))))) (gNm 1))
  (sSeq (sAsg (wCatM (wVar 1) (wLst (wCons (wIs a q "InvalidIndex" 0) (wCons (wIs a q "InvalidText" 0) (wCons (wIs a q "NotEmpty" 0) wNil))))) (gNm 1))
  (sSeq (sAsg (wCatM (wVar 1) (wLst (wCons (wIs a q "Unlike" 0) (wCons (wIs a q "NothingToUndo" 0) (wCons (wIs a q "TooMany" 0) wNil))))) (gNm 1))
  (sSeq (sExp (wApp1 (wVar 1) (wIs a q "ValueError" 0)))
  (sSeq (sAsg (wC (.str "body point size number turn slope corners step pair index text empty unlike undo many value")) (gNm 2))
  (sRet (wMth fJoin (wC (.str " ")) (wComp (wIZipL (wCons (wMth fSplit (wVar 2) (wC (.str " "))) (wCons (wVar 1) wNil))) (gTq 2 (gCn (gNm 3) (gCn (gNm 4) gNl))) (wTst (wVar 4)) (wVar 3) [3, 4]))))))))))

theorem split_lab : Txt.split "body point size number turn slope corners step pair index text empty unlike undo many value" " " = errLab.map (·.2) := by decide +kernel
end DL

set_option maxRecDepth 100000
set_option maxHeartbeats 4000000
namespace DL
open PySem PySem.Spec PyProof.Rows L2 L2H HotX LamX DH
theorem pick_bound : ∀ (ls : List Str) (bs : List Bool), ((pickL ls bs).map (·.length)).sum ≤ (ls.map (·.length)).sum ∧ (pickL ls bs).length ≤ ls.length
  | [], bs => by cases bs <;> exact ⟨Nat.le_refl _, Nat.le_refl _⟩
  | x :: xs, [] => ⟨Nat.zero_le _, Nat.zero_le _⟩
  | x :: xs, b :: bs => by
    have ih := pick_bound xs bs
    unfold pickL
    cases b <;> simp <;> omega
theorem b_names : ∀ (a : Addr) (q : Str → Bool) (R : WR) (St : Sto) (Φ : D → Sto → Prop), (∀ S', SubS St S' → Φ (.str (errTxt q)) S') → B_l_names a q R { nx := fun _ _ => False, rt := Φ } (estart 5 [.ptr a]) St := by
  intro a q R St Φ h
  unfold B_l_names
  simp only [sSeq, sAsg, sExp, sRet, wLstM, wLst, wCons, wNil, wIs, wCatM, wVar, wC, gNm, wApp1, res, estart, List.map_cons, List.map_nil, List.length_cons, List.length_nil, List.replicate, List.cons_append, List.nil_append, List.getElem?_cons_zero, List.getElem?_cons_succ, List.set_cons_zero, List.set_cons_succ, Nat.reduceAdd, Nat.reduceSub, Option.map, true_and, and_true, forall_const, sput_same, sput_sput, Nat.reduceAdd, sizeLine_eq, Nat.reduceLeDiff, Option.some.injEq, MO.lst.injEq, exists_eq']
  intro p1 h1 p2 h2 p3 h3 p4 h4 p5 h5
  have key : ∀ S5 : Sto, SubS St S5 → S5 p5 = some (.lst ((errLab.map fun p => q p.1).map D.bl)) → wMth fJoin (wC (.str " ")) (wComp (wIZipL (wCons (wMth fSplit (wVar 2) (wC (.str " "))) (wCons (wVar 1) wNil))) (gTq 2 (gCn (gNm 3) (gCn (gNm 4) gNl))) (wTst (wVar 4)) (wVar 3) [3, 4]) R
      [some (.ptr a), some (.ptr p5), some (.str "body point size number turn slope corners step pair index text empty unlike undo many value"), none, none] S5 Φ := by
    intro S5 hs hS
    simp only [wMth, wC, wComp, wIZipL, wCons, wNil, wVar, res, estart, List.map_cons, List.map_nil, List.length_cons, List.length_nil, List.replicate, List.cons_append, List.nil_append, List.getElem?_cons_zero, List.getElem?_cons_succ, List.set_cons_zero, List.set_cons_succ, Nat.reduceAdd, Nat.reduceSub, Option.map, fSplit, split_lab, hS]
    refine ⟨⟨by decide, by rw [sizeLine_eq]; decide⟩, ?_⟩
    refine comp_names (show 3 < 5 by decide) (show 4 < 5 by decide) (by decide) ⟨trivial, hS⟩ _ _ [] ?_
    unfold fJoin
    simp only [res, List.nil_append]
    rw [strsOf_map]
    refine ⟨?_, h S5 hs⟩
    have hp := pick_bound (errLab.map (·.2)) (errLab.map fun p => q p.1)
    have e1 : ((errLab.map (·.2)).map (·.length)).sum = 76 := by decide +kernel
    have e2 : (errLab.map (·.2)).length = 16 := by decide +kernel
    have e3 : (" " : Str).length = 1 := by decide +kernel
    rw [e1, e2] at hp
    rw [e3]
    omega
  refine ⟨by decide, key _ ((sub_put h1).trans ((sub_put h2).trans ((sub_put h3).trans ((sub_put h4).trans (sub_put h5))))) sput_same⟩
end DL

set_option maxRecDepth 100000
set_option maxHeartbeats 4000000
/-! DH10: what the written part says; the law's end. -/
namespace DL
open PySem PySem.Spec PyProof.Rows L2 L2H HotX LamX DH

section
variable {P : Program} {w : World} {K : PySem.W.Frag} {mg : Str → Option Value} {base h : Heap} {T : List (Addr × Str)}
theorem defAt_mk {x : Str} {st : Stmt} {ps : List Str} {f : Addr} {oc : Value} {od an : Option Addr} {osl : Array (Option Value)} {kV doc pm cdv ct : Value} (X : K.In h) (G : h.Ns mainGlobals mg) (a : PySem.W.nsIn K mainGlobals x = some (some (.ref f)))
    (l : K.lookup f = some ⟨oc, od, .func (PySem.W.fnOf x x (defArgs st) (defBody st) (defScope st) .none kV doc pm an cdv ct), osl⟩) (c : PySem.W.codeIn K cdv x = true) (k : PySem.W.keepIn K (.ref f) = true)
    (b : ∀ (kV doc pm : Value) (an : Option Addr) (cdv ct : Value) (us : List Value), us.length = ps.length → bindArgs (PySem.W.fnOf x x (defArgs st) (defBody st) (defScope st) .none kV doc pm an cdv ct) ⟨us, []⟩ = pure (ps.zip us)) : DefAt K mg x st ps :=
  ⟨⟨f, _, fun_mk l c k, PySem.W.mg_of X G a, (fun_mk l c k).binds b⟩⟩
/-- a def that makes lambdas, its function written out -/
structure HostFd (K : PySem.W.Frag) (mg : Str → Option Value) (base : Heap) (T : List (Addr × Str)) (x : Str) (st : Stmt) (f : Addr) (fd : FuncData) : Prop where
  ex : ∃ (c Pt : Addr) (oc : Value) (od : Option Addr) (kV doc pm : Value) (an : Option Addr) (ct : Value) (osl : Array (Option Value)),
    fd = PySem.W.fnOf x x (defArgs st) (defBody st) (defScope st) .none kV doc pm an (.ref c) ct ∧ K.lookup f = some ⟨oc, od, .func fd, osl⟩ ∧ PySem.W.codeIn K (.ref c) x = true ∧ PySem.W.keepIn K (.ref f) = true ∧
    TabB base mg c Pt ∧ (Pt, x ++ ".<locals>.<lambda>") ∈ T ∧ ∀ p ∈ T, p.1 = Pt → p.2 = x ++ ".<locals>.<lambda>"
theorem hostAt_mk {x : Str} {st : Stmt} {ps : List Str} {f : Addr} {fd : FuncData} (X : K.In h) (G : h.Ns mainGlobals mg) (a : PySem.W.nsIn K mainGlobals x = some (some (.ref f))) (F : HostFd K mg base T x st f fd)
    (b : ∀ (kV doc pm : Value) (an : Option Addr) (cdv ct : Value) (us : List Value), us.length = ps.length → bindArgs (PySem.W.fnOf x x (defArgs st) (defBody st) (defScope st) .none kV doc pm an cdv ct) ⟨us, []⟩ = pure (ps.zip us)) : HostAt K mg base T x st ps := by
  obtain ⟨c, Pt, oc, od, kV, doc, pm, an, ct, osl, rfl, h2, h3, h4, h5, h6, h7⟩ := F.ex
  exact ⟨⟨f, _, c, Pt, oc, od, kV, doc, pm, an, ct, osl, PySem.W.mg_of X G a, (fun_mk h2 h3 h4).binds b, rfl, h2, h3, h4, h5, h6, h7⟩⟩
theorem okFhL {x : Str} {st : Stmt} {N ps : List Str} {k m n : Nat} {b : WS} {f : Addr} {fd : FuncData} (h : HostFd K mg base T x st f fd) (S : FnScope N ps (defScope st)) (hn : ps.length = n) (hm : N.length = m) (hq : x ++ ".<locals>.<lambda>" = (x ++ ".<locals>.") ++ "<lambda>")
    (hbody : ∀ (cdv : Value) (A : Around) (outer : List PySem.Env) (s : Shared) (H : Hp) (E : XK) (F I : Hp) (R : WR), TabAt (cxOf (L2N.CX P w) P w K mg base N x (defScope st) f cdv A outer s H E) T → Room k (A.deeper (envOfC x (defScope st) s.heap.objs.size f cdv)) →
      Tk (cxOf (L2N.CX P w) P w K mg base N x (defScope st) f cdv A outer s H E) ⟨T, F, I, R⟩ → DSs (cxOf (L2N.CX P w) P w K mg base N x (defScope st) f cdv A outer s H E) ⟨T, F, I, R⟩ (defBody st) b) :
    FnOk P w K mg base (L2N.CX P w) (k + 1) f fd ps (spD K mg T n (fnW m b)) := by
  obtain ⟨c, Pt, oc, od, kV, doc, pm, an, ct, osl, rfl, h4, h5, h6, h7, h8, h9⟩ := h.ex
  refine fn_of h4 h5 S (fun vs H Q E ⟨F, I, S, ds, Φ, R, h1, h2, h3, h4, h5, h6⟩ => by rw [h2.length, h3, hn]) fun A outer s H vs Q E hr ⟨F, I, S, ds, Φ, R, g1, g2, g3, g4, g5, g6⟩ => ?_
  have tk : Tk (cxOf (L2N.CX P w) P w K mg base N x (defScope st) f (.ref c) A outer s H E) ⟨T, F, I, R⟩ := L2N.Takes.imp (L2N.takes_of (E := E) rfl rfl rfl rfl) fun c d σ H' ⟨nm, I', S', k1, k2, k3, k4⟩ => g6 nm c d H' I' S' k1 k2 k3 k4
  have ta : TabAt (cxOf (L2N.CX P w) P w K mg base N x (defScope st) f (.ref c) A outer s H E) T := ⟨c, Pt, h7, rfl, by rw [← show x ++ ".<locals>.<lambda>" = (cxOf (L2N.CX P w) P w K mg base N x (defScope st) f (.ref c) A outer s H E).env.qual ++ "<lambda>" from hq]; exact h8,
    by rw [← show x ++ ".<locals>.<lambda>" = (cxOf (L2N.CX P w) P w K mg base N x (defScope st) f (.ref c) A outer s H E).env.qual ++ "<lambda>" from hq]; exact h9⟩
  refine ⟨_, hbody (.ref c) A outer s H E F I R ta hr tk, F, I, S, estart m ds, { nx := fun _ S => Φ .non S, rt := Φ }, ⟨Same.refl _, Same.refl _, g1, by rw [← hm]; exact Slots.start g2 N⟩, g4, ?_, ?_, ?_, ?_⟩
  · rintro σ' H' ⟨I', S', ρ', e, r, s', hz⟩
    exact g5 _ _ I' S' .non e r .non hz
  · rintro v H' ⟨I', S', d, e, r, q, hz⟩
    exact g5 _ _ I' S' d e r q hz
  · rintro σ' H' ⟨I', S', ρ', e, r, s', hz⟩
    exact hz.elim
  · rintro σ' H' ⟨I', S', ρ', e, r, s', hz⟩
    exact hz.elim

/-! ### facts by a Bool -/
theorem refOf_mg {x : Str} {C : Addr} (X : K.In h) (G : h.Ns mainGlobals mg) (e : refOf K x = some C) : mg x = some (.ref C) := by
  unfold refOf at e
  split at e
  · rename_i a q
    cases e
    exact PySem.W.mg_of X G q
  · cases e
def excAtB (K : PySem.W.Frag) (x : Str) : Bool := match refOf K x with
  | some C => PySem.W.excIn K C [.type "ValueError", .type "Exception", .type "BaseException", .type "object"] "ValueError.__new__" && PySem.W.keepIn K (.ref C) && decide (PySem.W.subIn K (.ref C) (.type "BaseException") = some true) && decide (PySem.W.typeIn K (.ref C) = some (.type "type"))
  | none => false
theorem excAt_mk {x : Str} (X : K.In h) (G : h.Ns mainGlobals mg) (e : excAtB K x = true) : ExcAt K mg x := by
  unfold excAtB at e
  split at e
  · rename_i C q
    simp only [Bool.and_eq_true, decide_eq_true_eq] at e
    exact ⟨C, refOf_mg X G q, e.1.1.1, e.1.1.2, e.1.2, e.2⟩
  · cases e
def excCB (K : PySem.W.Frag) (D : Addr) : Bool :=
  decide (PySem.W.findIn K (.ref D) "__getattribute__" = some (some (.builtin "BaseException.__getattribute__"))) && decide (PySem.W.findIn K (.ref D) "__getattr__" = some none) && decide (PySem.W.subIn K (.ref D) (.type "BaseException") = some true) &&
  PySem.W.hasDictIn K D && decide (PySem.W.findIn K (.ref D) "__class__" = some (some (.builtin "object.__class__"))) && decide (PySem.W.specialIn K (.builtin "object.__class__") "__get__" = some (some (.builtin "getset_descriptor.__get__"))) &&
  decide (PySem.W.takesIn K (.builtin "object.__class__") = some true) && decide (PySem.W.mroIn K D (.type "object") = some true)
theorem excC_mk {D : Addr} (e : excCB K D = true) : ExcC K D := by
  unfold excCB at e
  simp only [Bool.and_eq_true, decide_eq_true_eq] at e
  obtain ⟨⟨⟨⟨⟨⟨⟨h1, h2⟩, h3⟩, h4⟩, h5⟩, h6⟩, h7⟩, h8⟩ := e
  exact ⟨h1, h2, h3, h4, h5, h6, h7, h8⟩
def errCB (K : PySem.W.Frag) (CE : Addr) (nm : Str) : Bool := match refOf K nm with
  | some C => excCB K C && errN.all (fun n2 => match refOf K n2 with
      | some C2 => decide (PySem.W.kitOne K (.ref C) (.ref C2) = some (n2 == nm))
      | none => false) && decide (PySem.W.kitOne K (.ref C) (.type "ValueError") = some true) && decide (PySem.W.exmOne K (.ref C) (.ref CE) = some true)
  | none => false
def errFB (K : PySem.W.Frag) : Bool := match refOf K "CornerError" with
  | some CE => errN.all (errCB K CE) && decide (PySem.W.nsIn K mainGlobals "ValueError" = some none)
  | none => false
theorem errFacts (X : K.In h) (G : h.Ns mainGlobals mg) (e : errFB K = true) : ErrFacts K mg errN errT errTxt := by
  unfold errFB at e
  split at e
  · rename_i CE q
    rw [Bool.and_eq_true, List.all_eq_true, decide_eq_true_eq] at e
    obtain ⟨e, hve⟩ := e
    refine ⟨CE, refOf_mg X G q, fun nm t ht => ?_⟩
    unfold errT at ht
    split at ht
    · rename_i hc
      cases ht
      have z := e nm (List.contains_iff_mem.mp hc)
      unfold errCB at z
      split at z
      · rename_i C hC
        simp only [Bool.and_eq_true, decide_eq_true_eq, List.all_eq_true] at z
        obtain ⟨⟨⟨z1, z2⟩, z3⟩, z4⟩ := z
        refine ⟨C, qErr nm, refOf_mg X G hC, ⟨excC_mk z1, fun n2 hn2 => ?_, ⟨PySem.W.mg_none_of X G hve, ?_⟩⟩, z4, rfl⟩
        · have y := z2 n2 hn2
          split at y
          · rename_i C2 hC2
            refine ⟨C2, refOf_mg X G hC2, ?_⟩
            rw [decide_eq_true_eq] at y
            rw [y]
            have hv : (n2 == ("ValueError" : Str)) = false := by
              have hall : ∀ y ∈ errN, (y == ("ValueError" : Str)) = false := by decide +kernel
              exact hall n2 hn2
            unfold qErr
            rw [hv, Bool.or_false]
          · cases y
        · rw [z3]
          unfold qErr
          rw [show (("ValueError" : Str) == ("ValueError" : Str)) = true from by decide, Bool.or_true]
      · cases z
    · cases ht
  · cases e
/-! ### tuples that the module holds -/
mutual
def denB (K : PySem.W.Frag) : Nat → Value → D → Bool
  | n + 1, .ref a, .tup ds => (match K.lookup a with
    | some ⟨.type "tuple", _, .seq its _, _⟩ => decide (its.size ≤ sizeLine) && denL K n its.toList ds
    | _ => false)
  | _, .int i _, .int j => i == j
  | _, _, _ => false
def denL (K : PySem.W.Frag) : Nat → List Value → List D → Bool
  | n + 1, v :: vs, d :: ds => denB K n v d && denL K n vs ds
  | _ + 1, [], [] => true
  | _, _, _ => false
end
mutual
theorem denB_ok : ∀ {n : Nat} {v : Value} {d : D}, denB K n v d = true → ∃ x : V, RelV x v ∧ ∀ I, Den K I x d := by
  intro n v d e
  unfold denB at e
  split at e
  · split at e
    · rename_i its sz sl hk
      rw [Bool.and_eq_true, decide_eq_true_eq] at e
      obtain ⟨xs, r, q⟩ := denL_ok e.2
      exact ⟨.ref _, rfl, fun I => .tup (.inr ⟨_, its, sz, hk, rfl, rfl, e.1, r⟩) (q I)⟩
    · cases e
  · rename_i i t j
    have z : i = j := eq_of_beq e
    subst z
    exact ⟨.int i, ⟨t, rfl⟩, fun I => .int i⟩
  · cases e
theorem denL_ok : ∀ {n : Nat} {vs : List Value} {ds : List D}, denL K n vs ds = true → ∃ xs : List V, Vals xs vs ∧ ∀ I, DenA K I xs ds := by
  intro n vs ds e
  unfold denL at e
  split at e
  · rw [Bool.and_eq_true] at e
    obtain ⟨x, r, q⟩ := denB_ok e.1
    obtain ⟨xs, r2, q2⟩ := denL_ok e.2
    exact ⟨x :: xs, .cons r r2, fun I => .cons (q I) (q2 I)⟩
  · exact ⟨[], .nil, fun I => .nil⟩
  · cases e
end
def cstB (K : PySem.W.Frag) (x : Str) (d : D) : Bool := match refOf K x with
  | some a => denB K 60 (.ref a) d
  | none => false
theorem cst_mk {x : Str} {d : D} (X : K.In h) (G : h.Ns mainGlobals mg) (e : cstB K x d = true) : ∃ p, mg x = some (.ref p) ∧ ∀ I, Den K I (.ref p) d := by
  unfold cstB at e
  split at e
  · rename_i a q
    obtain ⟨y, r, z⟩ := denB_ok e
    refine ⟨a, refOf_mg X G q, ?_⟩
    cases y with
    | ref b => cases r; exact z
    | _ => first | (cases r; done) | (obtain ⟨_, r⟩ := r; cases r)
  · cases e
/-! ### the law called -/
theorem law_start {W : WF} {n : Nat} {cs : List (Addr × Addr)} {T : List (Addr × Str)} (hT : ∀ p ∈ T, ∃ q ∈ cs, q.2 = p.1) (hW : ∀ (d : D) (ns : List Int), scrOk K d ns → ns.length ≤ n → (∀ z ∈ ns, Builtin.Int.intBits z ≤ 1048576) → ∀ (R : WR) (S : Sto) (Φ : D → Sto → Prop), (∀ S', Φ (.bl true) S') → W R [d] S Φ)
    (H : Hp) (a : Addr) (ns : List Int) (hl : ns.length ≤ n) (hb : ∀ z ∈ ns, Builtin.Int.intBits z ≤ 1048576) (hH : ∀ p ∈ cs, H p.2 = some (.tbl #[])) (hS : SqL K H a (ns.map V.int)) : spD K mg T 1 W [.ref a] H (fun v _ => v = .bl true) fun _ _ _ => False := by
  have tab : Tabs T H := fun p hp => by
    obtain ⟨q, hq, e⟩ := hT p hp
    exact TabS.nil (by rw [← e]; exact hH q hq)
  rcases hS with h | hk
  · have ha : ∃ o, H a = some o ∧ ∀ ps, o ≠ .tbl ps := by
      rcases h with h | ⟨o, h⟩
      · exact ⟨_, h, fun _ z => nomatch z⟩
      · exact ⟨_, h, fun _ z => nomatch z⟩
    obtain ⟨o, ho, hno⟩ := ha
    have hrd : Rd (fun b => if b = a then some o else none) a (.lst (ns.map V.int)) := by
      rcases h with h | ⟨u, h⟩
      · exact .inl ((if_pos rfl).trans (ho.symm.trans h))
      · exact .inr ⟨u, (if_pos rfl).trans (ho.symm.trans h)⟩
    refine ⟨fun _ => none, fun b => if b = a then some o else none, fun _ => none, [.lst (ns.map D.int)], _, fun _ _ => False, ⟨fun b u e => ?_, fun b u e => (by cases e), fun b u e => (by cases e), tab, fun b ps => ⟨fun e => ?_, fun e => (by cases e)⟩⟩, .cons (.lst hrd (DenA.ofInts ns)) .nil, rfl,
      hW _ ns (.inl rfl) hl hb _ _ (fun d _ => d = .bl true) (fun _ => rfl), ?_, fun _ _ _ _ _ _ _ _ _ z => z⟩
    · split at e
      · rename_i q; subst q; cases e; exact ho
      · cases e
    · split at e
      · cases e; exact hno ps rfl
      · cases e
    · rintro v H' I' S' d _ _ q rfl
      cases q
      rfl
  · refine ⟨fun _ => none, fun _ => none, fun _ => none, [.ptr a], _, fun _ _ => False, ⟨fun b u e => (by cases e), fun b u e => (by cases e), fun b u e => (by cases e), tab, fun b ps => ⟨fun e => (by cases e), fun e => (by cases e)⟩⟩, .cons (.ptr a) .nil, rfl,
      hW _ ns (.inr ⟨a, rfl, hk⟩) hl hb _ _ (fun d _ => d = .bl true) (fun _ => rfl), ?_, fun _ _ _ _ _ _ _ _ _ z => z⟩
    rintro v H' I' S' d _ _ q rfl
    cases q
    rfl
end
end DL

set_option maxRecDepth 100000
set_option maxHeartbeats 4000000
/-! DX1: an exception that leaves a comprehension. -/
namespace DX
open PySem PySem.Spec PyProof.Rows L2
/-- an exception of X in the air, in the way P -/
def XQ (X : Cx) (W : XK) (P : Heap → Addr → (Obj → Prop) → Heap → Prop) (u : Value) (s1 : Shared) : Prop :=
  ∃ (q : Addr) (G : Heap) (s0 : Shared) (pp : List (Addr × Obj)) (st : L2.St) (J : Hp) (cl : Value) (od : Option Addr), u = .ref q ∧ Inv X pp st J s0 ∧
    (∀ b o, s0.heap.get? b = some o → b ∉ frs X.stack → G.get? b = some o) ∧ s0.heap.UpToSlots s1.heap ∧ P G q (L2N.Zn cl od) s1.heap ∧ J q = none ∧ s1.os = s0.os ∧ AllBare s1.gens ∧ W cl od J
abbrev flyP (l : List PySem.Env) : Heap → Addr → (Obj → Prop) → Heap → Prop := fun G q Z h => HandSPX.FlyingZ G l q Z h
abbrev heldP (l : List PySem.Env) (L : Addr) : Heap → Addr → (Obj → Prop) → Heap → Prop := fun G q Z h => HandSPX.HeldZ G l q Z L h
/-- X takes what flies and what is held by its frame -/
def Acc (X : Cx) (W : XK) : Prop := ∃ (E0 : PySem.Env) (out : List PySem.Env) (L : Addr), X.stack = E0 :: out ∧ E0.frame = some L ∧ X.env.frame = some L ∧
  (∀ u s1, XQ X W (flyP X.stack) u s1 → X.xe u s1) ∧ ∀ u s1, XQ X W (heldP X.stack L) u s1 → X.xe u s1
theorem acc_def {X : Cx} {W : XK} (hs : X.stack = X.env :: X.outer) (hf : X.env.frame = some X.env.locals) (tk : L2N.Takes X fun c d _ H => W c d H) : Acc X W :=
  ⟨X.env, X.outer, X.env.locals, hs, hf, hf, fun u s1 ⟨q, G, s0, pp, st, J, cl, od, e, I, nb, up, fl, na, os, ag, w⟩ => tk u s1 ⟨q, G, s0, pp, st, J, cl, od, e, I, nb, up, .inr (.inl fl), na, os, ag, w⟩,
    fun u s1 ⟨q, G, s0, pp, st, J, cl, od, e, I, nb, up, hh, na, os, ag, w⟩ => tk u s1 ⟨q, G, s0, pp, st, J, cl, od, e, I, nb, up, .inr (.inr hh), na, os, ag, w⟩⟩
section
variable {X : Cx} {W : XK}
/-- what a call lets out flies -/
theorem xq_call {pp : List (Addr × Obj)} {st : L2.St} {J : Hp} {s0 s1 : Shared} {E : XK} {u : Value} (I : Inv X pp st J s0) (hW : ∀ c d K, E c d K → W c d K) (c : L2N.CX X.prog X.w X.stack J s0 E u s1) : XQ X W (flyP X.stack) u s1 := by
  obtain ⟨q, G, K, cl, od, rfl, fly, okK, ub, nq, eos, bare, hE⟩ := c
  obtain ⟨R, in1, out1⟩ := restrict s1.heap fun b => (G.get? b).isSome || decide (b ∈ frs X.stack)
  have stays : G.StaysIn s1.heap := fly.1
  have fromG : ∀ b o, G.get? b = some o → R.get? b = some o := fun b o eb => by
    rw [in1 b (by simp [eb])]; exact stays b o eb
  have onF : ∀ b, b ∈ frs X.stack → R.get? b = s1.heap.get? b := fun b hb => in1 b (by simp [hb])
  have back : ∀ b o, R.get? b = some o → s1.heap.get? b = some o ∧ ((G.get? b).isSome = true ∨ b ∈ frs X.stack) := fun b o eb => by
    cases hp : ((G.get? b).isSome || decide (b ∈ frs X.stack)) with
    | false => rw [out1 b hp] at eb; cases eb
    | true => rw [in1 b hp] at eb; exact ⟨eb, by simpa [Bool.or_eq_true] using hp⟩
  refine ⟨q, G, { s0 with heap := R, gens := s1.gens, drawn := s1.drawn, toks := s1.toks }, pp, st, K, cl, od, rfl, ?_, fun b o eb hb => ?_, Heap.UpToSlots.of_keeps fun b o eb => (back b o eb).1, fly, nq, eos, bare, hW _ _ _ hE⟩
  · refine I.call (ch := []) ⟨fun b o eb nb hb _ => fromG b o (ub.keep b o eb nb hb), fun b o eb nb hb _ => ?_, fun b o eb nb _ => ub.free b o eb nb, fun b o eb _ => ?_, ub.tups, ub.frzs, ub.tbls⟩ (okK.kept fromG) bare fun _ z => nomatch z
    · obtain ⟨sl, es⟩ := ub.slot b o eb hb
      exact ⟨sl, by rw [onF b hb]; exact es⟩
    · by_cases hb : b ∈ frs X.stack
      · obtain ⟨sl, es⟩ := ub.slot b o eb hb
        exact ⟨_, by rw [onF b hb]; exact es⟩
      · obtain ⟨o2, es⟩ := ub.there b o eb hb
        exact ⟨o2, fromG b o2 es⟩
  · obtain ⟨e2, hh⟩ := back b o eb
    rcases hh with hh | hh
    · obtain ⟨o2, es⟩ := Option.isSome_iff_exists.mp hh
      have ez := stays b o2 es
      rw [e2] at ez; cases ez
      exact es
    · exact absurd hh hb
theorem acc_passes {E : XK} (A : Acc X W) (hW : ∀ c d K, E c d K → W c d K) : Passes (L2N.CX X.prog X.w) X E := fun pp st J s0 e s1 I c => by
  obtain ⟨E0, out, L, _, _, _, af, _⟩ := A
  exact af e s1 (xq_call I hW c)
theorem funFrames_base {h h2 G G2 : Heap} (kb : ∀ b, G.get? b = none → G2.get? b = none) (kh : ∀ b o, G.get? b = none → h.get? b = some o → (∀ vs, o.data ≠ .fields vs) → ∃ o2, h2.get? b = some o2 ∧ o2.data = o.data) : ∀ {l : List PySem.Env}, h.FunFrames G l → h2.FunFrames G2 l
  | [], _ => trivial
  | E0 :: l, ⟨z1, ⟨L, o, z2, z3, z4, z5⟩, z6⟩ => by
    obtain ⟨o2, y1, y2⟩ := kh L o z3 z4 z5
    exact ⟨z1, ⟨L, o2, z2, kb L z3, y1, by rw [y2]; exact z5⟩, funFrames_base kb kh z6⟩
/-- the context of a comprehension's block, its exceptions handed on -/
abbrev blkE (X : Cx) (s : Shared) (H : Hp) (scope : Scope) (ce : PySem.Env) (fp : List Addr) : Cx := (X.blk s H scope ce fp).wish (notedBy (model X.prog X.w) X.A ce (CompFails (model X.prog X.w) X.A X.xe ce))
theorem note_as {ce E0 : PySem.Env} (e : ce.frame = E0.frame) (u : Value) : noteFrame u ce = noteFrame u E0 := by
  unfold noteFrame PySem.frameOf
  rw [e]
section
variable {pp : List (Addr × Obj)} {st : L2.St} {J : Hp} {s : Shared} {scope : Scope} {ce : PySem.Env} {fp : List Addr}
/-- held, then the block's names are let go, then on -/
theorem comp_fails (I : Inv X pp st J s) (hC : ce.locals = s.heap.objs.size) (hfp : ∀ b ∈ fp, FpOk X pp J b) {L : Addr} (hL : ce.frame = some L) (ah : ∀ u s1, XQ X W (heldP X.stack L) u s1 → X.xe u s1) {u : Value} {s1 : Shared}
    (x : XQ (blkE X s J scope ce fp) W (heldP X.stack L) u s1) : CompFails (model X.prog X.w) X.A X.xe ce u s1 := by
  obtain ⟨q, G, s0, p2, st2, K, cl, od, rfl, I2, nb, up, hh, nq, eos, bare, hw⟩ := x
  have J1 := I2.landed nb hh.1 up eos bare
  obtain ⟨m, hn, _⟩ := J1.loc
  refine ⟨m, hn, fun h1 m1 hn1 sb => ?_⟩
  obtain ⟨hG, nGq, ff, oe, vs, T, oT, ts, he, hz, hd, hv, nGT, neT, hT, hdT, h3⟩ := hh
  have K0 : K ce.locals = none := I2.free
  have fC := I.fpOk (H' := K) (Nat.le_of_eq hC.symm) K0
  have nfr : ce.locals ∉ frs X.stack := fun hm => by
    rcases List.mem_cons.mp (I.stkSub _ hm) with z | z
    · exact fC.2.1 z
    · exact fC.2.2.1 z
  obtain ⟨m0, hn0, _⟩ := I2.loc
  obtain ⟨oC, _, _, hoC, _⟩ := hn0
  have GC : G.get? ce.locals = some oC := nb _ _ hoC nfr
  have nq1 : q ≠ ce.locals := fun z => by rw [z, GC] at nGq; cases nGq
  have nT1 : T ≠ ce.locals := fun z => by rw [z, GC] at nGT; cases nGT
  obtain ⟨G1, k1, k2⟩ := restrict G fun b => decide (b ≠ ce.locals)
  obtain ⟨R, r1, r2⟩ := restrict s0.heap fun b => decide (b ≠ ce.locals)
  have g1 : ∀ b, b ≠ ce.locals → G1.get? b = G.get? b := fun b hb => k1 b (by simp [hb])
  have gC : G1.get? ce.locals = none := k2 _ (by simp)
  have inG : ∀ b o, G1.get? b = some o → b ≠ ce.locals ∧ G.get? b = some o := fun b o eb => by
    by_cases hb : b = ce.locals
    · rw [hb, gC] at eb; cases eb
    · exact ⟨hb, by rw [← g1 b hb]; exact eb⟩
  have rr : ∀ b, b ≠ ce.locals → R.get? b = s0.heap.get? b := fun b hb => r1 b (by simp [hb])
  have inR : ∀ b o, R.get? b = some o → b ≠ ce.locals ∧ s0.heap.get? b = some o := fun b o eb => by
    by_cases hb : b = ce.locals
    · rw [hb, r2 _ (by simp)] at eb; cases eb
    · exact ⟨hb, by rw [← rr b hb]; exact eb⟩
  have he1 : h1.get? q = some oe := (sb.2 q nq1).trans he
  have hT1 : h1.get? T = some oT := (sb.2 T nT1).trans hT
  have st1 : G1.StaysIn h1 := fun b o eb => by
    obtain ⟨hb, e2⟩ := inG b o eb
    exact (sb.2 b hb).trans (hG b o e2)
  have gN : ∀ b, G.get? b = none → G1.get? b = none := fun b eb => by
    by_cases hb : b = ce.locals
    · rw [hb]; exact gC
    · rw [g1 b hb]; exact eb
  have ff1 : h1.FunFrames G1 X.stack := funFrames_base gN (fun b o nb2 eb _ => ⟨o, (sb.2 b fun z => by rw [z, GC] at nb2; cases nb2).trans eb, rfl⟩) ff
  have tr1 : HandSPX.TracedZ h1 G1 q (L2N.Zn cl od) (rawInt L) := ⟨oe, vs, T, oT, ts, he1, hz, hd, hv, gN _ nGT, neT, hT1, hdT, h3⟩
  show wpAny (model X.prog X.w) X.A (PySem.passOn "comprehension.variables-let-go" (.ref q) ce : Sem Value) (fun _ _ => False) X.xe { s1 with heap := h1 }
  unfold PySem.passOn
  refine wpAny_bind (wpAny_field (s := { s1 with heap := h1 }) he1 hd hv ?_)
  rw [if_neg (show ¬ ((Value.ref T == Value.none) = true) from by simp)]
  have fin : wpAny (model X.prog X.w) X.A (setFlight (.ref q) ce.frame) (fun _ s4 => wpAny (model X.prog X.w) X.A (throw (.ref q) : Sem Value) (fun _ _ => False) X.xe s4) X.xe { s1 with heap := h1 } := by
    rw [hL]
    refine HandSPX.setFlight_anyZ (s := { s1 with heap := h1 }) st1 ff1 tr1 fun h2 y1 y2 y3 y4 => wpAny_throw (ah _ _ ?_)
    have I0 : Inv X pp st K s0 := I.call' (ch := fp) I2.os I2.base I2.hok I2.bare fun b hb => ⟨(hfp b hb).2.2.2.1, (hfp b hb).2.1, (hfp b hb).2.2.2.2.1, (hfp b hb).2.2.2.2.2⟩
    have I9 : Inv X pp st K { s0 with heap := R, toks := s0.toks } := I0.turned (it := ce.locals) (fun b o hb eb => (rr b hb).trans eb) fC.1 fC.2.1 fC.2.2.2.1 fC.2.2.2.2.1 fC.2.2.2.2.2
    refine ⟨q, G1, { s0 with heap := R, toks := s0.toks }, pp, st, K, cl, od, rfl, I9, fun b o eb hb => ?_, ?_, ⟨y1, gN _ nGq, y2, y3⟩, nq, eos, bare, hw⟩
    · obtain ⟨hb2, e2⟩ := inR b o eb
      rw [g1 b hb2]
      exact nb b o e2 hb
    · refine Heap.UpToSlots.trans (h₂ := h1) (fun b o eb hnf => ?_) y4
      obtain ⟨hb2, e2⟩ := inR b o eb
      obtain ⟨sl, e3⟩ := up b o e2 hnf
      exact ⟨sl, (sb.2 b hb2).trans e3⟩
  first
    | exact wpAny_bind (wpAny_pure (wpAny_bind fin))
    | exact wpAny_bind fin
theorem acc_blk (A : Acc X W) (I : Inv X pp st J s) (hC : ce.locals = s.heap.objs.size) (hF : ce.frame = X.env.frame) (hfp : ∀ b ∈ fp, FpOk X pp J b) : Acc (blkE X s J scope ce fp) W := by
  obtain ⟨E0, out, L, e1, e2, e3, _, ah⟩ := A
  have hL : ce.frame = some L := hF.trans e3
  have hfr : X.A.frames = some (E0 :: out) := by rw [I.ok.frames, e1]
  refine ⟨E0, out, L, e1, e2, hL, fun u s1 x => ?_, fun u s1 x => ?_⟩
  · obtain ⟨q, G, s0, p2, st2, K, cl, od, rfl, I2, nb, up, fl, nq, eos, bare, hw⟩ := x
    show wpAny (model X.prog X.w) X.A (noteFrame (.ref q) ce) _ _ s1
    rw [note_as (hL.trans e2.symm)]
    have fl' : HandSPX.FlyingZ G (E0 :: out) q (L2N.Zn cl od) s1.heap := by rw [← e1]; exact fl
    refine PXN.looks_onZ L2N.Zn.steady hfr e2 fl' fun h2 hh up2 => ?_
    refine comp_fails I hC hfp hL ah ⟨q, G, s0, p2, st2, K, cl, od, rfl, I2, nb, up.trans up2, ?_, nq, eos, bare, hw⟩
    show HandSPX.HeldZ G X.stack q (L2N.Zn cl od) L h2
    rw [e1]; exact hh
  · have x' := x
    obtain ⟨q, G, s0, p2, st2, K, cl, od, rfl, I2, nb, up, hh, nq, eos, bare, hw⟩ := x
    show wpAny (model X.prog X.w) X.A (noteFrame (.ref q) ce) _ _ s1
    exact HandSPX.againZ hL hh.2.2.2 (comp_fails I hC hfp hL ah x')
end
end
end DX

set_option maxRecDepth 100000
set_option maxHeartbeats 4000000
/-! DX2: a list comprehension whose element may raise. -/
namespace DX
open PySem PySem.Spec PyProof.Rows L2
section
variable {X : Cx} {W : XK} {elt tg iter : Expr} {ifs : List Expr} {scope : Scope} {own : List (Str × Nat)} {pos : Pos} {wi : TI} {gH : TG} {tt : TT} {te : TE}
abbrev blkC (X : Cx) (scope : Scope) (s : Shared) (H : Hp) (C : Addr) (cl : List (Str × Addr)) (fp : List Addr) : Cx := blkE X s H scope (compEnvC scope cl C X.env) fp
theorem pe_lcE (A : Acc X W) (hc : X.calm = true) (hN : X.N.Nodup) (hi : PI X tg iter wi) (ok : BlkOk X.N X.env.scope scope own)
    (hg : ∀ s H C cl fp, PG (blkC X scope s H C cl fp) tg gH) (ht : ∀ s H C cl fp, PTs (blkC X scope s H C cl fp) ifs tt)
    (he : ∀ s H C cl fp, Acc (blkC X scope s H C cl fp) W → PE (blkC X scope s H C cl fp) elt te) (hs : ∀ x, foldedSetIterable iter X.env x = pure x) :
    PE X (.ListComp elt [⟨tg, iter, ifs, 0⟩] scope pos) (tLc wi gH tt te (own.map (·.2))) := by
  refine ⟨fun pp s st J Q I todo => ?_⟩
  have caught : ∀ y ∈ scope.names, y.2 = .free → ∃ c, X.env.cells.lookup y.1 = some c := fun y hy ey => I.ok.has _ (ok.free y hy ey)
  rw [eval_ListComp]
  refine comprehension_at (use := none) rfl hs (closure_ok caught) ok.kind (fun y hy ey => by rw [ok.uniq y hy, ey]) (thn (hi.run pp s st J _ I todo) fun v1 s1 g1 => thn g1 fun v2 s2 g2 => ?_)
  obtain ⟨it, fp, tn, T, K2, e2, I2, trn, at0, ok2, rest⟩ := g2
  subst e2
  refine wpAny_newObj_type (newEnv_comp ?_) (by show 0 ≤ sizeLine; decide)
  generalize eL : s2.heap.objs.size = L
  have freeL : K2 L = none := I2.hok.fresh (Nat.le_of_eq eL)
  obtain ⟨V, ⟨k0, v0⟩, turn⟩ := rest L freeL
  generalize e3 : ({ s2 with heap := s2.heap.push { cls := .type "list", data := .seq ([] : List Value).toArray } } : Shared) = s3
  have eh : s3.heap = s2.heap.push { cls := .type "list", data := .seq ([] : List Value).toArray } := by rw [← e3]
  have I3 : Inv X pp st (upd K2 L (.lst [])) s3 := by
    rw [← e3]
    refine I2.laid (t' := s2.toks) (fun b o eb => Heap.get?_push_of_some _ eb) (Nat.le_of_eq eL) ⟨Nat.zero_le _, [], 0, .nil, ?_⟩
    rw [← eL]
    exact Heap.get?_push_size _ rfl
  have old : ∀ b ∈ fp, b < s2.heap.objs.size := fun b hb => let ⟨_, eo, _⟩ := trn.obj _ _ at0 b hb; Heap.lt_size eo
  have ok3 : ∀ b ∈ fp, FpOk X pp (upd K2 L (.lst [])) b ∧ b < s3.heap.objs.size := fun b hb => by
    have lt := old b hb
    refine ⟨⟨?_, (ok2 b hb).2⟩, by rw [eh, Heap.size_push]; exact Nat.lt_succ_of_lt lt⟩
    rw [upd_ne (by rw [← eL]; exact Nat.ne_of_lt lt)]
    exact (ok2 b hb).1
  have at3 : tn 0 s3.heap := trn.keep _ _ _ at0 fun b _ o eb => by rw [eh]; exact Heap.get?_push_of_some _ eb
  have I4 := (block_start I3 ok hN ok3).wish (notedBy (model X.prog X.w) X.A (compEnvC scope (cellsFrom (s3.heap.objs.size + 1) scope.names (cloFrom X.env.cells scope.names [])) s3.heap.objs.size X.env)
    (CompFails (model X.prog X.w) X.A X.xe (compEnvC scope (cellsFrom (s3.heap.objs.size + 1) scope.names (cloFrom X.env.cells scope.names [])) s3.heap.objs.size X.env)))
  have A4 := acc_blk (scope := scope) (ce := compEnvC scope (cellsFrom (s3.heap.objs.size + 1) scope.names (cloFrom X.env.cells scope.names [])) s3.heap.objs.size X.env) A I3 rfl rfl fun b hb => (ok3 b hb).1
  have hg4 := hg s3 (upd K2 L (.lst [])) s3.heap.objs.size (cellsFrom (s3.heap.objs.size + 1) scope.names (cloFrom X.env.cells scope.names [])) fp
  have ht4 := ht s3 (upd K2 L (.lst [])) s3.heap.objs.size (cellsFrom (s3.heap.objs.size + 1) scope.names (cloFrom X.env.cells scope.names [])) fp
  have he4 := he s3 (upd K2 L (.lst [])) s3.heap.objs.size (cellsFrom (s3.heap.objs.size + 1) scope.names (cloFrom X.env.cells scope.names [])) fp A4
  unfold blkC at hg4 ht4 he4
  show codeAny _ _ (.compStart (.ListComp elt [⟨tg, iter, ifs, 0⟩] scope pos) 0 (.ref it) (.ref L) (compEnvC scope (cellsFrom (s3.heap.objs.size + 1) scope.names (cloFrom X.env.cells scope.names [])) s3.heap.objs.size X.env))
    (compEnds (model X.prog X.w) X.A X.xe none (EP X pp st Q) (.ref L) (compEnvC scope (cellsFrom (s3.heap.objs.size + 1) scope.names (cloFrom X.env.cells scope.names [])) s3.heap.objs.size X.env)) { s3 with heap := pushCells (s3.heap.push { cls := .type "dict", data := .dict #[] }) scope.names }
  have nof : ∀ b ∈ fp, (upd K2 L (.lst [])) b = none := fun b hb => (ok3 b hb).1.1
  generalize ec : compEnvC scope (cellsFrom (s3.heap.objs.size + 1) scope.names (cloFrom X.env.cells scope.names [])) s3.heap.objs.size X.env = ce at I4 hg4 ht4 he4 ⊢
  have eC : ce.locals = s3.heap.objs.size := by subst ec; rfl
  generalize e4 : upd K2 L (.lst []) = K3 at I3 I4 hg4 ht4 he4 v0 nof ok3
  generalize es : ({ s3 with heap := pushCells (s3.heap.push { cls := .type "dict", data := .dict #[] }) scope.names } : Shared) = s4 at I4 ⊢
  have at4 : tn 0 s4.heap := trn.keep _ _ _ at3 fun b _ o eb => by rw [← es]; exact pushCells_keeps _ _ _ _ (Heap.get?_push_of_some _ eb)
  have rest4 : ∀ {σ' : L2.St} {K : Hp} {s' : Shared}, Inv (blkE X s3 K3 scope ce fp) [] σ' K s' → (∀ b ∈ fp, K b = none) → ∀ b ∈ fp, FpOk (blkE X s3 K3 scope ce fp) [] K b := fun {σ' K s'} N' nn b hb =>
    ⟨nn b hb, (N'.ok.exf b hb).1, N'.ok.exfs b hb, .inl hb, fun x c q => (N'.ok.exf b hb).2 x c q, fun p hp => absurd (show p ∈ ([] : List (Addr × Obj)) ++ [] from hp) (by simp)⟩
  have loop : codeAny (model X.prog X.w) X.A (.compLoop (.ListComp elt [⟨tg, iter, ifs, 0⟩] scope pos) 0 (.ref it) (.ref L) ce) (compEnds (model X.prog X.w) X.A X.xe none (EP X pp st Q) (.ref L) ce) s4 := by
    refine compLoop_any (fun n s' => ∃ i K, Inv (blkE X s3 K3 scope ce fp) [] (wipe st (own.map (·.2))) K s' ∧ tn i s'.heap ∧ (∀ b ∈ fp, K b = none) ∧ V i n K) ?_ k0 ⟨0, K3, I4, at4, nof, v0⟩
    rintro n s5 ⟨i, K5, I5, at5, nf5, v5⟩
    rcases turn i n K5 v5 with ⟨stop, good⟩ | ⟨go, Nx, hNx, next⟩
    · refine thnF (trn.done (blkE X s3 K3 scope ce fp) rfl rfl rfl hc i [] s5 _ K5 (fun _ _ => False) I5 (rest4 I5 nf5) at5 stop) fun r s6 ⟨hr, I6⟩ => ?_
      subst hr
      have I7 : Inv X pp st K5 s6 := I3.call' (ch := fp) I6.os I6.base I6.hok I6.bare fun b hb => let f := (ok3 b hb).1; ⟨f.2.2.2.1, f.2.1, f.2.2.2.2.1, f.2.2.2.2.2⟩
      have nC : K5 s3.heap.objs.size = none := by rw [← eC]; exact I6.free
      obtain ⟨m, hn, _⟩ := I6.loc
      refine ⟨m, hn, fun h2 sb => ?_⟩
      obtain ⟨f0, f1, f2, f3, f4, f5⟩ := I3.fpOk (H' := K5) (Nat.le_refl _) nC
      rw [eC] at sb
      exact ⟨.ref L, K5, I7.turned (t' := s6.toks) (fun b o hb eb => (sb.2 b hb).trans eb) f0 f1 f3 f4 f5, rfl, good⟩
    · refine thnF (trn.item (blkE X s3 K3 scope ce fp) rfl rfl rfl hc i [] s5 _ K5 (fun _ _ => False) I5 (rest4 I5 nf5) at5 go) fun r s6 ⟨u, hr, g6⟩ => ?_
      subst hr
      refine thnF g6 fun _ s7 ⟨x, K7, I7, r7, y7, at7, nf7⟩ => ?_
      have P7 := I7.pinned (rest4 I7 nf7) (trn.obj _ _ at7)
      refine thn (hg4.run _ s7 _ K7 x u _ P7 r7 (next x K7 y7)) fun _ s8 ⟨σ8, K8, I8, w8, g8⟩ => ?_
      refine thn (ht4.run _ s8 σ8 K8 _ I8 g8) fun b s9 ⟨K9, I9, g9⟩ => ?_
      have again : ∀ {s' : Shared} {K : Hp}, Inv (blkE X s3 K3 scope ce fp) ([] ++ pinsAt fp s7.heap) σ8 K s' → Nx K → ∃ m, m < n ∧ ∃ i K, Inv (blkE X s3 K3 scope ce fp) [] (wipe st (own.map (·.2))) K s' ∧ tn i s'.heap ∧ (∀ b ∈ fp, K b = none) ∧ V i m K := fun {s' K} N' nx => by
        obtain ⟨m, lt, vm⟩ := hNx K nx
        have kept : ∀ b ∈ fp, ∀ o, s7.heap.get? b = some o → s'.heap.get? b = some o ∧ K b = none := fun b hb o eb =>
          let z := N'.pin (b, o) (List.mem_append_right _ (List.mem_append_right _ (mem_pinsAt hb eb)))
          ⟨z.1, z.2.1⟩
        have len : (wipe st (own.map (·.2))).length = σ8.length := by rw [← w8, wipe_length]
        refine ⟨m, lt, i + 1, K, (N'.unpinned (pins := [])).weak len (fun j v ej => ?_), trn.keep _ _ _ at7 fun b hb o eb => (kept b hb o eb).1, fun b hb => ?_, vm⟩
        · rw [← w8] at ej
          exact (wipe_some ej).1
        · obtain ⟨o, eo, _⟩ := trn.obj _ _ at7 b hb
          exact (kept b hb o eo).2
      cases b with
      | false =>
        simp only [Bool.false_eq_true, if_false] at g9 ⊢
        exact again I9 g9
      | true =>
        simp only [if_true] at g9 ⊢
        refine thn (he4.run _ s9 σ8 K9 _ I9 g9) fun z s10 ⟨yv, K10, I10, r10, acc, eacc, lacc, nx⟩ => ?_
        exact app_ok (X := blkE X s3 K3 scope ce fp) I10 eacc lacc r10 fun s11 I11 => again I11 nx
  exact codeAny_compStart_list loop (trn.self X.A 0 _ _ _ at4 loop)
end
end DX

set_option maxRecDepth 100000
set_option maxHeartbeats 4000000
/-! DX3: comprehensions whose element may raise, over data. -/
namespace DL
open PySem PySem.Spec PyProof.Rows L2 L2H HotX LamX DH
abbrev AccB (X : Cx) (B : Bx) : Prop := DX.Acc X fun cls d H' => wxB X.K X.mg B cls d [] H'
def wCompE (wi : WI) (g : WG) (tt : WT) (te : WE) (vs : List Nat) : WE := fun E ρ S Φ => wi E ρ S fun ds keep S1 => compD (g noE) (tt noE) (te E) keep (wipeE ρ vs) ds [] S1 fun acc S2 => Φ (.lst acc) S2
section
variable {X : Cx} {B : Bx}
theorem accB (tk : Tk X B) (hs : X.stack = X.env :: X.outer) (hf : X.env.frame = some X.env.locals) : AccB X B := DX.acc_def hs hf tk
theorem lc_readE {wi : WI} {gH : TG} {g : WG} {tt : WT} {te : WE} {vs : List Nat} {σ : L2.St} {H : Hp} {Q : VK} (hg : TgC X.K B.T vs gH (g noE)) (h : eT X.K B (wCompE wi g tt te vs) σ H Q) :
    tLc (iT X.K B wi) gH (tT X.K B.in tt) (eT X.K B te) vs σ H Q := by
  obtain ⟨F, I, S, ρ, Φ, n, hw, hq⟩ := h
  refine ⟨F, I, S, ρ, _, n, hw, ?_⟩
  rintro J H1 ⟨I1, S1, ds, keep, e1, r1, jk, hz, hf⟩
  intro p hp
  have fp : F p = none := r1.freeF hp
  have sF : ∀ o, Same F (upd F p o) := fun o => same_upd fp
  refine ⟨fun i m H' => m = ds.length - i ∧ i ≤ ds.length ∧ ∃ I' S' accV acc, acc.length ≤ i ∧ Same I1 I' ∧ Rep X.K B.T (upd F p (.lst accV)) I' S' H' ∧ DenA X.K I' accV acc ∧
    compD (g noE) (tt noE) (te B.E) keep (wipeE ρ vs) (ds.drop i) acc S' fun acc S2 => Φ (.lst acc) S2, ⟨ds.length, by simp, Nat.zero_le _, I1, S1, [], [], Nat.le_refl _, Same.refl _, r1.hide hp nt_lst, .nil, hf⟩, ?_⟩
  rintro i m H2 ⟨rfl, hi, I2, S2, accV, acc, hacc, e2, r2, q2, f2⟩
  by_cases hlt : i < ds.length
  · have hd : ds[i]? = some ds[i] := List.getElem?_eq_getElem hlt
    rw [List.drop_eq_getElem_cons hlt] at f2
    obtain ⟨hk, f2⟩ := f2
    obtain ⟨go, yl⟩ := (jk _ i H2 I2 S2 e2 r2 hk).1 _ hd
    refine .inr ⟨go, fun H' => ∃ I' S' accV acc, acc.length ≤ i + 1 ∧ Same I1 I' ∧ Rep X.K B.T (upd F p (.lst accV)) I' S' H' ∧ DenA X.K I' accV acc ∧ compD (g noE) (tt noE) (te B.E) keep (wipeE ρ vs) (ds.drop (i + 1)) acc S' fun acc S2 => Φ (.lst acc) S2,
      fun H' ⟨I', S', aV, a, a0, a1, a2, a3, a4⟩ => ⟨ds.length - (i + 1), by omega, rfl, hlt, I', S', aV, a, a0, a1, a2, a3, a4⟩, fun x H3 hy => ?_⟩
    obtain ⟨I3, e3, r3, q3⟩ := yl x H3 hy
    have e13 := e2.trans e3
    refine hg _ I3 S2 (wipe σ vs) (wipeE ρ vs) H3 x _ _ _ r3 (wipe_slots (n.sl.mono (e1.trans e13)) vs) q3 f2 fun σ4 ρ4 S4 w4 s4 r4 f4 => ⟨w4.trans (by
      apply List.ext_getElem?
      intro j
      rw [wipe_get (wipe σ vs), wipe_length]
      by_cases hj : j ∈ vs
      · rw [if_pos hj, wipe_get, if_pos hj]
      · rw [if_neg hj]), ?_⟩
    have n4 : Now X.K B.in (upd F p (.lst accV)) I3 S4 σ4 ρ4 H3 := ⟨n.fr.trans (sF _), n.en.trans (e1.trans e13), r4, s4⟩
    refine ⟨_, I3, S4, ρ4, _, n4, f4, ?_⟩
    rintro b H5 ⟨I5, S5, e5, r5, f5⟩
    cases b with
    | false =>
      rw [if_neg Bool.false_ne_true] at f5
      exact iteF ⟨I5, S5, accV, acc, Nat.le_succ_of_le hacc, e13.trans e5, r5, q2.mono (e3.trans e5), f5⟩
    | true =>
      rw [if_pos rfl] at f5
      have n5 : Now X.K B (upd F p (.lst accV)) I5 S5 σ4 ρ4 H5 := ⟨n4.fr, n4.en.trans e5, r5, n4.sl.mono e5⟩
      refine iteT ⟨_, I5, S5, ρ4, _, n5, f5, ?_⟩
      rintro y H6 ⟨I6, S6, d6, e6, r6, q6, f6⟩
      have qq := q2.mono ((e3.trans e5).trans e6)
      refine ⟨accV, (r6.frm p _ upd_same).1, by rw [q2.length]; omega, I6, S6, accV ++ [y], acc ++ [d6], by rw [List.length_append]; simpa using hacc, (e13.trans e5).trans e6, ?_, qq.app (.cons q6 .nil), f6⟩
      exact r6.rehide nt_lst (fun _ z => nomatch z) nt_lst
  · have e : i = ds.length := by omega
    subst e
    rw [List.drop_length] at f2
    obtain ⟨hk, f2⟩ := f2
    obtain ⟨r7, s7⟩ := r2.unhide fp
    exact .inl ⟨(jk _ _ H2 I2 S2 e2 r2 hk).2 (Nat.le_refl _), hq _ _ ⟨_, S2, _, (e1.trans e2).trans s7, r7, .lst (.inl upd_same) (q2.mono s7), f2⟩⟩
variable {elt tg iter : Expr} {ifs : List Expr} {scope : Scope} {own : List (Str × Nat)} {pos spos : Pos} {wi : WI} {gH : TG} {g : WG} {tt : WT} {te : WE}
theorem de_lcE (A : AccB X B) (hc : X.calm = true) (hN : X.N.Nodup) (hi : DI X B tg iter wi) (ok : BlkOk X.N X.env.scope scope own) (hgH : ∀ s H C cl fp, PG (DX.blkC X scope s H C cl fp) tg gH) (hg : TgC X.K B.T (own.map (·.2)) gH (g noE))
    (ht : ∀ s H C cl fp, DTs (DX.blkC X scope s H C cl fp) B.in ifs tt) (he : ∀ s H C cl fp, AccB (DX.blkC X scope s H C cl fp) B → DE (DX.blkC X scope s H C cl fp) B elt te) (hs : ∀ x, foldedSetIterable iter X.env x = pure x := by intro _; rfl) :
    DE X B (.ListComp elt [⟨tg, iter, ifs, 0⟩] scope pos) (wCompE wi g tt te (own.map (·.2))) :=
  PE_imp (DX.pe_lcE (tt := tT X.K B.in tt) (te := eT X.K B te) A hc hN hi ok hgH ht he hs) fun σ H Q h => lc_readE hg h
end
section
variable {X : Cx} {B : Bx} {e : Expr} {es : List Expr} {n k : Nat} {ws : WA} {W : WF} {pos p : Pos} {x : Str}
theorem de_callF (g : OkF X.prog X.w X.K X.mg X.base B.T k x n W) (A : AccB X B) (hr : Room k X.A) (hg : Gl X x) (ha : DA X B (e :: es) n ws) (hdb : (x == ("__debug__" : Str)) = false := by decide)
    (he : starEach (e :: es) X.env = (false, eval e X.env) :: starEach es X.env := by rfl) (hpl : (backTo pos (starEach es X.env)).any (·.1) = false := by rfl) : DE X B (.Call (.Name x p) (e :: es) [] pos) (wCall W ws) := by
  obtain ⟨f, fd, ps, h1, h2, h3, h4⟩ := g
  refine PE_imp (pe_call (E := fun cls d H' => wxB X.K X.mg B cls d [] H') h4 hr hg h1 h2 h3 .nil (DX.acc_passes A fun _ _ _ z => z) ha hdb he hpl) fun σ H Q ⟨F, I, S, ρ, Φ, n, hw, hq⟩ => ?_
  refine ⟨F, I, S, ρ, _, n, hw, ?_⟩
  rintro vs H1 ⟨I1, S1, ds, e1, r1, q1, hl, hw1⟩
  refine ⟨F, I1, S1, ds, Φ, B.E, r1, by rw [List.append_nil]; exact q1, hl, hw1, fun v H' I' S' d e2 r2 q2 hz => hq _ _ ⟨I', S', d, e1.trans e2, r2, q2, hz⟩, ?_⟩
  intro nm cls d H' I' S' hc e2 r2 hz
  exact ⟨nm, I', S', hc, (n.en.trans e1).trans e2, r2.sub n.fr, hz⟩
end
end DL

set_option maxRecDepth 100000
set_option maxHeartbeats 4000000
/-! DX4: x in y, list(text), text.replace of written texts. -/
namespace DL
open PySem PySem.Spec PyProof.Rows L2 L2H HotX LamX DH
/-! ### in -/
def inR (S : Sto) (x y : D) (k : Bool → Prop) : Prop := match res S y with
  | .lst ys => okD (res S x) = true ∧ okD (.lst ys) = true ∧ k (ys.any fun z => eqD z (res S x))
  | .tup ys => okD (res S x) = true ∧ okD (.tup ys) = true ∧ k (ys.any fun z => eqD z (res S x))
  | .str z => ∃ c, x = .str ⟨#[c]⟩ ∧ k (decide (c ∈ z.cps.toList))
  | _ => False
def fIn (S : Sto) (x y : D) (Φ : D → Prop) : Prop := inR S x y fun b => Φ (.bl b)
def fNotIn (S : Sto) (x y : D) (Φ : D → Prop) : Prop := inR S x y fun b => Φ (.bl (!b))
def rInT (K : PySem.W.Frag) : R2 := fun x y H Q => ∃ d ds, Dp K H x d ∧ Dp K H y (.tuple ds) ∧ SeqAt.shaped d = true ∧ SeqAt.shaped (.tuple ds) = true ∧ Q (.bl (ds.any fun z => PyData.eqv z d)) H
def rNotInT (K : PySem.W.Frag) : R2 := fun x y H Q => ∃ d ds, Dp K H x d ∧ Dp K H y (.tuple ds) ∧ SeqAt.shaped d = true ∧ SeqAt.shaped (.tuple ds) = true ∧ Q (.bl (!ds.any fun z => PyData.eqv z d)) H
theorem any_py (d : D) : ∀ ys : List D, ((pyA ys).any fun z => PyData.eqv z (py d)) = ys.any fun z => eqD z d
  | [] => by simp [pyA]
  | y :: ys => by rw [pyA, List.any_cons, List.any_cons, any_py d ys]; rfl
section
variable {X : Cx}
theorem shaped_lst {ds : List PyData} (h : SeqAt.shaped (.tuple ds) = true) : SeqAt.shaped (.list ds) = true := by
  simpa [SeqAt.shaped, PyData.canLay0, PyData.depth] using h
theorem op_inT (hu : X.A.units + 65 < cLine) : OpR X (compareOp .In) (rInT X.K) := by
  intro pp s st J x y v u Q I rx ry ⟨d, ds, hd, he, sd, se, q⟩
  obtain ⟨as, r1⟩ := Dp.reads I d x v hd rx
  obtain ⟨bs, r2⟩ := Dp.reads I (.tuple ds) y u he ry
  have se2 := shaped_lst se
  have lay : PyData.canLayAll0 ds = true := SeqAt.canLay_of_shaped se2
  exact SeqAt.in_tuple_reads r2 r1 lay (SeqAt.canLay_of_shaped sd) (room_in_shaped sd hu) ⟨.bl _, J, I, rfl, q⟩
theorem op_notInT (hu : X.A.units + 65 < cLine) : OpR X (compareOp .NotIn) (rNotInT X.K) := by
  intro pp s st J x y v u Q I rx ry ⟨d, ds, hd, he, sd, se, q⟩
  obtain ⟨as, r1⟩ := Dp.reads I d x v hd rx
  obtain ⟨bs, r2⟩ := Dp.reads I (.tuple ds) y u he ry
  have se2 := shaped_lst se
  have lay : PyData.canLayAll0 ds = true := SeqAt.canLay_of_shaped se2
  exact SeqAt.notIn_tuple_reads r2 r1 lay (SeqAt.canLay_of_shaped sd) (room_in_shaped sd hu) ⟨.bl _, J, I, rfl, q⟩
theorem units65 {k : Nat} {A : Around} (r : Room k A) : A.units + 65 < cLine := by have := r.un; omega
def rInDD (K : PySem.W.Frag) : R2 := fun x y H Q => rInD K x y H Q ∨ rInT K x y H Q ∨ rInS x y H Q
def rNotInDD (K : PySem.W.Frag) : R2 := fun x y H Q => rNotInD K x y H Q ∨ rNotInT K x y H Q ∨ rNotInS x y H Q
theorem op_inDD {k : Nat} (hr : Room k X.A) : OpR X (compareOp .In) (rInDD X.K) := (op_inD (units65 hr)).or ((op_inT (units65 hr)).or op_inS)
theorem op_notInDD {k : Nat} (hr : Room k X.A) : OpR X (compareOp .NotIn) (rNotInDD X.K) := (op_notInD (units65 hr)).or ((op_notInT (units65 hr)).or op_notInS)
theorem shaped_of {d : D} (h : okD d = true) : plainD d = true ∧ SeqAt.shaped (py d) = true := Bool.and_eq_true_iff.mp h
theorem br_in {K : PySem.W.Frag} : BinR K (rInDD K) fIn := by
  intro T F I H S x y a b Φ Q r ha hb hf hq
  unfold fIn inR at hf
  split at hf
  · rename_i ys e
    obtain ⟨h1, h2, h3⟩ := hf
    have z := r.dp hb (by rw [e]; exact (shaped_of h2).1)
    rw [e] at z
    exact .inl ⟨_, _, r.dp ha (shaped_of h1).1, by simpa [py] using z, (shaped_of h1).2, by simpa [py] using (shaped_of h2).2, hq _ _ I _ (Same.refl _) r (.bl _) (by rw [any_py]; exact h3)⟩
  · rename_i ys e
    obtain ⟨h1, h2, h3⟩ := hf
    have z := r.dp hb (by rw [e]; exact (shaped_of h2).1)
    rw [e] at z
    exact .inr (.inl ⟨_, _, r.dp ha (shaped_of h1).1, by simpa [py] using z, (shaped_of h1).2, by simpa [py] using (shaped_of h2).2, hq _ _ I _ (Same.refl _) r (.bl _) (by rw [any_py]; exact h3)⟩)
  · rename_i z e
    cases res_str e
    obtain ⟨c, rfl, h3⟩ := hf
    cases ha
    cases hb
    exact .inr (.inr ⟨c, z, rfl, rfl, hq _ _ I _ (Same.refl _) r (.bl _) h3⟩)
  · exact hf.elim
theorem br_notIn {K : PySem.W.Frag} : BinR K (rNotInDD K) fNotIn := by
  intro T F I H S x y a b Φ Q r ha hb hf hq
  unfold fNotIn inR at hf
  split at hf
  · rename_i ys e
    obtain ⟨h1, h2, h3⟩ := hf
    have z := r.dp hb (by rw [e]; exact (shaped_of h2).1)
    rw [e] at z
    exact .inl ⟨_, _, r.dp ha (shaped_of h1).1, by simpa [py] using z, (shaped_of h1).2, by simpa [py] using (shaped_of h2).2, hq _ _ I _ (Same.refl _) r (.bl _) (by rw [any_py]; exact h3)⟩
  · rename_i ys e
    obtain ⟨h1, h2, h3⟩ := hf
    have z := r.dp hb (by rw [e]; exact (shaped_of h2).1)
    rw [e] at z
    exact .inr (.inl ⟨_, _, r.dp ha (shaped_of h1).1, by simpa [py] using z, (shaped_of h1).2, by simpa [py] using (shaped_of h2).2, hq _ _ I _ (Same.refl _) r (.bl _) (by rw [any_py]; exact h3)⟩)
  · rename_i z e
    cases res_str e
    obtain ⟨c, rfl, h3⟩ := hf
    cases ha
    cases hb
    exact .inr (.inr ⟨c, z, rfl, rfl, hq _ _ I _ (Same.refl _) r (.bl _) h3⟩)
  · exact hf.elim
end
/-! ### list(text) -/
def signsV (z : Str) : List V := z.cps.toList.map fun c => V.str ⟨#[c]⟩
def rLstS : List V → Hp → VK → Prop := fun xs H Q => ∃ z, xs = [.str z] ∧ z.length ≤ sizeLine ∧ ∀ l, H l = none → Q (.ref l) (upd H l (.lst (signsV z)))
theorem call_lstS {X : Cx} (hc : X.calm = true) : CallR X (.type "list") rLstS := by
  intro pp s st J xs us Q I r h
  obtain ⟨z, rfl, hz, q⟩ := h
  obtain ⟨u, rfl, t, rfl⟩ := vals1 r
  refine call_list_str (I.ok.hd hc) z t (hn := hz) fun h2 tk acc c2 keep ho items => ?_
  have hv : Vals (signsV z) acc.toList := by
    refine vals_of_at (by rw [signsV, List.length_map, Array.length_toList, Array.length_toList, items.1]) fun j x u hx hu => ?_
    obtain ⟨c, t2, e1, rfl⟩ := items.2 j u (by simpa using hu)
    rw [signsV, List.getElem?_map] at hx
    have e2 : z.cps.toList[j]? = some c := by simpa using e1
    rw [e2] at hx
    cases hx
    exact ⟨t2, rfl⟩
  exact ⟨.ref s.heap.objs.size, _, I.laid (t' := tk) keep (Nat.le_refl _) (show ObjOk X.prog X.w _ h2 _ (.lst (signsV z)) from ⟨by rw [signsV, List.length_map, Array.length_toList]; exact hz, acc.toList, c2, hv, ho⟩), rfl, q _ (I.hok.fresh (Nat.le_refl _))⟩
def fLstS (_ : Sto) (ds : List D) (Φ : D → Prop) : Prop := match ds with
  | [.str z] => z.length ≤ sizeLine ∧ Φ (.lst (signsD z))
  | _ => False
theorem den_signs {K : PySem.W.Frag} {I : Hp} (z : Str) : DenA K I (signsV z) (signsD z) := by
  unfold signsV signsD
  induction z.cps.toList with
  | nil => exact .nil
  | cons c cs ih => exact .cons (.str _) ih
theorem fr_lstS {K : PySem.W.Frag} : FnR K rLstS fLstS := by
  intro T F I H S xs as Φ Q r ha hf hq
  unfold fLstS at hf
  split at hf
  · obtain ⟨v, rfl, hd⟩ := ha.one
    cases hd
    exact ⟨_, rfl, hf.1, fun l hl => hq _ _ _ _ (r.same hl) (r.new hl nt_lst) (.lst (.inl upd_same) (den_signs _)) hf.2⟩
  · exact hf.elim
/-! ### replace -/
section
variable {X : Cx} {B : Bx} {o e f : Expr} {wo we wf : WE} {ws : WA} {st : Stmt} {rest : List Stmt} {t u : WS} {n : Nat} {apos pos : Pos}
abbrev DET (X : Cx) (B : Bx) (e : Expr) (w : WE) : Prop := PET X e (eT X.K B w)
abbrev DAT (X : Cx) (B : Bx) (es : List Expr) (n : Nat) (w : WA) : Prop := PAT X es (aT X.K B n w)
abbrev DST (X : Cx) (B : Bx) (s : Stmt) (w : WS) : Prop := L2.PST X s (sT X.K B w)
abbrev DSsT (X : Cx) (B : Bx) (s : List Stmt) (w : WS) : Prop := PSsT X s (sT X.K B w)
theorem PET_imp {t t' : TE} (h : PET X e t) (q : ∀ σ H Q, t' σ H Q → t σ H Q) : PET X e t' := fun pp s σ H Q h0 I z => h pp s σ H Q h0 I (q _ _ _ z)
theorem PAT_imp {es : List Expr} {t t' : TA} (h : PAT X es t) (q : ∀ σ H Q, t' σ H Q → t σ H Q) : PAT X es t' := fun p pp s σ H Q h0 I z => h p pp s σ H Q h0 I (q _ _ _ z)
theorem PST_imp {t t' : TS} (h : L2.PST X st t) (q : ∀ D σ H, t' D σ H → t D σ H) : L2.PST X st t' := fun pp s σ H D h0 I z => h pp s σ H D h0 I (q _ _ _ z)
theorem PSsT_imp {t t' : TS} (h : PSsT X rest t) (q : ∀ D σ H, t' D σ H → t D σ H) : PSsT X rest t' := fun pp s σ H D h0 I z => h pp s σ H D h0 I (q _ _ _ z)
def wReplC (y z : Str) (wo : WE) : WE := fun E ρ S Φ => wo E ρ S fun x S1 => match x with
  | .str a => a.length + (a.length + 1) * z.length ≤ 16777216 ∧ Φ (.str (Txt.replace a y z)) S1
  | _ => False
theorem det_of (h : DE X B e we) : DET X B e we := CwR.PET.of h
theorem det_repl {y z : Str} {j k : Nat} {c0 c1 : Pos} (h : PET X (.Call (.Attribute o "replace" apos) [.Constant (.str y) j c0, .Constant (.str z) k c1] [] pos) (CwR.tReplC (eT X.K B wo) y z)) :
    DET X B (.Call (.Attribute o "replace" apos) [.Constant (.str y) j c0, .Constant (.str z) k c1] [] pos) (wReplC y z wo) :=
  PET_imp h fun σ H Q ⟨F, I, S, ρ, Φ, n, hw, hq⟩ => by
    refine ⟨F, I, S, ρ, _, n, hw, ?_⟩
    rintro x H1 ⟨I1, S1, d1, e1, r1, q1, hw1⟩
    split at hw1
    · rename_i a
      cases q1
      exact ⟨a, rfl, hw1.1, hq _ _ ⟨I1, S1, _, e1, r1, .str _, hw1.2⟩⟩
    · exact hw1.elim
theorem dat_nil : DAT X B [] 0 wNil := PAT_imp pat_nil fun σ H Q ⟨F, I, S, ρ, Φ, n, hw, hq⟩ => hq _ _ ⟨I, S, [], Same.refl _, n.rep, .nil, rfl, hw⟩
theorem dat_cons {es : List Expr} (ha : DET X B e we) (hr : DAT X B es n ws) (hs : starEach (e :: es) X.env = (false, eval e X.env) :: starEach es X.env := by rfl) : DAT X B (e :: es) (n + 1) (wCons we ws) :=
  PAT_imp (pat_cons ha hr hs) fun σ H Q ⟨F, I, S, ρ, Φ, nn, hw, hq⟩ => by
    refine ⟨F, I, S, ρ, _, nn, hw, ?_⟩
    rintro x H1 ⟨I1, S1, d1, e1, r1, q1, hw1⟩
    refine ⟨F, I1, S1, ρ, _, nn.next e1 r1, hw1, ?_⟩
    rintro vs H2 ⟨I2, S2, ds, e2, r2, q2, hl, hw2⟩
    exact hq _ _ ⟨I2, S2, d1 :: ds, e1.trans e2, r2, .cons (q1.mono e2) q2, by simp [hl], hw2⟩
theorem det_lst (h : DAT X B [e, f] 2 ws) : DET X B (.List [e, f] pos) (wLst ws) :=
  PET_imp (pet_lst h) fun σ H Q ⟨F, I, S, ρ, Φ, nn, hw, hq⟩ => by
    refine ⟨F, I, S, ρ, _, nn, hw, ?_⟩
    rintro vs H1 ⟨I1, S1, ds, e1, r1, q1, hl, hw1⟩
    refine ⟨by rw [q1.length, hl]; decide, fun p hp => hq _ _ ⟨upd I1 p (.lst vs), S1, .lst ds, e1.trans (r1.same hp), r1.new hp nt_lst, .lst (.inl upd_same) (q1.mono (r1.same hp)), hw1⟩⟩
theorem det_op {op : Operator} {r : R2} {g : Sto → D → D → (D → Prop) → Prop} (ho : OpR X (binaryOp op) r) (hr : BinR X.K r g) (ha : DET X B e we) (hb : DET X B f wf) : DET X B (.BinOp e op f pos) (wBin g we wf) :=
  PET_imp (CwR.pet_op ho ha hb) fun σ H Q h => bin_read hr h
theorem dst_set {i : Nat} {x : Str} {p2 : Pos} (hN : X.N.Nodup) (hi : X.N[i]? = some x) (hx : Loc X.env.scope x) (he : DET X B e we) (hs : swapsWith e (some (.Name x p2)) pos.line X.env = pure false := by rfl)
    (hf : X.fn x = true ∨ X.env.scope.names.lookup x = some .local := by first | exact .inl rfl | exact .inr rfl) : DST X B (.Assign [.Name x p2] e pos) (sAsg we (gNm i)) := by
  have h : L2.PST X (.Assign [.Name x p2] e pos) (tAsg (eT X.K B we) (gName i)) := fun pp s σ H D h0 I z =>
    wpAny_Assign_Name (thn (he pp s σ H _ h0 I z) fun v s1 ⟨y, H1, I1, r1, q1⟩ => store_ok I1 hN hi hx r1 (fun s2 I2 => ⟨_, H1, I2, q1⟩) hf) hs
  refine PST_imp h fun Dn σ H ⟨F, I, S, ρ, dn, n, hw, k1, k2, k3, k4⟩ => ?_
  refine ⟨F, I, S, ρ, _, n, hw, ?_⟩
  rintro v H1 ⟨I1, S1, d1, e1, r1, q1, hw1⟩
  exact k1 _ _ ⟨I1, S1, _, e1, r1, (n.sl.mono e1).set i q1, hw1⟩
theorem dst_of (h : DS X B st t) : DST X B st t := L2.PST.of h
theorem dsst_of (h : DSs X B rest t) : DSsT X B rest t := PSsT.of h
theorem seqT_read {Dn : Ends} {σ : L2.St} {H : Hp} (h : sT X.K B (sSeq t u) Dn σ H) : tSeq (sT X.K B t) (sT X.K B u) Dn σ H := by
  obtain ⟨F, I, S, ρ, dn, n, hw, k1, k2, k3, k4⟩ := h
  refine ⟨F, I, S, ρ, _, n, hw, ?_, k2, k3, k4⟩
  rintro σ1 H1 ⟨I1, S1, ρ1, e1, r1, s1, hw1⟩
  exact ⟨F, I1, S1, ρ1, dn, n.env e1 r1 s1, hw1, fun _ _ z => k1 _ _ (z.from e1), fun _ _ z => k2 _ _ (z.from e1), fun _ _ z => k3 _ _ (z.from e1), fun _ _ z => k4 _ _ (z.from e1)⟩
theorem dsst_cons (h1 : DST X B st t) (h2 : DSsT X B rest u) : DSsT X B (st :: rest) (sSeq t u) := PSsT_imp (psst_cons h1 h2) fun Dn σ H h => seqT_read h
theorem dss_str {i j : Nat} {x c : Str} {p1 p2 : Pos} (hN : X.N.Nodup) (hi : X.N[i]? = some x) (hx : Loc X.env.scope x) (h2 : DSsT X B rest u)
    (hs : swapsWith (.Constant (.str c) j p1) (some (.Name x p2)) pos.line X.env = pure false := by rfl) (hf : X.fn x = true ∨ X.env.scope.names.lookup x = some .local := by first | exact .inl rfl | exact .inr rfl) :
    DSs X B (.Assign [.Name x p2] (.Constant (.str c) j p1) pos :: rest) (sSeq (sAsg (wC (.str c)) (gNm i)) u) :=
  PSs_imp (pss_str hN hi hx h2 hs hf) fun Dn σ H ⟨F, I, S, ρ, dn, n, hw, k1, k2, k3, k4⟩ =>
    ⟨F, I, S, ρ.set i (some (.str c)), dn, ⟨n.fr, n.en, n.rep, n.sl.set i (.str c)⟩, hw, k1, k2, k3, k4⟩
end
end DL
namespace DL
open PySem PySem.Spec PyProof.Rows L2 L2H HotX LamX DH
theorem lam_in {sc s1 scope : Scope} {cl : List (Str × Addr)} {C : Addr} {env : PySem.Env} (he : env.scope = sc) (h : lamSB (relS s1 sc) scope = true) : LamS (compEnvC s1 cl C env).scope scope := by
  subst he
  exact lamS_by (sc := relS s1 env.scope) h
end DL

set_option maxRecDepth 100000
set_option maxHeartbeats 4000000
/-! DX5: own exceptions as data: made, asked for their class, their text, their field. -/
namespace DL
open PySem PySem.Spec PyProof.Rows L2 L2H HotX LamX DH
/-- the classes of errors -/
def CLS : List Str := ["CornerError", "InvalidBody", "InvalidPoint", "InvalidSize", "InvalidNumber", "InvalidTurn", "InvalidSlope", "InvalidCorners", "InvalidStep", "InvalidPair", "InvalidIndex", "InvalidText", "NotEmpty", "Unlike", "NothingToUndo", "TooMany"]
/-- whether an error of the one is one of the other -/
def subX (x y : Str) : Bool := x == y || y == "CornerError"
structure ExcW (K : PySem.W.Frag) (mg : Str → Option Value) (x : Str) : Prop where
  ex : ∃ C : Addr, refOf K x = some C ∧ mg x = some (.ref C) ∧ PySem.W.excIn K C [.type "ValueError", .type "Exception", .type "BaseException", .type "object"] "ValueError.__new__" = true ∧ PySem.W.keepIn K (.ref C) = true
theorem excW_mk {K : PySem.W.Frag} {h : Heap} {mg : Str → Option Value} {x : Str} (X : K.In h) (G : h.Ns mainGlobals mg) (e : excAtB K x = true) : ExcW K mg x := by
  unfold excAtB at e
  split at e
  · rename_i C q
    simp only [Bool.and_eq_true, decide_eq_true_eq] at e
    exact ⟨C, q, refOf_mg X G q, e.1.1.1, e.1.1.2⟩
  · cases e
/-- what the written part says of the classes beside one another -/
structure SubK (K : PySem.W.Frag) (mg : Str → Option Value) : Prop where
  one : ∀ x ∈ CLS, ∀ C, refOf K x = some C → ExcC K C ∧ PySem.W.kitOne K (.ref C) (.type "ValueError") = some true ∧ XfC K C ∧ PySem.W.findIn K (.ref C) "limit" = some none ∧ PySem.W.findIn K (.ref C) "__str__" = some (some (.builtin "BaseException.__str__")) ∧
    ∀ y ∈ CLS, ∀ D, refOf K y = some D → PySem.W.kitOne K (.ref C) (.ref D) = some (subX x y)
  ref : ∀ y ∈ CLS, ∃ D, refOf K y = some D ∧ mg y = some (.ref D)
def subKB (K : PySem.W.Frag) : Bool := CLS.all fun x => match refOf K x with
  | some C => excCB K C && (decide (PySem.W.kitOne K (.ref C) (.type "ValueError") = some true) && (xfB K C && (decide (PySem.W.findIn K (.ref C) "limit" = some none) && (decide (PySem.W.findIn K (.ref C) "__str__" = some (some (.builtin "BaseException.__str__"))) && CLS.all fun y => match refOf K y with
    | some D => decide (PySem.W.kitOne K (.ref C) (.ref D) = some (subX x y))
    | none => false))))
  | none => false
theorem subK_mk {K : PySem.W.Frag} {h : Heap} {mg : Str → Option Value} (X : K.In h) (G : h.Ns mainGlobals mg) (e : subKB K = true) : SubK K mg := by
  unfold subKB at e
  rw [List.all_eq_true] at e
  refine ⟨fun x hx C hC => ?_, fun y hy => ?_⟩
  · have q := e x hx
    rw [hC] at q
    simp only [Bool.and_eq_true, decide_eq_true_eq, List.all_eq_true] at q
    refine ⟨excC_mk q.1, q.2.1, xfB_ok q.2.2.1, q.2.2.2.1, q.2.2.2.2.1, fun y hy D hD => ?_⟩
    have z := q.2.2.2.2.2 y hy
    rw [hD] at z
    exact of_decide_eq_true z
  · have q := e y hy
    cases z : refOf K y with
    | none => rw [z] at q; cases q
    | some D => exact ⟨D, rfl, refOf_mg X G z⟩
def wExc (x m : Str) : WE := fun _ _ S Φ => Φ (.exc x m) S
def isX (y : Str) (d : D) (k : Bool → Prop) : Prop := match d with
  | .exc x _ => x ∈ CLS ∧ k (subX x y)
  | .lim x _ => x ∈ CLS ∧ k (subX x y)
  | _ => False
def wIsX (y : Str) (we : WE) : WE := fun E ρ S Φ => we E ρ S fun d S1 => isX y d fun b => Φ (.bl b) S1
def wIsV (we : WE) : WE := fun E ρ S Φ => we E ρ S fun d S1 => isX "ValueError" d fun _ => Φ (.bl true) S1
def wTm (x : Str) (we : WE) : WE := fun E ρ S Φ => we E ρ S fun d S1 => match d with
  | .int i => Φ (.lim x i) S1
  | _ => False
def wLim (we : WE) : WE := fun E ρ S Φ => we E ρ S fun d S1 => match d with
  | .lim x i => x ∈ CLS ∧ Φ (.int i) S1
  | _ => False
def wStrX (we : WE) : WE := fun E ρ S Φ => we E ρ S fun d S1 => match d with
  | .exc x m => x ∈ CLS ∧ Φ (.str m) S1
  | _ => False
section
variable {X : Cx} {B : Bx} {e : Expr} {we : WE} {pos p p2 : Pos} {x y m : Str} {j k : Nat} {C fI : Addr}
theorem nt_tupX {xs : List V} : ∀ ps, HO.tup xs ≠ .tbl ps := fun _ z => nomatch z
theorem nt_xc {a C t : Addr} {d : Option Addr} : ∀ ps, xcO a C t d ≠ .tbl ps := fun ps z => by
  have z' : HO.ext _ = HO.tbl ps := z
  cases z'
theorem nt_xd {fs : List (Str × V)} : ∀ ps, HO.xd fs ≠ .tbl ps := fun _ z => nomatch z
theorem de_exc (h : ExcW X.K X.mg x) (hg : Gl X x) (hdb : (x == ("__debug__" : Str)) = false := by decide) (hs : starEach [.Constant (.str m) j p2] X.env = (false, eval (.Constant (.str m) j p2) X.env) :: starEach [] X.env := by rfl) : DE X B (.Call (.Name x p) [.Constant (.str m) j p2] [] pos) (wExc x m) := by
  obtain ⟨C, h0, h1, h2, h3⟩ := h.ex
  refine PE_imp (pe_excV PySem.F.excBase_ValueError h2 h1 h3 hg pe_str hs hdb) fun σ H Q ⟨F, I, S, ρ, Φ, n, hw, hq⟩ => ?_
  intro a t ha ht hat
  have ha2 : upd H t (.tup [.str m]) a = none := by rw [upd_ne hat]; exact ha
  have r1 := n.rep.new (o := .tup [.str m]) ht nt_tupX
  have r2 := r1.new (p := a) (o := xcO a C t none) ha2 nt_xc
  exact hq _ _ ⟨_, S, .exc x m, (n.rep.same ht).trans (r1.same ha2), r2, .exc h0 upd_same (.inl (.inl (by rw [upd_ne hat.symm]; exact upd_same))), hw⟩
theorem de_tm (T : Tm X.K X.prog X.mg x "limit" C fI) (hC : refOf X.K x = some C) (hr : Room (k + 1) X.A) (hg : Gl X x) (he : DE X B e we) (hdb : (x == ("__debug__" : Str)) = false := by decide) (hs : starEach [e] X.env = (false, eval e X.env) :: starEach [] X.env := by rfl) :
    DE X B (.Call (.Name x p) [e] [] pos) (wTm x we) := by
  refine PE_imp (pe_tm T hr hg he hs hdb) fun σ H Q ⟨F, I, S, ρ, Φ, n, hw, hq⟩ => ?_
  refine ⟨F, I, S, ρ, _, n, hw, ?_⟩
  rintro v H1 ⟨I1, S1, d, e1, r1, q1, hf⟩
  cases q1 with
  | int i =>
    intro a t dx ha hd hat
    have ha2 : upd H1 dx (.xd [("limit", .int i)]) a = none := by rw [upd_ne hat]; exact ha
    have r2 := r1.new (o := .xd [("limit", .int i)]) hd nt_xd
    have r3 := r2.new (p := a) (o := xcO a C t (some dx)) ha2 nt_xc
    exact hq _ _ ⟨_, S1, .lim x i, e1.trans ((r1.same hd).trans (r2.same ha2)), r3, .lim hC upd_same (by rw [upd_ne hat.symm]; exact upd_same), hf⟩
  | _ => exact False.elim hf
/-- what an error is, by its data -/
theorem exc_at {K : PySem.W.Frag} {T : List (Addr × Str)} {F I : Hp} {S : Sto} {H : Hp} (r : Rep K T F I S H) {v : V} {d : D} {k : Bool → Prop} (h : Den K I v d) (hz : isX y d k) :
    ∃ x a C t dd, x ∈ CLS ∧ k (subX x y) ∧ v = .ref a ∧ refOf K x = some C ∧ H a = some (xcO a C t dd) ∧ ∀ dx, dd = some dx → ∃ fs, H dx = some (.xd fs) := by
  cases h with
  | exc h0 h1 h2 => exact ⟨_, _, _, _, none, hz.1, hz.2, rfl, h0, r.imm _ _ h1, fun _ z => nomatch z⟩
  | lim h0 h1 h2 => exact ⟨_, _, _, _, some _, hz.1, hz.2, rfl, h0, r.imm _ _ h1, fun dx z => by cases z; exact ⟨_, r.imm _ _ h2⟩⟩
  | _ => exact False.elim hz
theorem de_isX (T : SubK X.K X.mg) (hy : y ∈ CLS) (hg : Gl X "isinstance") (hm : X.mg "isinstance" = none) (hv : bootBuiltins "isinstance" = some (.builtin "isinstance")) (he : DE X B e we) (hgy : Gl X y) (hdy : (y == ("__debug__" : Str)) = false := by decide)
    (hs : starEach [e, .Name y p2] X.env = (false, eval e X.env) :: starEach [.Name y p2] X.env := by rfl) (hs2 : starEach [.Name y p2] X.env = (false, eval (.Name y p2) X.env) :: starEach [] X.env := by rfl) (hpl : (backTo pos (starEach [.Name y p2] X.env)).any (·.1) = false := by rfl) :
    DE X B (.Call (.Name "isinstance" p) [e, .Name y p2] [] pos) (wIsX y we) := by
  obtain ⟨D, hD, hmD⟩ := T.ref y hy
  refine PE_imp (pe_callB call_isX hg hm hv (pa_cons he (pa_cons (pe_glob (v := .ref D) hgy hmD rfl hdy) pa_nil hs2) hs) (by decide) (by decide) hs hpl) fun σ H Q ⟨F, I, S, ρ, Φ, n, hw, hq⟩ => ?_
  refine ⟨F, I, S, ρ, _, n, hw, ?_⟩
  rintro v H1 ⟨I1, S1, d, e1, r1, q1, hf⟩
  obtain ⟨x, a, C, t, dd, hx, hk, rfl, hC, ha, hd⟩ := exc_at r1 q1 hf
  obtain ⟨z1, _, _, _, _, z2⟩ := T.one x hx C hC
  exact ⟨a, C, t, dd, .ref D, .ref D, subX x y, rfl, ha, hd, z1, fun u hu => hu, z2 y hy D hD, hq _ _ ⟨I1, S1, .bl _, e1, r1, .bl _, hk⟩⟩
theorem de_isVX (T : SubK X.K X.mg) (hg : Gl X "isinstance") (hm : X.mg "isinstance" = none) (hv : bootBuiltins "isinstance" = some (.builtin "isinstance")) (he : DE X B e we) (hgy : Gl X "ValueError") (hmy : X.mg "ValueError" = none)
    (hs : starEach [e, .Name "ValueError" p2] X.env = (false, eval e X.env) :: starEach [.Name "ValueError" p2] X.env := by rfl) (hs2 : starEach [.Name "ValueError" p2] X.env = (false, eval (.Name "ValueError" p2) X.env) :: starEach [] X.env := by rfl) (hpl : (backTo pos (starEach [.Name "ValueError" p2] X.env)).any (·.1) = false := by rfl) :
    DE X B (.Call (.Name "isinstance" p) [e, .Name "ValueError" p2] [] pos) (wIsV we) := by
  refine PE_imp (pe_callB call_isX hg hm hv (pa_cons he (pa_cons (pe_bltn (v := .ty "ValueError") hgy hmy PyProof.Rows.Boot.«ValueError» rfl) pa_nil hs2) hs) (by decide) (by decide) hs hpl) fun σ H Q ⟨F, I, S, ρ, Φ, n, hw, hq⟩ => ?_
  refine ⟨F, I, S, ρ, _, n, hw, ?_⟩
  rintro v H1 ⟨I1, S1, d, e1, r1, q1, hf⟩
  obtain ⟨x, a, C, t, dd, hx, hk, rfl, hC, ha, hd⟩ := exc_at r1 q1 hf
  obtain ⟨z1, z2, _⟩ := T.one x hx C hC
  exact ⟨a, C, t, dd, .ty "ValueError", .type "ValueError", true, rfl, ha, hd, z1, fun u hu => hu, z2, hq _ _ ⟨I1, S1, .bl _, e1, r1, .bl _, hk⟩⟩
theorem de_lim (T : SubK X.K X.mg) (he : DE X B e we) (hb : attributeBase e "limit" X.env (eval e X.env) = eval e X.env := by rfl) : DE X B (.Attribute e "limit" pos) (wLim we) := by
  refine PE_imp (pe_xcF he hb) fun σ H Q ⟨F, I, S, ρ, Φ, n, hw, hq⟩ => ?_
  refine ⟨F, I, S, ρ, _, n, hw, ?_⟩
  rintro v H1 ⟨I1, S1, d, e1, r1, q1, hf⟩
  cases q1 with
  | lim h0 h1 h2 =>
    obtain ⟨_, _, z3, z4, _⟩ := T.one _ hf.1 _ h0
    exact ⟨_, _, _, _, _, _, rfl, r1.imm _ _ h1, r1.imm _ _ h2, z3, z4, rfl, hq _ _ ⟨I1, S1, .int _, e1, r1, .int _, hf.2⟩⟩
  | _ => exact False.elim hf
def rStrX (K : PySem.W.Frag) : List V → Hp → VK → Prop := fun xs H Q => ∃ (a C t : Addr) (m : Str), xs = [.ref a] ∧ H a = some (xcO a C t none) ∧ SqT K H t [.str m] ∧ PySem.W.findIn K (.ref C) "__str__" = some (some (.builtin "BaseException.__str__")) ∧ PySem.W.subIn K (.ref C) (.type "BaseException") = some true ∧ Q (.str m) H
theorem call_strX (hu : X.A.units + 2 < cLine) : CallR X (.type "str") (rStrX X.K) := by
  intro pins s σ H xs us Q I r h
  obtain ⟨a, C, t, m, rfl, ha, ht, hs, hB, q⟩ := h
  cases r with
  | cons rx rr =>
    cases rr
    cases rx
    have hget := xcO_at I.hok ha
    obtain ⟨its, ri, ⟨ot, ho, hc, nn, hd⟩, _⟩ := I.tuple ht
    cases ri with
    | cons r1 r2 =>
      cases r2
      obtain ⟨tk, rfl⟩ := r1
      exact PySem.P.str_of_C_one hu ⟨I.kIn, _, _, hget, rfl, rfl, rfl⟩ ⟨ot, nn, ho, hc, hd⟩ hs hB ⟨.str m, H, I, ⟨tk, rfl⟩, q⟩
theorem de_strX (T : SubK X.K X.mg) (hu : X.A.units + 2 < cLine) (hg : Gl X "str") (hm : X.mg "str" = none) (hv : bootBuiltins "str" = some (.type "str")) (he : DE X B e we)
    (hs : starEach [e] X.env = (false, eval e X.env) :: starEach [] X.env := by rfl) (hpl : (backTo pos (starEach [] X.env)).any (·.1) = false := by rfl) : DE X B (.Call (.Name "str" p) [e] [] pos) (wStrX we) := by
  refine PE_imp (pe_callTy (call_strX hu) hg hm hv (pa_cons he pa_nil hs) (by decide) (by decide) hs hpl) fun σ H Q ⟨F, I, S, ρ, Φ, n, hw, hq⟩ => ?_
  refine ⟨F, I, S, ρ, _, n, hw, ?_⟩
  rintro v H1 ⟨I1, S1, d, e1, r1, q1, hf⟩
  cases q1 with
  | exc h0 h1 h2 =>
    obtain ⟨z1, _, z3, _, z5, _⟩ := T.one _ hf.1 _ h0
    exact ⟨_, _, _, _, rfl, r1.imm _ _ h1, seqT r1.imm h2, z5, z1.hs, hq _ _ ⟨I1, S1, .str _, e1, r1, .str _, hf.2⟩⟩
  | _ => exact False.elim hf
/-- over the script -/
def wIScr (kl : D → List Int → Prop) (i : Nat) : WI := fun _ ρ S Φ => match ρ[i]? with
  | some (some d) => ∃ ns, kl d ns ∧ ns.length ≤ sizeLine ∧ Φ (ns.map D.int) (fun _ => True) S
  | _ => False
theorem jok_ints {K : PySem.W.Frag} {T : List (Addr × Str)} {I : Hp} {a : Addr} {ns : List Int} (h : ∀ (F I' H' : Hp) (S' : Sto), Same I I' → Rep K T F I' S' H' → SqL K H' a (ns.map V.int)) : JOk K T (Itl K a) I (ns.map D.int) (fun _ => True) := by
  intro F' i H' I' S' s r' _
  have h1 := h F' I' H' S' s r'
  refine ⟨fun d hd => ?_, fun hl => ⟨_, h1, by rw [List.length_map] at hl ⊢; exact hl⟩⟩
  rw [List.getElem?_map] at hd
  cases q : ns[i]? with
  | none => rw [q] at hd; cases hd
  | some n =>
    rw [q] at hd
    cases hd
    have q1 : (ns.map V.int)[i]? = some (.int n) := by rw [List.getElem?_map, q]; rfl
    refine ⟨⟨_, _, h1, q1⟩, fun x H'' ⟨z1, z2⟩ => ?_⟩
    subst z1
    have q3 := z2 _ h1
    rw [q1] at q3
    cases q3
    exact ⟨I', Same.refl _, r', .int n⟩
theorem di_scr {x : Str} {tg : Expr} (i : Nat) (hN : X.N[i]? = some x := by rfl) (hv : Vis X.env.scope x := by first | exact Or.inl rfl | exact Or.inr (Or.inl rfl) | exact Or.inr (Or.inr rfl)) (hd : (x == ("__debug__" : Str)) = false := by decide)
    (hcd : (x == ("__classdict__" : Str)) = false := by decide) : DI X B tg (.Name x pos) (wIScr (scrOk X.K) i) :=
  PI_imp (pi_seq (pe_var hN hv hd hcd)) fun σ H R ⟨F, I, S, ρ, Φ, n, hw, hq⟩ => by
    unfold wIScr at hw
    split at hw
    · rename_i d g2
      obtain ⟨v, e2, q2⟩ := n.sl.get i _ g2
      obtain ⟨ns, hk, hl, hf⟩ := hw
      have key : ∃ b, v = .ref b ∧ SqL X.K H b (ns.map V.int) ∧ ∀ (F I' H' : Hp) (S' : Sto), Same I I' → Rep X.K B.T F I' S' H' → SqL X.K H' b (ns.map V.int) := by
        rcases hk with rfl | ⟨b, rfl, hk⟩
        · cases q2 with
          | lst k1 k2 =>
            cases k2.ints
            exact ⟨_, rfl, .inl (rdMono n.rep.imm k1), fun F I' H' S' s r' => .inl (rdMono r'.imm (rdMono s k1))⟩
        · cases q2 with
          | ptr _ => exact ⟨_, rfl, .inr hk, fun F I' H' S' s r' => .inr hk⟩
      obtain ⟨b, ev, hb, hz⟩ := key
      exact ⟨v, e2, .inl ⟨b, ev, ⟨_, hb⟩, hq _ _ ⟨I, S, ns.map D.int, _, Same.refl _, n.rep, jok_ints hz, by rw [List.length_map]; exact hl, hf⟩⟩⟩
    · exact hw.elim
end
end DL

set_option maxRecDepth 100000
set_option maxHeartbeats 4000000
/-! DX6: TooMany by what the written part says. -/
namespace DL
open PySem PySem.Spec PyProof.Rows L2 L2H HotX LamX DH
structure TmE (K : PySem.W.Frag) (P : Program) (mg : Str → Option Value) : Prop where
  ex : ∃ C fI : Addr, refOf K "TooMany" = some C ∧ Tm K P mg "TooMany" "limit" C fI
/-- what is left to be asked of the written part -/
def tmRest (K : PySem.W.Frag) (P : Program) (C fI co : Addr) (bm : List Value) (qual file : Str) (params : Arguments) (sc : Scope) (p3 p5 : Pos) : Bool :=
  PySem.W.keepIn K (.ref C) && (decide (PySem.W.typeIn K (.ref fI) = some (.type "function")) && (decide (PySem.W.subIn K (.ref C) (.type "BaseException") = some true) && (decide (PySem.W.typeIn K (.ref C) = some (.type "type")) && (PySem.HandSPX.refsVE bm &&
  (decide (PySem.W.findIn K (.ref C) "__setattr__" = some (some (.builtin "object.__setattr__"))) && (decide (PySem.W.findIn K (.ref C) "limit" = some none) && (decide (PySem.W.nsIn K mainGlobals "super" = some none) && (decide (PySem.W.nsIn K cStatics "thirdparty.any" = some none) &&
  (decide (PySem.W.ks_superIn K C C "__init__" = some (some (.builtin "ValueError.__init__"))) && (decide (PySem.W.subIn K (.ref C) (.type "ValueError") = some true) && (decide (PySem.W.mroIn K C (.ref C) = some true) && (!(P.main.scope.names.lookup ("super" : Str)).isSome &&
  (PySem.W.codeIn K (.ref co) qual && (((P.main.file : Str) == file) && ((params.posonlyargs ++ params.args).head?.any (fun a => decide (a.arg = ("self" : Str))) && (decide (sc.names.lookup ("super" : Str) = some .globalImplicit) && (decide (sc.names.lookup ("__class__" : Str) = some .free) &&
  (decide (sc.names.lookup ("self" : Str) = some .local) && (decide (sc.names.lookup ("limit" : Str) = some .local) && (decide (sc.kind = .function) && (sc.names.all (fun y => !decide (y.2 = .cell)) && (!sc.isCoroutine && (!sc.isGenerator && (p3.endLine == p5.line))))))))))))))))))))))))
section
variable {K : PySem.W.Frag} {P : Program} {h : Heap} {mg : Str → Option Value} {C f co cc : Addr} {oc ccl cl dV kV doc pm ct : Value} {od an cdd cld dd : Option Addr} {osl ccs csl : Array (Option Value)} {vs : Array Value} {qual file m nm q : Str} {params : Arguments} {sc : Scope} {tf : Tok} {j : Nat}
variable {p1 p2 p3 p4 p5 p6 p7 p8 p9 p10 : Pos} {N : Addr} {bs bm : List Value} {sn : List Str} {sub : List Value} {ab : Bool} {col : Option Bool} {k0 k1 k2 k3 k5 : Option Value}
theorem tmE_mk (X : K.In h) (G : h.Ns mainGlobals mg) (a : PySem.W.nsIn K mainGlobals "TooMany" = some (some (.ref C))) (i : PySem.W.findIn K (.ref C) "__init__" = some (some (.ref f)))
    (l : K.lookup f = some ⟨oc, od, .func (PySem.W.ksFn "__init__" qual params (PySem.TMX.tmBody "limit" m j p1 p2 p3 p4 p5 p6 p7 p8 p9 p10) sc dV kV doc pm an (.ref co) ct cc), osl⟩)
    (c : K.lookup co = some ⟨ccl, cdd, .fields vs, ccs⟩) (r : vs[2]? = some (.str file tf)) (e : K.lookup cc = some ⟨cl, cld, .cell (some (.ref C)), csl⟩)
    (z : K.lookup C = some (excClassObj nm q C N bs bm true sn sub ab col dd k0 k1 k2 k3 k5 "ValueError.__new__"))
    (b : ∀ e u : Value, bindArgs (PySem.W.ksFn "__init__" qual params (PySem.TMX.tmBody "limit" m j p1 p2 p3 p4 p5 p6 p7 p8 p9 p10) sc dV kV doc pm an (.ref co) ct cc) ⟨[e, u], []⟩ = (pure [(("self" : Str), e), (("limit" : Str), u)] : Sem (List (Str × Value))))
    (t : tmRest K P C f co bm qual file params sc p3 p5 = true) : TmE K P mg := by
  unfold tmRest at t
  simp only [Bool.and_eq_true, decide_eq_true_eq, Bool.not_eq_true', List.all_eq_true, decide_eq_false_iff_not] at t
  obtain ⟨t1, t2, t3, t4, t5, t6, t7, t8, t9, t10, t11, t12, t13, t14, t15, t16, t17, t18, t19, t20, t21, t22, t23, t24, t25⟩ := t
  obtain ⟨ar, e1, e2⟩ := (Option.any_eq_true _ _).mp t16
  have hC : refOf K "TooMany" = some C := by unfold refOf; rw [a]
  refine ⟨⟨C, f, hC, ⟨PySem.W.mg_of X G a, t1, i, t2, t3, t4, ⟨_, _, _, _, _, _, _, _, _, _, _, _, _, _, _, z, t5⟩, t6, t7, PySem.W.mg_none_of X G t8, t9, t10, t11, t12, t13, by decide, by decide, ?_⟩⟩⟩
  exact ⟨_, _, _, _, _, _, _, _, _, _, _, _, _, _, _, _, _, _, _, _, _, _, _, _, _, _, _, _, _, _, _, _, _, _, _, _, l, t14, c, r, t15, e, e1, of_decide_eq_true e2, t17, t18, t19, t20, t21, t22, t23, t24, t25, fun e u s => .of_eq (b e u)⟩
end
section
variable {X : Cx} {B : Bx} {e : Expr} {we : WE} {pos p : Pos} {k : Nat}
theorem de_tmE (h : TmE X.K X.prog X.mg) (hr : Room (k + 1) X.A) (hg : Gl X "TooMany") (he : DE X B e we) (hs : starEach [e] X.env = (false, eval e X.env) :: starEach [] X.env := by rfl) : DE X B (.Call (.Name "TooMany" p) [e] [] pos) (wTm "TooMany" we) := by
  obtain ⟨C, fI, h1, h2⟩ := h.ex
  exact de_tm h2 h1 hr hg he (by decide) hs
theorem units2 {A : Around} (h : A.units + 64 < cLine) : A.units + 2 < cLine := by omega
end
end DL

set_option maxRecDepth 100000
set_option maxHeartbeats 4000000
/-! DV: the words reckoned from the head on; what follows is not looked at before its turn. -/
namespace DL
open PySem PySem.Spec PyProof.Rows L2 L2H HotX LamX DH
/-! ### heads that hold what follows -/
structure Pr (p q : Prop) : Type where
abbrev Hd {α : Sort u} (a : α) : Type := Unit
def opK (f : Sto → D → D → (D → Prop) → Prop) (S : Sto) (x y : D) (k : D → Prop) (_ : Hd k) : Prop := f S x y k
def unK (f : Sto → D → (D → Prop) → Prop) (S : Sto) (x : D) (k : D → Prop) (_ : Hd k) : Prop := f S x k
def fnK (f : Sto → List D → (D → Prop) → Prop) (S : Sto) (x : List D) (k : D → Prop) (_ : Hd k) : Prop := f S x k
def slK (S : Sto) (x : D) (lo hi : Option Int) (k : D → Prop) (_ : Hd k) : Prop := fSl S x lo hi k
def chK (d : D) (p q : Prop) (_ : Hd (Pr p q)) : Prop := match d with
  | .bl true => p
  | .bl false => q
  | _ => False
def forK (g : D → Ro → Sto → (Ro → Sto → Prop) → Prop) (body : DEnds → Ro → Sto → Prop) (keep : Sto → Prop) (D' : DEnds) (ds : List D) (ρ : Ro) (S : Sto) (_ : Hd (g, body, keep, D')) : Prop := forD g body keep D' ds ρ S
def whK (c : WT) (b : WS) (E : WR) (Dn : DEnds) (ρ : Ro) (S : Sto) (_ : Hd (c, b, E, Dn)) : Prop := sWhile c b E Dn ρ S
def app (W : WF) (R : WR) (ds : List D) (S : Sto) (Φ : D → Sto → Prop) (_ : Hd (R, Φ)) : Prop := W R ds S Φ
def setK (ρ : Ro) (i : Nat) (v : Option D) (k : Ro → Prop) (_ : Hd k) : Prop := k (ρ.set i v)
def wipeK (ρ : Ro) (vs : List Nat) (k : Ro → Prop) (_ : Hd k) : Prop := k (wipeE ρ vs)
def startK (m : Nat) (ds : List D) (k : Ro → Prop) (_ : Hd k) : Prop := k (estart m ds)
def iteK (b : Bool) (p q : Prop) (_ : Hd (Pr p q)) : Prop := if b = true then p else q
def tstK (d : D) (k : Bool → Prop) (_ : Hd k) : Prop := match d with
  | .bl b => k b
  | _ => False
def partK (d : D) (k : Option Int → Prop) (_ : Hd k) : Prop := match d with
  | .int i => k (some i)
  | _ => False
def seqK (S : Sto) (d : D) (k : List D → (Sto → Prop) → Prop) (_ : Hd k) : Prop := match res S d with
  | .lst ds => k ds (keepOf d ds)
  | .tup ds => k ds (fun _ => True)
  | .str z => z.length ≤ sizeLine ∧ k (signsD z) (fun _ => True)
  | _ => False
def rngK (ds : List D) (k : List D → Prop) (_ : Hd k) : Prop := match ds with
  | [.int n] => -(2 ^ 62) ≤ n ∧ n.toNat ≤ sizeLine ∧ k (rngD 0 n.toNat)
  | [.int i, .int j] => (-(2 ^ 62) ≤ i ∧ i < 2 ^ 62 ∧ -(2 ^ 62) ≤ j ∧ j < 2 ^ 62) ∧ (j - i).toNat ≤ sizeLine ∧ k (rngD i (j - i).toNat)
  | _ => False
def zipK (S : Sto) (ds : List D) (k : List D → (Sto → Prop) → Prop) (_ : Hd k) : Prop := match ds with
  | [d, e] => (match res S d, res S e with
    | .lst xs, .lst ys => k (zipD xs ys) (fun S => keepOf d xs S ∧ keepOf e ys S)
    | .tup xs, .tup ys => k (zipD xs ys) (fun _ => True)
    | _, _ => False)
  | _ => False
def zipL (xs ys : List D) (k : List D → Prop) (_ : Hd k) : Prop := k (zipD xs ys)
def par2 (ds : List D) (k : D → D → Prop) (_ : Hd k) : Prop := match ds with
  | [d, e] => k d e
  | _ => False
def par3 (ds : List D) (k : D → D → D → Prop) (_ : Hd k) : Prop := match ds with
  | [d, e, f] => k d e f
  | _ => False
def lenK (xs : List D) (n : Nat) (k : Int → Prop) (_ : Hd k) : Prop := k ((n + xs.length : Nat) : Int)
def blsK (xs : List D) (k : List Bool → Prop) (_ : Hd k) : Prop := match blsOf xs with
  | some ns => k ns
  | none => False
def intsK (xs : List D) (k : List Int → Prop) (_ : Hd k) : Prop := match intsOf xs with
  | some ns => k ns
  | none => False
def atK (xs : List D) (i : Int) (k : D → Prop) (_ : Hd k) : Prop := match atI xs i with
  | some d => k d
  | none => False
def cutK (xs : List D) (lo hi : Option Int) (k : List D → Prop) (_ : Hd k) : Prop := k (cutD xs lo hi)
def revK (xs : List D) (k : List D → Prop) (_ : Hd k) : Prop := k xs.reverse
def appK (xs ys : List D) (k : List D → Prop) (_ : Hd k) : Prop := k (xs ++ ys)
def cntK (xs : List D) (n : Nat) (p : Prop) (_ : Hd p) : Prop := xs.length = n ∧ p
def errK (o : Option Str) (k : Str → Prop) (_ : Hd k) : Prop := match o with
  | some t => k t
  | none => False
def andK (d : D) (p q : Prop) (_ : Hd (Pr p q)) : Prop := match d with
  | .bl true => p
  | .bl false => q
  | _ => False
def negK (d : D) (k : Bool → Prop) (_ : Hd k) : Prop := match d with
  | .bl b => k (!b)
  | _ => False
def compR (g : D → Ro → Sto → (Ro → Sto → Prop) → Prop) (tt : Ro → Sto → (Bool → Sto → Prop) → Prop) (te : Ro → Sto → (D → Sto → Prop) → Prop) (keep : Sto → Prop) (ρ0 : Ro) : List D → Sto → (List D → Sto → Prop) → Prop
  | [], S, Φ => keep S ∧ Φ [] S
  | d :: r, S, Φ => keep S ∧ g d ρ0 S fun ρ1 S1 => tt ρ1 S1 fun b S2 => iteK b (te ρ1 S2 fun y S3 => compR g tt te keep ρ0 r S3 fun ys S4 => Φ (y :: ys) S4) (compR g tt te keep ρ0 r S2 Φ) ()
def compK (g : D → Ro → Sto → (Ro → Sto → Prop) → Prop) (tt : Ro → Sto → (Bool → Sto → Prop) → Prop) (te : Ro → Sto → (D → Sto → Prop) → Prop) (keep : Sto → Prop) (ρ0 : Ro) (ds : List D) (S : Sto) (Φ : List D → Sto → Prop) (_ : Hd (g, tt, te, keep, Φ)) : Prop := compR g tt te keep ρ0 ds S Φ
def negV (d : D) (k : Bool → Prop) (_ : Hd k) : Prop := match d with
  | .bl b => k (!b)
  | .int i => k (!(i != 0))
  | _ => False
def ptrK (S : Sto) (o : D) (k : Addr → List D → Prop) (_ : Hd k) : Prop := match o with
  | .ptr p => (match S p with
    | some (.lst ds) => k p ds
    | _ => False)
  | _ => False
/-! ### how a head goes on -/
section
variable {E : WR} {ρ : Ro} {S : Sto} {W : WF} {wa wb wc wl : WE} {ws : WA} {t u : WT} {d e x y : D} {ds xs ys : List D} {n m i j : Nat} {Dn : DEnds} {s1 s2 : WS} {g : WG} {gs : WGs} {wi : WI}
theorem e_var0 {Φ : D → Sto → Prop} : (wVar 0 E (some d :: ρ) S Φ) = (Φ d S) := rfl
theorem e_varS {Φ : D → Sto → Prop} {v : Option D} : (wVar (n + 1) E (v :: ρ) S Φ) = (wVar n E ρ S Φ) := rfl
theorem e_c {Φ : D → Sto → Prop} : (wC d E ρ S Φ) = (Φ d S) := rfl
theorem e_bin {Φ : D → Sto → Prop} {f : Sto → D → D → (D → Prop) → Prop} : (wBin f wa wb E ρ S Φ) = (wa E ρ S fun x S1 => wb E ρ S1 fun y S2 => opK f S2 x y (fun z => Φ z S2) ()) := rfl
theorem e_una {Φ : D → Sto → Prop} {f : Sto → D → (D → Prop) → Prop} : (wUna f wa E ρ S Φ) = (wa E ρ S fun x S1 => unK f S1 x (fun z => Φ z S1) ()) := rfl
theorem e_tst {Φ : Bool → Sto → Prop} : (wTst wa E ρ S Φ) = (wa E ρ S fun d S1 => tstK d (fun b => Φ b S1) ()) := rfl
theorem chK_b {b : Bool} {p q : Prop} {h : Hd (Pr p q)} : chK (.bl b) p q h = iteK b p q () := by cases b <;> simp [chK, iteK]
theorem e_chain {Φ : D → Sto → Prop} {f f2 : Sto → D → D → (D → Prop) → Prop} : (wChain f f2 wa wb wc E ρ S Φ) = (wa E ρ S fun x S1 => wb E ρ S1 fun y S2 => opK f S2 x y (fun z => chK z (wc E ρ S2 fun u S3 => opK f2 S3 y u (fun d => Φ d S3) ()) (Φ (.bl false) S2) ()) ()) := by unfold wChain; rfl
theorem e_andT {Φ : Bool → Sto → Prop} : (wAndT t u E ρ S Φ) = (t E ρ S fun c S1 => iteK c (u E ρ S1 Φ) (Φ false S1) ()) := rfl
theorem e_orT {Φ : Bool → Sto → Prop} : (wOrT t u E ρ S Φ) = (t E ρ S fun c S1 => iteK c (Φ true S1) (u E ρ S1 Φ) ()) := rfl
theorem e_notT {Φ : Bool → Sto → Prop} : (wNotT t E ρ S Φ) = (t E ρ S fun c S1 => Φ (!c) S1) := rfl
theorem e_and {Φ : D → Sto → Prop} : (wAnd wa wb E ρ S Φ) = (wa E ρ S fun x S1 => chK x (wb E ρ S1 Φ) (Φ (.bl false) S1) ()) := rfl
theorem e_or {Φ : D → Sto → Prop} : (wOr wa wb E ρ S Φ) = (wa E ρ S fun x S1 => chK x (Φ (.bl true) S1) (wb E ρ S1 Φ) ()) := rfl
theorem e_not {Φ : D → Sto → Prop} : (wNot wa E ρ S Φ) = (wa E ρ S fun x S1 => negK x (fun b => Φ (.bl b) S1) ()) := rfl
theorem negK_b {b : Bool} {k : Bool → Prop} {h : Hd k} : (negK (.bl b) k h) = (k (!b)) := rfl
theorem tstK_b {b : Bool} {k : Bool → Prop} {h : Hd k} : (tstK (.bl b) k h) = (k b) := rfl
theorem e_if {Φ : D → Sto → Prop} : (wIf t wa wb E ρ S Φ) = (t E ρ S fun c S1 => iteK c (wa E ρ S1 Φ) (wb E ρ S1 Φ) ()) := rfl
theorem iteK_t {p q : Prop} {h : Hd (Pr p q)} : (iteK true p q h) = (p) := if_pos rfl
theorem iteK_f {p q : Prop} {h : Hd (Pr p q)} : (iteK false p q h) = (q) := if_neg (by decide)
theorem e_nil {Φ : List D → Sto → Prop} : (wNil E ρ S Φ) = (Φ [] S) := rfl
theorem e_cons {Φ : List D → Sto → Prop} : (wCons wa ws E ρ S Φ) = (wa E ρ S fun x S1 => ws E ρ S1 fun xs S2 => Φ (x :: xs) S2) := rfl
theorem e_tup {Φ : D → Sto → Prop} : (wTup ws E ρ S Φ) = (ws E ρ S fun ds S1 => Φ (.tup ds) S1) := rfl
theorem e_lst {Φ : D → Sto → Prop} : (wLst ws E ρ S Φ) = (ws E ρ S fun ds S1 => Φ (.lst ds) S1) := rfl
theorem e_lstM {Φ : D → Sto → Prop} : (wLstM ws E ρ S Φ) = (ws E ρ S fun ds S1 => ∀ p, S1 p = none → Φ (.ptr p) (sput S1 p (.lst ds))) := rfl
theorem e_fn {Φ : D → Sto → Prop} {f : Sto → List D → (D → Prop) → Prop} : (wFn f ws E ρ S Φ) = (ws E ρ S fun ds S1 => fnK f S1 ds (fun d => Φ d S1) ()) := rfl
theorem e_noPart {Φ : Option Int → Sto → Prop} : (wNoPart E ρ S Φ) = (Φ none S) := rfl
theorem e_part {Φ : Option Int → Sto → Prop} : (wPart wa E ρ S Φ) = (wa E ρ S fun d S1 => partK d (fun o => Φ o S1) ()) := rfl
theorem partK_i {i : Int} {k : Option Int → Prop} {h : Hd k} : (partK (.int i) k h) = (k (some i)) := rfl
theorem e_sl {Φ : D → Sto → Prop} {wl wh : WO} : (wSl wa wl wh E ρ S Φ) = (wa E ρ S fun x S1 => wl E ρ S1 fun lo S2 => wh E ρ S2 fun hi S3 => slK S3 x lo hi (fun d => Φ d S3) ()) := rfl
theorem fSl_l {Φ : D → Prop} {lo hi : Option Int} {h : Hd Φ} : (slK S (.lst xs) lo hi Φ h) = (cutK xs lo hi (fun ys => Φ (.lst ys)) ()) := rfl
theorem fSl_t {Φ : D → Prop} {lo hi : Option Int} {h : Hd Φ} : (slK S (.tup xs) lo hi Φ h) = (cutK xs lo hi (fun ys => Φ (.tup ys)) ()) := rfl
theorem e_call {Φ : D → Sto → Prop} : (wCall W ws E ρ S Φ) = (ws E ρ S fun ds S1 => app W E ds S1 Φ ()) := rfl
theorem e_iseq {Φ : List D → (Sto → Prop) → Sto → Prop} : (wISeq wa E ρ S Φ) = (wa E ρ S fun d S1 => seqK S1 d (fun ds keep => Φ ds keep S1) ()) := by unfold wISeq seqK; rfl
theorem seqK_l {k : List D → (Sto → Prop) → Prop} {h : Hd k} : (seqK S (.lst xs) k h) = (k xs (fun _ => True)) := rfl
theorem seqK_t {k : List D → (Sto → Prop) → Prop} {h : Hd k} : (seqK S (.tup xs) k h) = (k xs (fun _ => True)) := rfl
theorem e_irng {Φ : List D → (Sto → Prop) → Sto → Prop} : wIRng ws E ρ S Φ = ws E ρ S fun ds S1 => rngK ds (fun r => Φ r (fun _ => True) S1) () := rfl
theorem e_izip {Φ : List D → (Sto → Prop) → Sto → Prop} : wIZip ws E ρ S Φ = ws E ρ S fun ds S1 => zipK S1 ds (fun r keep => Φ r keep S1) () := by unfold wIZip zipK; rfl
theorem zipK_l {k : List D → (Sto → Prop) → Prop} {h : Hd k} : zipK S [.lst xs, .lst ys] k h = zipL xs ys (fun r => k r (fun _ => True)) () := by
  have e : (fun S => keepOf (.lst xs) xs S ∧ keepOf (.lst ys) ys S) = fun _ : Sto => True := by funext S; exact propext ⟨fun _ => trivial, fun _ => ⟨trivial, trivial⟩⟩
  show k (zipD xs ys) (fun S => keepOf (.lst xs) xs S ∧ keepOf (.lst ys) ys S) = _
  rw [e]; rfl
theorem zipK_t {k : List D → (Sto → Prop) → Prop} {h : Hd k} : zipK S [.tup xs, .tup ys] k h = zipL xs ys (fun r => k r (fun _ => True)) () := rfl
theorem zipL_c {k : List D → Prop} {h : Hd k} : zipL (x :: xs) (y :: ys) k h = zipL xs ys (fun r => k (.tup [x, y] :: r)) () := rfl
theorem zipL_n {k : List D → Prop} {h : Hd k} : zipL [] ys k h = k [] := rfl
theorem comp_K {gg : D → Ro → Sto → (Ro → Sto → Prop) → Prop} {tt : Ro → Sto → (Bool → Sto → Prop) → Prop} {te : Ro → Sto → (D → Sto → Prop) → Prop} {keep : Sto → Prop} {ρ0 : Ro} : ∀ (ds acc : List D) (S : Sto) (Φ : List D → Sto → Prop), compD gg tt te keep ρ0 ds acc S Φ = compR gg tt te keep ρ0 ds S fun ys S' => Φ (acc ++ ys) S'
  | [], acc, S, Φ => by
    show (keep S ∧ Φ acc S) = (keep S ∧ Φ (acc ++ []) S)
    rw [List.append_nil]
  | d :: r, acc, S, Φ => by
    unfold compD compR
    congr 2
    funext ρ1 S1
    congr 1
    funext b S2
    unfold iteK
    rw [comp_K r acc S2 Φ]
    have e : (fun y S3 => compD gg tt te keep ρ0 r (acc ++ [y]) S3 Φ) = fun y S3 => compR gg tt te keep ρ0 r S3 fun ys S4 => Φ (acc ++ (y :: ys)) S4 := by
      funext y S3
      rw [comp_K r (acc ++ [y]) S3 Φ]
      congr 1
      funext ys S4
      rw [List.append_assoc]; rfl
    rw [e]
theorem e_comp {Φ : D → Sto → Prop} {vs : List Nat} : wComp wi g t wa vs E ρ S Φ = wi E ρ S fun ds keep S1 => wipeK ρ vs (fun ρ0 => compK (g noE) (t noE) (wa noE) keep ρ0 ds S1 (fun acc S2 => Φ (.lst acc) S2) ()) () := by
  unfold wComp wipeK compK
  congr 1
  funext ds keep S1
  rw [comp_K]
  rfl
theorem compK_n {gg : D → Ro → Sto → (Ro → Sto → Prop) → Prop} {tt : Ro → Sto → (Bool → Sto → Prop) → Prop} {te : Ro → Sto → (D → Sto → Prop) → Prop} {keep : Sto → Prop} {Φ : List D → Sto → Prop} {h : Hd (gg, tt, te, keep, Φ)} : compK gg tt te keep ρ [] S Φ h = (keep S ∧ Φ [] S) := rfl
theorem compK_c {gg : D → Ro → Sto → (Ro → Sto → Prop) → Prop} {tt : Ro → Sto → (Bool → Sto → Prop) → Prop} {te : Ro → Sto → (D → Sto → Prop) → Prop} {keep : Sto → Prop} {Φ : List D → Sto → Prop} {h : Hd (gg, tt, te, keep, Φ)} : compK gg tt te keep ρ (d :: ds) S Φ h = (keep S ∧ gg d ρ S fun ρ1 S1 => tt ρ1 S1 fun b S2 => iteK b (te ρ1 S2 fun y S3 => compK gg tt te keep ρ ds S3 (fun ys S4 => Φ (y :: ys) S4) ()) (compK gg tt te keep ρ ds S2 Φ ()) ()) := rfl
theorem e_notV {Φ : D → Sto → Prop} : wNotV wa E ρ S Φ = wa E ρ S fun x S1 => negV x (fun b => Φ (.bl b) S1) () := by unfold wNotV negV; rfl
theorem negV_b {b : Bool} {k : Bool → Prop} {h : Hd k} : negV (.bl b) k h = k (!b) := rfl
theorem negV_i {a : Int} {k : Bool → Prop} {h : Hd k} : negV (.int a) k h = k (!(a != 0)) := rfl
theorem e_while : sWhile t s1 E Dn ρ S = whK t s1 E Dn ρ S () := rfl
theorem e_yes {Φ : Bool → Sto → Prop} : wYes E ρ S Φ = Φ true S := rfl
theorem wipeK_n {k : Ro → Prop} {h : Hd k} : wipeK ρ [] k h = k ρ := rfl
theorem wipeK_c {vs : List Nat} {k : Ro → Prop} {h : Hd k} : wipeK ρ (i :: vs) k h = wipeK ρ vs (fun ρ' => setK ρ' i none k ()) () := rfl
theorem setK_z {v w : Option D} {k : Ro → Prop} {h : Hd k} : setK (v :: ρ) 0 w k h = k (w :: ρ) := rfl
theorem setK_s {v w : Option D} {k : Ro → Prop} {h : Hd k} : setK (v :: ρ) (i + 1) w k h = setK ρ i w (fun ρ' => k (v :: ρ')) () := rfl
theorem startK_c {k : Ro → Prop} {h : Hd k} : startK (m + 1) (d :: ds) k h = startK m ds (fun ρ => k (some d :: ρ)) () := by
  unfold startK estart
  rw [List.length_cons, Nat.add_sub_add_right]
  rfl
theorem startK_s {k : Ro → Prop} {h : Hd k} : startK (m + 1) [] k h = startK m [] (fun ρ => k (none :: ρ)) () := rfl
theorem startK_z {k : Ro → Prop} {h : Hd k} : startK 0 [] k h = k [] := rfl
theorem e_fnW {b : WS} {Φ : D → Sto → Prop} : fnW m b E ds S Φ = startK m ds (fun ρ => b E { nx := fun _ S => Φ .non S, rt := Φ } ρ S) () := rfl
theorem e_next : sNext E Dn ρ S = Dn.nx ρ S := rfl
theorem e_seq : sSeq s1 s2 E Dn ρ S = s1 E { Dn with nx := s2 E Dn } ρ S := rfl
theorem e_brk : sBrk E Dn ρ S = Dn.bk ρ S := rfl
theorem e_cnt : sCnt E Dn ρ S = Dn.ct ρ S := rfl
theorem e_exp : sExp wa E Dn ρ S = wa E ρ S fun _ S1 => Dn.nx ρ S1 := rfl
theorem e_ret : sRet wa E Dn ρ S = wa E ρ S Dn.rt := rfl
theorem e_retN : sRetN E Dn ρ S = Dn.rt .non S := rfl
theorem e_sif : sIf t s1 s2 E Dn ρ S = t E ρ S fun b S1 => iteK b (s1 E Dn ρ S1) (s2 E Dn ρ S1) () := rfl
theorem e_asg : sAsg wa g E Dn ρ S = wa E ρ S fun d S1 => g E d ρ S1 Dn.nx := rfl
theorem e_par : sPar i j ws E Dn ρ S = ws E ρ S fun ds S1 => par2 ds (fun d e => setK ρ i (some d) (fun ρ1 => setK ρ1 j (some e) (fun ρ2 => Dn.nx ρ2 S1) ()) ()) () := by unfold sPar par2; rfl
theorem par2_e {k : D → D → Prop} {h : Hd k} : par2 [d, e] k h = k d e := rfl
theorem e_par3 {l : Nat} : sPar3 i j l ws E Dn ρ S = ws E ρ S fun ds S1 => par3 ds (fun d e f => setK ρ i (some d) (fun ρ1 => setK ρ1 j (some e) (fun ρ2 => setK ρ2 l (some f) (fun ρ3 => Dn.nx ρ3 S1) ()) ()) ()) () := by unfold sPar3 par3; rfl
theorem par3_e {f : D} {k : D → D → D → Prop} {h : Hd k} : par3 [d, e, f] k h = k d e f := rfl
theorem e_for : sFor wi g s1 E Dn ρ S = wi E ρ S fun ds keep S1 => forK (g E) (s1 E) keep Dn ds ρ S1 () := rfl
theorem forD_n {gg : D → Ro → Sto → (Ro → Sto → Prop) → Prop} {body : DEnds → Ro → Sto → Prop} {keep : Sto → Prop} {h : Hd (gg, body, keep, Dn)} : forK gg body keep Dn [] ρ S h = (keep S ∧ Dn.nx ρ S) := rfl
theorem forD_c {gg : D → Ro → Sto → (Ro → Sto → Prop) → Prop} {body : DEnds → Ro → Sto → Prop} {keep : Sto → Prop} {h : Hd (gg, body, keep, Dn)} : forK gg body keep Dn (d :: ds) ρ S h = (keep S ∧ gg d ρ S fun ρ1 S1 => body { Dn with nx := fun ρ2 S2 => forK gg body keep Dn ds ρ2 S2 (), ct := fun ρ2 S2 => forK gg body keep Dn ds ρ2 S2 (), bk := Dn.nx } ρ1 S1) := rfl
theorem e_raise {nm : Str} : sRaise nm E Dn ρ S = E nm S := rfl
theorem e_gnm {Φ : Ro → Sto → Prop} : gNm i E d ρ S Φ = setK ρ i (some d) (fun ρ' => Φ ρ' S) () := rfl
theorem e_gnl {Φ : Ro → Sto → Prop} : gNl E [] ρ S Φ = Φ ρ S := rfl
theorem e_gcn {Φ : Ro → Sto → Prop} : gCn g gs E (d :: ds) ρ S Φ = g E d ρ S fun ρ1 S1 => gs E ds ρ1 S1 Φ := rfl
theorem e_gtp {Φ : Ro → Sto → Prop} : gTp n gs E (.tup ds) ρ S Φ = cntK ds n (gs E ds ρ S Φ) () := rfl
theorem e_gtpL {Φ : Ro → Sto → Prop} : gTp n gs E (.lst ds) ρ S Φ = cntK ds n (gs E ds ρ S Φ) () := rfl
theorem cntK_c {p : Prop} {h : Hd p} : cntK (d :: ds) (n + 1) p h = cntK ds n p () := by
  unfold cntK
  rw [List.length_cons, Nat.add_right_cancel_iff]
theorem cntK_n {p : Prop} {h : Hd p} : cntK [] 0 p h = p := propext ⟨fun h => h.2, fun h => ⟨rfl, h⟩⟩
theorem e_err {et : Str → Option Str} {Φ : D → Sto → Prop} : wErr et wa E ρ S Φ = wa (fun nm S' => errK (et nm) (fun t => Φ (.str t) S') ()) ρ S fun _ S' => Φ (.str "") S' := rfl
theorem errK_s {t : Str} {k : Str → Prop} {h : Hd k} : errK (some t) k h = k t := rfl
theorem fAdd_i {a b : Int} {Φ : D → Prop} {h : Hd Φ} : (opK fAdd S (.int a) (.int b) Φ h) = (Φ (.int (a + b))) := rfl
theorem fAdd_t {Φ : D → Prop} {h : Hd Φ} : (opK fAdd S (.tup xs) (.tup ys) Φ h) = (xs.length + ys.length ≤ sizeLine ∧ appK xs ys (fun z => Φ (.tup z)) ()) := rfl
theorem fAdd_l {Φ : D → Prop} {h : Hd Φ} : (opK fAdd S (.lst xs) (.lst ys) Φ h) = (xs.length + ys.length ≤ sizeLine ∧ appK xs ys (fun z => Φ (.lst z)) ()) := rfl
theorem appK_c {k : List D → Prop} {h : Hd k} : (appK (x :: xs) ys k h) = (appK xs ys (fun z => k (x :: z)) ()) := rfl
theorem appK_n {k : List D → Prop} {h : Hd k} : (appK [] ys k h) = (k ys) := rfl
theorem fSub_i {a b : Int} {Φ : D → Prop} {h : Hd Φ} : (opK fSub S (.int a) (.int b) Φ h) = (Φ (.int (a - b))) := rfl
theorem fMul_i {a b : Int} {Φ : D → Prop} {h : Hd Φ} : (opK fMul S (.int a) (.int b) Φ h) = (MulOk a b ∧ Φ (.int (a * b))) := rfl
theorem fDiv_i {a b : Int} {Φ : D → Prop} {h : Hd Φ} : (opK fDiv S (.int a) (.int b) Φ h) = (DivOk b ∧ Φ (.int (a.fdiv b))) := rfl
theorem fMod_i {a b : Int} {Φ : D → Prop} {h : Hd Φ} : (opK fMod S (.int a) (.int b) Φ h) = (b ≠ 0 ∧ Φ (.int (a.fmod b))) := rfl
theorem fNeg_i {a : Int} {Φ : D → Prop} {h : Hd Φ} : (unK fNeg S (.int a) Φ h) = (Φ (.int (-a))) := rfl
theorem fLt_i {a b : Int} {Φ : D → Prop} {h : Hd Φ} : (opK fLt S (.int a) (.int b) Φ h) = (Φ (.bl (decide (a < b)))) := rfl
theorem fLe_i {a b : Int} {Φ : D → Prop} {h : Hd Φ} : (opK fLe S (.int a) (.int b) Φ h) = (Φ (.bl (decide (a ≤ b)))) := rfl
theorem fGt_i {a b : Int} {Φ : D → Prop} {h : Hd Φ} : (opK fGt S (.int a) (.int b) Φ h) = (Φ (.bl (decide (b < a)))) := rfl
theorem fGe_i {a b : Int} {Φ : D → Prop} {h : Hd Φ} : (opK fGe S (.int a) (.int b) Φ h) = (Φ (.bl (decide (b ≤ a)))) := rfl
theorem okD_int (a : Int) : okD (.int a) = true := by simp [okD, plainD, py, SeqAt.shaped, PyData.canLay0, PyData.depth]
theorem okD_bl (a : Bool) : okD (.bl a) = true := by simp [okD, plainD, py, SeqAt.shaped, PyData.canLay0, PyData.depth]
theorem fEq_i {a b : Int} {Φ : D → Prop} {h : Hd Φ} : (opK fEq S (.int a) (.int b) Φ h) = (Φ (.bl (a == b))) := by
  unfold opK fEq; simp only [res, okD_int, true_and, eqD, py, PyData.eqv]
theorem fNe_i {a b : Int} {Φ : D → Prop} {h : Hd Φ} : (opK fNe S (.int a) (.int b) Φ h) = (Φ (.bl (!(a == b)))) := by
  unfold opK fNe; simp only [res, okD_int, true_and, eqD, py, PyData.eqv]
theorem fEq_b {a b : Bool} {Φ : D → Prop} {h : Hd Φ} : (opK fEq S (.bl a) (.bl b) Φ h) = (Φ (.bl (a == b))) := by
  unfold opK fEq; simp only [res, okD_bl, true_and, eqD, py, PyData.eqv]
theorem fNe_b {a b : Bool} {Φ : D → Prop} {h : Hd Φ} : (opK fNe S (.bl a) (.bl b) Φ h) = (Φ (.bl (!(a == b)))) := by
  unfold opK fNe; simp only [res, okD_bl, true_and, eqD, py, PyData.eqv]
theorem fIsB_b {a b : Bool} {Φ : D → Prop} {h : Hd Φ} : (opK fIsB S (.bl a) (.bl b) Φ h) = (Φ (.bl (decide (a = b)))) := rfl
theorem fNotB_b {a b : Bool} {Φ : D → Prop} {h : Hd Φ} : (opK fNotB S (.bl a) (.bl b) Φ h) = (Φ (.bl (!decide (a = b)))) := rfl
theorem fLen_t {Φ : D → Prop} {h : Hd Φ} : (fnK fLen S [.tup xs] Φ h) = (lenK xs 0 (fun n => Φ (.int n)) ()) := by
  show Φ (.int xs.length) = Φ (.int ((0 + xs.length : Nat) : Int))
  rw [Nat.zero_add]
theorem fLen_l {Φ : D → Prop} {h : Hd Φ} : (fnK fLen S [.lst xs] Φ h) = (lenK xs 0 (fun n => Φ (.int n)) ()) := by
  show Φ (.int xs.length) = Φ (.int ((0 + xs.length : Nat) : Int))
  rw [Nat.zero_add]
theorem lenK_c {k : Int → Prop} {h : Hd k} : (lenK (x :: xs) n k h) = (lenK xs (n + 1) k ()) := by
  unfold lenK
  rw [List.length_cons, Nat.add_right_comm, Nat.add_assoc]
theorem lenK_n {k : Int → Prop} {h : Hd k} : (lenK [] n k h) = (k (n : Int)) := rfl
theorem fAbs_i {a : Int} {Φ : D → Prop} {h : Hd Φ} : (fnK fAbs S [.int a] Φ h) = (Φ (.int (a.natAbs : Int))) := by
  have e : (if a < 0 then -a else a) = (a.natAbs : Int) := by split <;> omega
  show Φ (.int (if a < 0 then -a else a)) = _
  rw [e]
theorem fMin2_i {a b : Int} {Φ : D → Prop} {h : Hd Φ} : (fnK fMin2 S [.int a, .int b] Φ h) = (Φ (.int (if b < a then b else a))) := rfl
theorem fInt_i {a : Int} {Φ : D → Prop} {h : Hd Φ} : (fnK fInt S [.int a] Φ h) = (Φ (.int a)) := rfl
theorem fTuple_l {Φ : D → Prop} {h : Hd Φ} : (fnK fTuple S [.lst xs] Φ h) = (Φ (.tup xs)) := rfl
theorem fTuple_t {Φ : D → Prop} {h : Hd Φ} : (fnK fTuple S [.tup xs] Φ h) = (Φ (.tup xs)) := rfl
theorem fList_l {Φ : D → Prop} {h : Hd Φ} : (fnK fList S [.lst xs] Φ h) = (Φ (.lst xs)) := rfl
theorem fList_t {Φ : D → Prop} {h : Hd Φ} : (fnK fList S [.tup xs] Φ h) = (Φ (.lst xs)) := rfl
theorem fAll_l {Φ : D → Prop} {h : Hd Φ} : (fnK fAll S [.lst xs] Φ h) = (blsK xs (fun bs => Φ (.bl (bs.all id))) ()) := rfl
theorem fAny_l {Φ : D → Prop} {h : Hd Φ} : (fnK fAny S [.lst xs] Φ h) = (blsK xs (fun bs => Φ (.bl (bs.any id))) ()) := rfl
theorem fSum_l {Φ : D → Prop} {h : Hd Φ} : (fnK fSum S [.lst xs] Φ h) = (intsK xs (fun ns => Φ (.int ns.sum)) ()) := rfl
theorem fMax_l {Φ : D → Prop} {h : Hd Φ} : (fnK fMax S [.lst xs] Φ h) = (intsK xs (fun ns => 0 < ns.length ∧ ∀ m, m ∈ ns → (∀ y, y ∈ ns → y ≤ m) → Φ (.int m)) ()) := rfl
theorem blsK_c {b : Bool} {k : List Bool → Prop} {h : Hd k} : (blsK (.bl b :: xs) k h) = (blsK xs (fun r => k (b :: r)) ()) := by
  unfold blsK; rw [blsOf]; cases blsOf xs <;> rfl
theorem blsK_n {k : List Bool → Prop} {h : Hd k} : (blsK [] k h) = (k []) := rfl
theorem intsK_c {a : Int} {k : List Int → Prop} {h : Hd k} : (intsK (.int a :: xs) k h) = (intsK xs (fun r => k (a :: r)) ()) := by
  unfold intsK; rw [intsOf]; cases intsOf xs <;> rfl
theorem intsK_n {k : List Int → Prop} {h : Hd k} : (intsK [] k h) = (k []) := rfl
theorem fIx_t {a : Int} {Φ : D → Prop} {h : Hd Φ} : (opK fIx S (.tup xs) (.int a) Φ h) = (atK xs a Φ ()) := rfl
theorem fIx_l {a : Int} {Φ : D → Prop} {h : Hd Φ} : (opK fIx S (.lst xs) (.int a) Φ h) = (atK xs a Φ ()) := rfl
theorem atK_0 {x0 : D} {k : D → Prop} {h : Hd k} : (atK (x0 :: xs) 0 k h) = (k x0) := by
  have e : atI (x0 :: xs) (0 : Int) = some x0 := by
    unfold atI ixN
    rw [if_pos (by omega), if_pos (by simp; try omega)]
    rfl
  unfold atK; rw [e]
theorem atK_1 {x0 x1 : D} {k : D → Prop} {h : Hd k} : (atK (x0 :: x1 :: xs) 1 k h) = (k x1) := by
  have e : atI (x0 :: x1 :: xs) (1 : Int) = some x1 := by
    unfold atI ixN
    rw [if_pos (by omega), if_pos (by simp; try omega)]
    rfl
  unfold atK; rw [e]
theorem atK_2 {x0 x1 x2 : D} {k : D → Prop} {h : Hd k} : (atK (x0 :: x1 :: x2 :: xs) 2 k h) = (k x2) := by
  have e : atI (x0 :: x1 :: x2 :: xs) (2 : Int) = some x2 := by
    unfold atI ixN
    rw [if_pos (by omega), if_pos (by simp; try omega)]
    rfl
  unfold atK; rw [e]
theorem atK_3 {x0 x1 x2 x3 : D} {k : D → Prop} {h : Hd k} : (atK (x0 :: x1 :: x2 :: x3 :: xs) 3 k h) = (k x3) := by
  have e : atI (x0 :: x1 :: x2 :: x3 :: xs) (3 : Int) = some x3 := by
    unfold atI ixN
    rw [if_pos (by omega), if_pos (by simp; try omega)]
    rfl
  unfold atK; rw [e]
theorem atK_4 {x0 x1 x2 x3 x4 : D} {k : D → Prop} {h : Hd k} : (atK (x0 :: x1 :: x2 :: x3 :: x4 :: xs) 4 k h) = (k x4) := by
  have e : atI (x0 :: x1 :: x2 :: x3 :: x4 :: xs) (4 : Int) = some x4 := by
    unfold atI ixN
    rw [if_pos (by omega), if_pos (by simp; try omega)]
    rfl
  unfold atK; rw [e]
theorem atK_5 {x0 x1 x2 x3 x4 x5 : D} {k : D → Prop} {h : Hd k} : (atK (x0 :: x1 :: x2 :: x3 :: x4 :: x5 :: xs) 5 k h) = (k x5) := by
  have e : atI (x0 :: x1 :: x2 :: x3 :: x4 :: x5 :: xs) (5 : Int) = some x5 := by
    unfold atI ixN
    rw [if_pos (by omega), if_pos (by simp; try omega)]
    rfl
  unfold atK; rw [e]
theorem atK_6 {x0 x1 x2 x3 x4 x5 x6 : D} {k : D → Prop} {h : Hd k} : (atK (x0 :: x1 :: x2 :: x3 :: x4 :: x5 :: x6 :: xs) 6 k h) = (k x6) := by
  have e : atI (x0 :: x1 :: x2 :: x3 :: x4 :: x5 :: x6 :: xs) (6 : Int) = some x6 := by
    unfold atI ixN
    rw [if_pos (by omega), if_pos (by simp; try omega)]
    rfl
  unfold atK; rw [e]
theorem atK_7 {x0 x1 x2 x3 x4 x5 x6 x7 : D} {k : D → Prop} {h : Hd k} : (atK (x0 :: x1 :: x2 :: x3 :: x4 :: x5 :: x6 :: x7 :: xs) 7 k h) = (k x7) := by
  have e : atI (x0 :: x1 :: x2 :: x3 :: x4 :: x5 :: x6 :: x7 :: xs) (7 : Int) = some x7 := by
    unfold atI ixN
    rw [if_pos (by omega), if_pos (by simp; try omega)]
    rfl
  unfold atK; rw [e]
theorem fIsi_non_int {Φ : D → Prop} {h : Hd Φ} : (fnK fIsi S [.non, .ty "int"] Φ h) = (Φ (.bl false)) := by
  show (_ ∧ Φ (.bl (isT "NoneType" "int"))) = _
  rw [show isT "NoneType" "int" = false from by decide]
  exact propext ⟨fun h => h.2, fun h => ⟨by decide, h⟩⟩
theorem fIsi_non_bool {Φ : D → Prop} {h : Hd Φ} : (fnK fIsi S [.non, .ty "bool"] Φ h) = (Φ (.bl false)) := by
  show (_ ∧ Φ (.bl (isT "NoneType" "bool"))) = _
  rw [show isT "NoneType" "bool" = false from by decide]
  exact propext ⟨fun h => h.2, fun h => ⟨by decide, h⟩⟩
theorem fIsi_non_tuple {Φ : D → Prop} {h : Hd Φ} : (fnK fIsi S [.non, .ty "tuple"] Φ h) = (Φ (.bl false)) := by
  show (_ ∧ Φ (.bl (isT "NoneType" "tuple"))) = _
  rw [show isT "NoneType" "tuple" = false from by decide]
  exact propext ⟨fun h => h.2, fun h => ⟨by decide, h⟩⟩
theorem fIsi_non_str {Φ : D → Prop} {h : Hd Φ} : (fnK fIsi S [.non, .ty "str"] Φ h) = (Φ (.bl false)) := by
  show (_ ∧ Φ (.bl (isT "NoneType" "str"))) = _
  rw [show isT "NoneType" "str" = false from by decide]
  exact propext ⟨fun h => h.2, fun h => ⟨by decide, h⟩⟩
theorem fIsi_non_list {Φ : D → Prop} {h : Hd Φ} : (fnK fIsi S [.non, .ty "list"] Φ h) = (Φ (.bl false)) := by
  show (_ ∧ Φ (.bl (isT "NoneType" "list"))) = _
  rw [show isT "NoneType" "list" = false from by decide]
  exact propext ⟨fun h => h.2, fun h => ⟨by decide, h⟩⟩
theorem fIsi_bl_int {b : Bool} {Φ : D → Prop} {h : Hd Φ} : (fnK fIsi S [.bl b, .ty "int"] Φ h) = (Φ (.bl true)) := by
  show (_ ∧ Φ (.bl (isT "bool" "int"))) = _
  rw [show isT "bool" "int" = true from by decide]
  exact propext ⟨fun h => h.2, fun h => ⟨by decide, h⟩⟩
theorem fIsi_bl_bool {b : Bool} {Φ : D → Prop} {h : Hd Φ} : (fnK fIsi S [.bl b, .ty "bool"] Φ h) = (Φ (.bl true)) := by
  show (_ ∧ Φ (.bl (isT "bool" "bool"))) = _
  rw [show isT "bool" "bool" = true from by decide]
  exact propext ⟨fun h => h.2, fun h => ⟨by decide, h⟩⟩
theorem fIsi_bl_tuple {b : Bool} {Φ : D → Prop} {h : Hd Φ} : (fnK fIsi S [.bl b, .ty "tuple"] Φ h) = (Φ (.bl false)) := by
  show (_ ∧ Φ (.bl (isT "bool" "tuple"))) = _
  rw [show isT "bool" "tuple" = false from by decide]
  exact propext ⟨fun h => h.2, fun h => ⟨by decide, h⟩⟩
theorem fIsi_bl_str {b : Bool} {Φ : D → Prop} {h : Hd Φ} : (fnK fIsi S [.bl b, .ty "str"] Φ h) = (Φ (.bl false)) := by
  show (_ ∧ Φ (.bl (isT "bool" "str"))) = _
  rw [show isT "bool" "str" = false from by decide]
  exact propext ⟨fun h => h.2, fun h => ⟨by decide, h⟩⟩
theorem fIsi_bl_list {b : Bool} {Φ : D → Prop} {h : Hd Φ} : (fnK fIsi S [.bl b, .ty "list"] Φ h) = (Φ (.bl false)) := by
  show (_ ∧ Φ (.bl (isT "bool" "list"))) = _
  rw [show isT "bool" "list" = false from by decide]
  exact propext ⟨fun h => h.2, fun h => ⟨by decide, h⟩⟩
theorem fIsi_int_int {a : Int} {Φ : D → Prop} {h : Hd Φ} : (fnK fIsi S [.int a, .ty "int"] Φ h) = (Φ (.bl true)) := by
  show (_ ∧ Φ (.bl (isT "int" "int"))) = _
  rw [show isT "int" "int" = true from by decide]
  exact propext ⟨fun h => h.2, fun h => ⟨by decide, h⟩⟩
theorem fIsi_int_bool {a : Int} {Φ : D → Prop} {h : Hd Φ} : (fnK fIsi S [.int a, .ty "bool"] Φ h) = (Φ (.bl false)) := by
  show (_ ∧ Φ (.bl (isT "int" "bool"))) = _
  rw [show isT "int" "bool" = false from by decide]
  exact propext ⟨fun h => h.2, fun h => ⟨by decide, h⟩⟩
theorem fIsi_int_tuple {a : Int} {Φ : D → Prop} {h : Hd Φ} : (fnK fIsi S [.int a, .ty "tuple"] Φ h) = (Φ (.bl false)) := by
  show (_ ∧ Φ (.bl (isT "int" "tuple"))) = _
  rw [show isT "int" "tuple" = false from by decide]
  exact propext ⟨fun h => h.2, fun h => ⟨by decide, h⟩⟩
theorem fIsi_int_str {a : Int} {Φ : D → Prop} {h : Hd Φ} : (fnK fIsi S [.int a, .ty "str"] Φ h) = (Φ (.bl false)) := by
  show (_ ∧ Φ (.bl (isT "int" "str"))) = _
  rw [show isT "int" "str" = false from by decide]
  exact propext ⟨fun h => h.2, fun h => ⟨by decide, h⟩⟩
theorem fIsi_int_list {a : Int} {Φ : D → Prop} {h : Hd Φ} : (fnK fIsi S [.int a, .ty "list"] Φ h) = (Φ (.bl false)) := by
  show (_ ∧ Φ (.bl (isT "int" "list"))) = _
  rw [show isT "int" "list" = false from by decide]
  exact propext ⟨fun h => h.2, fun h => ⟨by decide, h⟩⟩
theorem fIsi_str_int {z : Str} {Φ : D → Prop} {h : Hd Φ} : (fnK fIsi S [.str z, .ty "int"] Φ h) = (Φ (.bl false)) := by
  show (_ ∧ Φ (.bl (isT "str" "int"))) = _
  rw [show isT "str" "int" = false from by decide]
  exact propext ⟨fun h => h.2, fun h => ⟨by decide, h⟩⟩
theorem fIsi_str_bool {z : Str} {Φ : D → Prop} {h : Hd Φ} : (fnK fIsi S [.str z, .ty "bool"] Φ h) = (Φ (.bl false)) := by
  show (_ ∧ Φ (.bl (isT "str" "bool"))) = _
  rw [show isT "str" "bool" = false from by decide]
  exact propext ⟨fun h => h.2, fun h => ⟨by decide, h⟩⟩
theorem fIsi_str_tuple {z : Str} {Φ : D → Prop} {h : Hd Φ} : (fnK fIsi S [.str z, .ty "tuple"] Φ h) = (Φ (.bl false)) := by
  show (_ ∧ Φ (.bl (isT "str" "tuple"))) = _
  rw [show isT "str" "tuple" = false from by decide]
  exact propext ⟨fun h => h.2, fun h => ⟨by decide, h⟩⟩
theorem fIsi_str_str {z : Str} {Φ : D → Prop} {h : Hd Φ} : (fnK fIsi S [.str z, .ty "str"] Φ h) = (Φ (.bl true)) := by
  show (_ ∧ Φ (.bl (isT "str" "str"))) = _
  rw [show isT "str" "str" = true from by decide]
  exact propext ⟨fun h => h.2, fun h => ⟨by decide, h⟩⟩
theorem fIsi_str_list {z : Str} {Φ : D → Prop} {h : Hd Φ} : (fnK fIsi S [.str z, .ty "list"] Φ h) = (Φ (.bl false)) := by
  show (_ ∧ Φ (.bl (isT "str" "list"))) = _
  rw [show isT "str" "list" = false from by decide]
  exact propext ⟨fun h => h.2, fun h => ⟨by decide, h⟩⟩
theorem fIsi_tup_int {Φ : D → Prop} {h : Hd Φ} : (fnK fIsi S [.tup xs, .ty "int"] Φ h) = (Φ (.bl false)) := by
  show (_ ∧ Φ (.bl (isT "tuple" "int"))) = _
  rw [show isT "tuple" "int" = false from by decide]
  exact propext ⟨fun h => h.2, fun h => ⟨by decide, h⟩⟩
theorem fIsi_tup_bool {Φ : D → Prop} {h : Hd Φ} : (fnK fIsi S [.tup xs, .ty "bool"] Φ h) = (Φ (.bl false)) := by
  show (_ ∧ Φ (.bl (isT "tuple" "bool"))) = _
  rw [show isT "tuple" "bool" = false from by decide]
  exact propext ⟨fun h => h.2, fun h => ⟨by decide, h⟩⟩
theorem fIsi_tup_tuple {Φ : D → Prop} {h : Hd Φ} : (fnK fIsi S [.tup xs, .ty "tuple"] Φ h) = (Φ (.bl true)) := by
  show (_ ∧ Φ (.bl (isT "tuple" "tuple"))) = _
  rw [show isT "tuple" "tuple" = true from by decide]
  exact propext ⟨fun h => h.2, fun h => ⟨by decide, h⟩⟩
theorem fIsi_tup_str {Φ : D → Prop} {h : Hd Φ} : (fnK fIsi S [.tup xs, .ty "str"] Φ h) = (Φ (.bl false)) := by
  show (_ ∧ Φ (.bl (isT "tuple" "str"))) = _
  rw [show isT "tuple" "str" = false from by decide]
  exact propext ⟨fun h => h.2, fun h => ⟨by decide, h⟩⟩
theorem fIsi_tup_list {Φ : D → Prop} {h : Hd Φ} : (fnK fIsi S [.tup xs, .ty "list"] Φ h) = (Φ (.bl false)) := by
  show (_ ∧ Φ (.bl (isT "tuple" "list"))) = _
  rw [show isT "tuple" "list" = false from by decide]
  exact propext ⟨fun h => h.2, fun h => ⟨by decide, h⟩⟩
theorem fIsi_lst_int {Φ : D → Prop} {h : Hd Φ} : (fnK fIsi S [.lst xs, .ty "int"] Φ h) = (Φ (.bl false)) := by
  show (_ ∧ Φ (.bl (isT "list" "int"))) = _
  rw [show isT "list" "int" = false from by decide]
  exact propext ⟨fun h => h.2, fun h => ⟨by decide, h⟩⟩
theorem fIsi_lst_bool {Φ : D → Prop} {h : Hd Φ} : (fnK fIsi S [.lst xs, .ty "bool"] Φ h) = (Φ (.bl false)) := by
  show (_ ∧ Φ (.bl (isT "list" "bool"))) = _
  rw [show isT "list" "bool" = false from by decide]
  exact propext ⟨fun h => h.2, fun h => ⟨by decide, h⟩⟩
theorem fIsi_lst_tuple {Φ : D → Prop} {h : Hd Φ} : (fnK fIsi S [.lst xs, .ty "tuple"] Φ h) = (Φ (.bl false)) := by
  show (_ ∧ Φ (.bl (isT "list" "tuple"))) = _
  rw [show isT "list" "tuple" = false from by decide]
  exact propext ⟨fun h => h.2, fun h => ⟨by decide, h⟩⟩
theorem fIsi_lst_str {Φ : D → Prop} {h : Hd Φ} : (fnK fIsi S [.lst xs, .ty "str"] Φ h) = (Φ (.bl false)) := by
  show (_ ∧ Φ (.bl (isT "list" "str"))) = _
  rw [show isT "list" "str" = false from by decide]
  exact propext ⟨fun h => h.2, fun h => ⟨by decide, h⟩⟩
theorem fIsi_lst_list {Φ : D → Prop} {h : Hd Φ} : (fnK fIsi S [.lst xs, .ty "list"] Φ h) = (Φ (.bl true)) := by
  show (_ ∧ Φ (.bl (isT "list" "list"))) = _
  rw [show isT "list" "list" = true from by decide]
  exact propext ⟨fun h => h.2, fun h => ⟨by decide, h⟩⟩
theorem rngK_3 {k : List D → Prop} {h : Hd k} : (rngK [.int 3] k h) = (k [.int 0, .int 1, .int 2]) := by
  show (_ ∧ _ ∧ k (rngD 0 (3 : Int).toNat)) = _
  exact propext ⟨fun h => h.2.2, fun h => ⟨by decide, by rw [sizeLine_eq]; decide, h⟩⟩
theorem rngK_4 {k : List D → Prop} {h : Hd k} : (rngK [.int 4] k h) = (k [.int 0, .int 1, .int 2, .int 3]) := by
  show (_ ∧ _ ∧ k (rngD 0 (4 : Int).toNat)) = _
  exact propext ⟨fun h => h.2.2, fun h => ⟨by decide, by rw [sizeLine_eq]; decide, h⟩⟩
theorem rngK_6 {k : List D → Prop} {h : Hd k} : (rngK [.int 6] k h) = (k [.int 0, .int 1, .int 2, .int 3, .int 4, .int 5]) := by
  show (_ ∧ _ ∧ k (rngD 0 (6 : Int).toNat)) = _
  exact propext ⟨fun h => h.2.2, fun h => ⟨by decide, by rw [sizeLine_eq]; decide, h⟩⟩
theorem rngK_9 {k : List D → Prop} {h : Hd k} : (rngK [.int 9] k h) = (k [.int 0, .int 1, .int 2, .int 3, .int 4, .int 5, .int 6, .int 7, .int 8]) := by
  show (_ ∧ _ ∧ k (rngD 0 (9 : Int).toNat)) = _
  exact propext ⟨fun h => h.2.2, fun h => ⟨by decide, by rw [sizeLine_eq]; decide, h⟩⟩
theorem rngK_5 {k : List D → Prop} {h : Hd k} : (rngK [.int 5] k h) = (k [.int 0, .int 1, .int 2, .int 3, .int 4]) := by
  show (_ ∧ _ ∧ k (rngD 0 (5 : Int).toNat)) = _
  exact propext ⟨fun h => h.2.2, fun h => ⟨by decide, by rw [sizeLine_eq]; decide, h⟩⟩
theorem cut_from0 {k : List D → Prop} {h : Hd k} : (cutK (xs) (some 0) none k h) = (k xs) := by
  have e : cutD (xs) (some 0) none = xs := by
    unfold cutD HT.sIx
    simp
  unfold cutK; rw [e]
theorem cut_to0 {k : List D → Prop} {h : Hd k} : (cutK (xs) none (some 0) k h) = (k []) := by
  have e : cutD (xs) none (some 0) = [] := by
    unfold cutD HT.sIx
    simp
  unfold cutK; rw [e]
theorem cut_from1 {k : List D → Prop} {x0 : D} {h : Hd k} : (cutK (x0 :: xs) (some 1) none k h) = (k xs) := by
  have e : cutD (x0 :: xs) (some 1) none = xs := by
    unfold cutD HT.sIx
    simp
  unfold cutK; rw [e]
theorem cut_to1 {k : List D → Prop} {x0 : D} {h : Hd k} : (cutK (x0 :: xs) none (some 1) k h) = (k [x0]) := by
  have e : cutD (x0 :: xs) none (some 1) = [x0] := by
    unfold cutD HT.sIx
    simp
  unfold cutK; rw [e]
theorem cut_from2 {k : List D → Prop} {x0 x1 : D} {h : Hd k} : (cutK (x0 :: x1 :: xs) (some 2) none k h) = (k xs) := by
  have e : cutD (x0 :: x1 :: xs) (some 2) none = xs := by
    unfold cutD HT.sIx
    simp
  unfold cutK; rw [e]
theorem cut_to2 {k : List D → Prop} {x0 x1 : D} {h : Hd k} : (cutK (x0 :: x1 :: xs) none (some 2) k h) = (k [x0, x1]) := by
  have e : cutD (x0 :: x1 :: xs) none (some 2) = [x0, x1] := by
    unfold cutD HT.sIx
    simp
  unfold cutK; rw [e]
theorem cut_from3 {k : List D → Prop} {x0 x1 x2 : D} {h : Hd k} : (cutK (x0 :: x1 :: x2 :: xs) (some 3) none k h) = (k xs) := by
  have e : cutD (x0 :: x1 :: x2 :: xs) (some 3) none = xs := by
    unfold cutD HT.sIx
    simp
  unfold cutK; rw [e]
theorem cut_to3 {k : List D → Prop} {x0 x1 x2 : D} {h : Hd k} : (cutK (x0 :: x1 :: x2 :: xs) none (some 3) k h) = (k [x0, x1, x2]) := by
  have e : cutD (x0 :: x1 :: x2 :: xs) none (some 3) = [x0, x1, x2] := by
    unfold cutD HT.sIx
    simp
  unfold cutK; rw [e]
theorem cut_from4 {k : List D → Prop} {x0 x1 x2 x3 : D} {h : Hd k} : (cutK (x0 :: x1 :: x2 :: x3 :: xs) (some 4) none k h) = (k xs) := by
  have e : cutD (x0 :: x1 :: x2 :: x3 :: xs) (some 4) none = xs := by
    unfold cutD HT.sIx
    simp
  unfold cutK; rw [e]
theorem cut_to4 {k : List D → Prop} {x0 x1 x2 x3 : D} {h : Hd k} : (cutK (x0 :: x1 :: x2 :: x3 :: xs) none (some 4) k h) = (k [x0, x1, x2, x3]) := by
  have e : cutD (x0 :: x1 :: x2 :: x3 :: xs) none (some 4) = [x0, x1, x2, x3] := by
    unfold cutD HT.sIx
    simp
  unfold cutK; rw [e]
theorem cut_from5 {k : List D → Prop} {x0 x1 x2 x3 x4 : D} {h : Hd k} : (cutK (x0 :: x1 :: x2 :: x3 :: x4 :: xs) (some 5) none k h) = (k xs) := by
  have e : cutD (x0 :: x1 :: x2 :: x3 :: x4 :: xs) (some 5) none = xs := by
    unfold cutD HT.sIx
    simp
  unfold cutK; rw [e]
theorem cut_to5 {k : List D → Prop} {x0 x1 x2 x3 x4 : D} {h : Hd k} : (cutK (x0 :: x1 :: x2 :: x3 :: x4 :: xs) none (some 5) k h) = (k [x0, x1, x2, x3, x4]) := by
  have e : cutD (x0 :: x1 :: x2 :: x3 :: x4 :: xs) none (some 5) = [x0, x1, x2, x3, x4] := by
    unfold cutD HT.sIx
    simp
  unfold cutK; rw [e]
theorem fRevT_t {Φ : D → Prop} {h : Hd Φ} : (unK fRevT S (.tup xs) Φ h) = (Φ (.tup xs.reverse)) := rfl
end
end DL

set_option maxRecDepth 100000
set_option maxHeartbeats 4000000
namespace DL
open PySem PySem.Spec PyProof.Rows L2 L2H HotX LamX DH
def B_l_plain : WS := (sSeq (sAsg (wLst (wCons (wExc "InvalidBody" "m") (wCons (wExc "InvalidPoint" "m") (wCons (wExc "InvalidSize" "m") (wCons (wExc "InvalidNumber" "m") (wCons (wExc "InvalidTurn" "m") wNil)))))) (gNm 0))
  (sSeq (sAsg (wBin fAdd (wVar 0) (wLst (wCons (wExc "InvalidSlope" "m") (wCons (wExc "InvalidCorners" "m") (wCons (wExc "InvalidStep" "m") (wCons (wExc "InvalidPair" "m") (wCons (wExc "InvalidIndex" "m") wNil))))))) (gNm 0))
  (sRet (wBin fAdd (wVar 0) (wLst (wCons (wExc "InvalidText" "m") (wCons (wExc "NotEmpty" "m") (wCons (wExc "Unlike" "m") (wCons (wExc "NothingToUndo" "m") wNil)))))))))
def W_l_plain : WF := fnW 1 B_l_plain
def B_l_kinds : WS := (sSeq (sAsg (wLst (wCons (wIsX "InvalidBody" (wVar 0)) (wCons (wIsX "InvalidPoint" (wVar 0)) (wCons (wIsX "InvalidSize" (wVar 0)) wNil)))) (gNm 1))
  (sSeq (sAsg (wBin fAdd (wVar 1) (wLst (wCons (wIsX "InvalidNumber" (wVar 0)) (wCons (wIsX "InvalidTurn" (wVar 0)) (wCons (wIsX "InvalidSlope" (wVar 0)) wNil))))) (gNm 1))
  (sSeq (sAsg (wBin fAdd (wVar 1) (wLst (wCons (wIsX "InvalidCorners" (wVar 0)) (wCons (wIsX "InvalidStep" (wVar 0)) (wCons (wIsX "InvalidPair" (wVar 0)) wNil))))) (gNm 1))
  (sSeq (sAsg (wBin fAdd (wVar 1) (wLst (wCons (wIsX "InvalidIndex" (wVar 0)) (wCons (wIsX "InvalidText" (wVar 0)) (wCons (wIsX "NotEmpty" (wVar 0)) wNil))))) (gNm 1))
  (sRet (wBin fAdd (wVar 1) (wLst (wCons (wIsX "Unlike" (wVar 0)) (wCons (wIsX "NothingToUndo" (wVar 0)) (wCons (wIsX "TooMany" (wVar 0)) wNil))))))))))
def W_l_kinds : WF := fnW 2 B_l_kinds
def B_law (kl : D → List Int → Prop) : WS := (sSeq (sAsg (wBin fAdd (wCall W_l_plain wNil) (wLst (wCons (wTm "TooMany" (wC (.int 50))) wNil))) (gNm 1))
  (sSeq (sFor (wIRng (wCons (wFn fLen (wCons (wVar 1) wNil)) wNil)) (gNm 2) (sSeq (sIf (wOrT (wNotT (wTst (wIsX "CornerError" (wBin fIx (wVar 1) (wVar 2))))) (wNotT (wTst (wIsV (wBin fIx (wVar 1) (wVar 2)))))) (sRet (wC (.bl false))) sNext)
  (sIf (wTst (wBin fNe (wCall W_l_kinds (wCons (wBin fIx (wVar 1) (wVar 2)) wNil)) (wComp (wIRng (wCons (wFn fLen (wCons (wVar 1) wNil)) wNil)) (gNm 3) wYes (wBin fEq (wVar 3) (wVar 2)) [3]))) (sRet (wC (.bl false))) sNext)))
  (sSeq (sIf (wOrT (wTst (wBin fNe (wCall W_l_kinds (wCons (wExc "CornerError" "m") wNil)) (wBin fMul (wLst (wCons (wC (.bl false)) wNil)) (wC (.int 15))))) (wNotT (wTst (wIsV (wExc "CornerError" "m"))))) (sRet (wC (.bl false))) sNext)
  (sSeq (sFor (wISeq (wBin fAdd (wLst (wCons (wC (.int 9)) wNil)) (wComp (wIScr kl 0) (gNm 5) (wTst (wChain fLt fLt (wBin fSub (wC (.int 0)) (wBin fPow (wC (.int 10)) (wC (.int 40)))) (wVar 5) (wBin fPow (wC (.int 10)) (wC (.int 40))))) (wVar 5) [5]))) (gNm 4) (sIf (wTst (wBin fNe (wLim (wTm "TooMany" (wVar 4))) (wVar 4))) (sRet (wC (.bl false))) sNext))
  (sRet (wBin fEq (wComp (wISeq (wCall W_l_plain wNil)) (gNm 6) wYes (wStrX (wVar 6)) [6]) (wBin fMul (wLst (wCons (wC (.str "m")) wNil)) (wC (.int 14)))))))))
def W_law (kl : D → List Int → Prop) : WF := fnW 7 (B_law kl)
end DL

set_option maxRecDepth 100000
set_option maxHeartbeats 4000000
namespace DL
open PySem PySem.Spec PyProof.Rows L2 L2H HotX LamX DH
theorem at0 {α : Type} (x : α) (xs : List α) : atI (x :: xs) 0 = some x := by
  unfold atI ixN
  rw [if_pos (by decide), if_pos (by simp)]
  rfl
theorem at1 {α : Type} (x y : α) (xs : List α) : atI (x :: y :: xs) 1 = some y := by
  unfold atI ixN
  rw [if_pos (by decide), if_pos (by simp; omega)]
  rfl
theorem at2 {α : Type} (x y z : α) (xs : List α) : atI (x :: y :: z :: xs) 2 = some z := by
  unfold atI ixN
  rw [if_pos (by decide), if_pos (by simp; omega)]
  rfl
theorem at3 {α : Type} (x y z w : α) (xs : List α) : atI (x :: y :: z :: w :: xs) 3 = some w := by
  unfold atI ixN
  rw [if_pos (by decide), if_pos (by simp; omega)]
  rfl
theorem app_i {W : WF} {R : WR} {ds : List D} {S : Sto} {Φ : D → Sto → Prop} (x : W R ds S Φ) : app W R ds S Φ () := x
section
variable {R : WR} {S : Sto} {Φ : D → Sto → Prop} {a b c d p q : P3}
end
theorem ite_i {b : Bool} {p q : Prop} (hp : b = true → p) (hq : b = false → q) : iteK b p q () := by
  cases b
  · rw [iteK_f]; exact hq rfl
  · rw [iteK_t]; exact hp rfl
section
variable {E : WR} {ρ : Ro} {R : WR} {S : Sto} {Φ : D → Sto → Prop} {a b c d p q : P3}
end
section
variable {E : WR} {ρ : Ro} {R : WR} {S : Sto} {xs : List D}

theorem lenK_v {n : Nat} {k : Int → Prop} {h : Hd k} : lenK xs n k h = k ((n + xs.length : Nat) : Int) := rfl
theorem compK_filter {gg : D → Ro → Sto → (Ro → Sto → Prop) → Prop} {tt : Ro → Sto → (Bool → Sto → Prop) → Prop} {te : Ro → Sto → (D → Sto → Prop) → Prop} (p : D → Bool) (ρ1 : D → Ro) : ∀ {ds : List D} {Φ : List D → Sto → Prop},
    (∀ d ∈ ds, ∀ Ψ, Ψ (ρ1 d) S → gg d ρ S Ψ) → (∀ d ∈ ds, ∀ Ψ : Bool → Sto → Prop, Ψ (p d) S → tt (ρ1 d) S Ψ) → (∀ d ∈ ds, ∀ Ψ : D → Sto → Prop, Ψ d S → te (ρ1 d) S Ψ) → Φ (ds.filter p) S → compK gg tt te (fun _ => True) ρ ds S Φ ()
  | [], Φ, _, _, _, hq => ⟨trivial, hq⟩
  | d :: ds, Φ, hg, ht, he, hq => by
    rw [compK_c]
    refine ⟨trivial, hg d (by simp) _ (ht d (by simp) _ ?_)⟩
    have hg' := fun e (h : e ∈ ds) => hg e (by simp [h])
    have ht' := fun e (h : e ∈ ds) => ht e (by simp [h])
    have he' := fun e (h : e ∈ ds) => he e (by simp [h])
    refine ite_i (fun e => he d (by simp) _ (compK_filter p ρ1 hg' ht' he' ?_)) (fun e => compK_filter p ρ1 hg' ht' he' ?_)
    · rw [List.filter_cons_of_pos e] at hq; exact hq
    · rw [List.filter_cons_of_neg (by simp [e])] at hq; exact hq
end
section
variable {E : WR} {ρ : Ro} {R : WR} {S : Sto} {Φ : D → Sto → Prop} {a b c d p q : P3} {n k : Nat} {v : D}
end
section
variable {E : WR} {ρ : Ro} {R : WR} {S : Sto} {xs ys : List D} {wo we : WE} {p : Addr} {x d : D}
theorem fEq_self {Φ : D → Prop} {h : Hd Φ} (h1 : okD (.lst xs) = true) (h2 : eqD (.lst xs) (.lst xs) = true) : opK fEq S (.lst xs) (.lst xs) Φ h = Φ (.bl true) := by
  unfold opK fEq
  simp only [res, h1, h2, true_and]
theorem fNe_self {Φ : D → Prop} {h : Hd Φ} (h1 : okD (.lst xs) = true) (h2 : eqD (.lst xs) (.lst xs) = true) : opK fNe S (.lst xs) (.lst xs) Φ h = Φ (.bl false) := by
  unfold opK fNe
  simp only [res, h1, h2, true_and, Bool.not_true]
theorem fNe_ss {a b : Str} {Φ : D → Prop} {h : Hd Φ} (h1 : okD (.str a) = true) (h2 : okD (.str b) = true) : opK fNe S (.str a) (.str b) Φ h = Φ (.bl (!(a == b))) := by
  unfold opK fNe
  simp only [res, h1, h2, true_and, eqD, py, PyData.eqv]
theorem atK_of {i : Int} {k : D → Prop} (h : atI xs i = some d) (z : k d) : atK xs i k () := by
  unfold atK; rw [h]; exact z
end
section
variable {E : WR} {ρ : Ro} {R : WR} {S : Sto} {Φ : D → Sto → Prop} {a b c d p q : P3} {n k : Nat} {v : D}
end
theorem forK_inv {gg : D → Ro → Sto → (Ro → Sto → Prop) → Prop} {body : DEnds → Ro → Sto → Prop} {keep : Sto → Prop} {Dn : DEnds} (I : Ro → Sto → Prop) (hk : ∀ ρ S, I ρ S → keep S) (hn : ∀ ρ S, I ρ S → Dn.nx ρ S) : ∀ {ds : List D},
    (∀ d ∈ ds, ∀ ρ S (N : Ro → Sto → Prop), I ρ S → (∀ ρ' S', I ρ' S' → N ρ' S') → gg d ρ S fun ρ1 S1 => body { Dn with nx := N, ct := N, bk := Dn.nx } ρ1 S1) → ∀ {ρ : Ro} {S : Sto}, I ρ S → forK gg body keep Dn ds ρ S ()
  | [], _, ρ, S, h0 => ⟨hk _ _ h0, hn _ _ h0⟩
  | d :: ds, hs, ρ, S, h0 => by
    rw [forD_c]
    exact ⟨hk _ _ h0, hs d (by simp) ρ S _ h0 fun ρ' S' h' => forK_inv I hk hn (fun e he => hs e (by simp [he])) h'⟩
theorem forK_ix {gg : D → Ro → Sto → (Ro → Sto → Prop) → Prop} {body : DEnds → Ro → Sto → Prop} {keep : Sto → Prop} {Dn : DEnds} (I : Nat → Ro → Sto → Prop) (hk : ∀ i ρ S, I i ρ S → keep S) : ∀ {ds : List D} (i : Nat),
    (∀ ρ S, I (i + ds.length) ρ S → Dn.nx ρ S) → (∀ d ∈ ds, ∀ j ρ S (N : Ro → Sto → Prop), j < i + ds.length → I j ρ S → (∀ ρ' S', I (j + 1) ρ' S' → N ρ' S') → gg d ρ S fun ρ1 S1 => body { Dn with nx := N, ct := N, bk := Dn.nx } ρ1 S1) → ∀ {ρ : Ro} {S : Sto}, I i ρ S → forK gg body keep Dn ds ρ S ()
  | [], i, hn, _, ρ, S, h0 => ⟨hk _ _ _ h0, hn _ _ h0⟩
  | d :: ds, i, hn, hs, ρ, S, h0 => by
    rw [forD_c]
    refine ⟨hk _ _ _ h0, hs d (by simp) i ρ S _ (by simp) h0 fun ρ' S' h' => ?_⟩
    have e : i + 1 + ds.length = i + (d :: ds).length := by simp; omega
    refine forK_ix I hk (i + 1) (by rw [e]; exact hn) (fun x hx j ρ S N hj => hs x (by simp [hx]) j ρ S N (by rw [← e]; exact hj)) h'
section
variable {E : WR} {ρ : Ro} {R : WR} {S : Sto} {xs ys : List D} {wa wb : WE} {a b c d p q : P3} {n k : Nat} {v : D} {pt : Addr}
end
section
variable {E : WR} {ρ : Ro} {R : WR} {S : Sto} {Φ : D → Sto → Prop} {a b c d p q : P3} {n k : Nat} {v : D}
end
section
variable {E : WR} {ρ : Ro} {R : WR} {S : Sto} {Φ : D → Sto → Prop} {a b c d p q : P3} {n k : Nat} {v : D}
end
section
variable {E : WR} {ρ : Ro} {R : WR} {S : Sto} {wo wi : WE} {xs : List D} {d x y z : D} {a b c u v w s p q : P3} {pt : Addr}
theorem rngK_v {n : Int} {k : List D → Prop} {h : Hd k} : rngK [.int n] k h = (-(2 ^ 62) ≤ n ∧ n.toNat ≤ sizeLine ∧ k (rngD 0 n.toNat)) := rfl
theorem atI_some {i : Int} (h0 : 0 ≤ i) (h1 : i < xs.length) : ∃ d ∈ xs, atI xs i = some d := by
  unfold atI ixN
  rw [if_pos h0, if_pos (by omega)]
  have e : i.toNat < xs.length := by omega
  exact ⟨xs[i.toNat], List.getElem_mem e, by simp [e]⟩
end
section
variable {E : WR} {ρ : Ro} {R : WR} {S : Sto} {Φ : D → Sto → Prop} {xs : List D} {a b c d u v w s p q : P3} {n k : Nat}
end
section
variable {E : WR} {ρ : Ro} {R : WR} {S : Sto} {xs ys : List D} {d x y z : D} {a b c e u v w s p q : P3} {pt : Addr}
theorem compK_fm {gg : D → Ro → Sto → (Ro → Sto → Prop) → Prop} {tt : Ro → Sto → (Bool → Sto → Prop) → Prop} {te : Ro → Sto → (D → Sto → Prop) → Prop} (p : D → Bool) (f : D → D) (ρ1 : D → Ro) : ∀ {ds : List D} {Φ : List D → Sto → Prop},
    (∀ d ∈ ds, ∀ Ψ, Ψ (ρ1 d) S → gg d ρ S Ψ) → (∀ d ∈ ds, ∀ Ψ : Bool → Sto → Prop, Ψ (p d) S → tt (ρ1 d) S Ψ) → (∀ d ∈ ds, ∀ Ψ : D → Sto → Prop, Ψ (f d) S → te (ρ1 d) S Ψ) → Φ ((ds.filter p).map f) S → compK gg tt te (fun _ => True) ρ ds S Φ ()
  | [], Φ, _, _, _, hq => ⟨trivial, hq⟩
  | d :: ds, Φ, hg, ht, he, hq => by
    rw [compK_c]
    refine ⟨trivial, hg d (by simp) _ (ht d (by simp) _ ?_)⟩
    have hg' := fun e (h : e ∈ ds) => hg e (by simp [h])
    have ht' := fun e (h : e ∈ ds) => ht e (by simp [h])
    have he' := fun e (h : e ∈ ds) => he e (by simp [h])
    refine ite_i (fun e => he d (by simp) _ (compK_fm p f ρ1 hg' ht' he' ?_)) (fun e => compK_fm p f ρ1 hg' ht' he' ?_)
    · rw [List.filter_cons_of_pos e] at hq; exact hq
    · rw [List.filter_cons_of_neg (by simp [e])] at hq; exact hq
theorem appK_v {k : List D → Prop} {h : Hd k} : appK xs ys k h = k (xs ++ ys) := rfl
end
section
variable {E : WR} {ρ : Ro} {R : WR} {S : Sto} {Φ : D → Sto → Prop} {xs : List D} {a b c d u v w s p q : P3} {n k : Nat}
end
section
variable {E : WR} {ρ : Ro} {R : WR} {S : Sto} {xs : List D} {a b c d u v w s p q : P3} {n k : Nat}
end
end DL

set_option maxRecDepth 100000
set_option maxHeartbeats 1000000
namespace DL
open PySem PySem.Spec PyProof.Rows L2 L2H HotX LamX DH
def isXK (y : Str) (d : D) (k : Bool → Prop) (_ : Hd k) : Prop := isX y d k
def limK (d : D) (k : D → Prop) (_ : Hd k) : Prop := match d with
  | .lim x i => x ∈ CLS ∧ k (.int i)
  | _ => False
def tmK (x : Str) (d : D) (k : D → Prop) (_ : Hd k) : Prop := match d with
  | .int i => k (.lim x i)
  | _ => False
def strK (d : D) (k : D → Prop) (_ : Hd k) : Prop := match d with
  | .exc x m => x ∈ CLS ∧ k (.str m)
  | _ => False
section
variable {E : WR} {ρ : Ro} {R : WR} {S : Sto} {xs ys : List D} {we : WE} {x y m : Str}
theorem e_exc {Φ : D → Sto → Prop} : wExc x m E ρ S Φ = Φ (.exc x m) S := rfl
theorem e_isX {Φ : D → Sto → Prop} : wIsX y we E ρ S Φ = we E ρ S fun d S1 => isXK y d (fun b => Φ (.bl b) S1) () := rfl
theorem e_isV {Φ : D → Sto → Prop} : wIsV we E ρ S Φ = we E ρ S fun d S1 => isXK "ValueError" d (fun _ => Φ (.bl true) S1) () := rfl
theorem e_tm {Φ : D → Sto → Prop} : wTm x we E ρ S Φ = we E ρ S fun d S1 => tmK x d (fun z => Φ z S1) () := by
  unfold wTm
  congr 1
theorem e_lim {Φ : D → Sto → Prop} : wLim we E ρ S Φ = we E ρ S fun d S1 => limK d (fun z => Φ z S1) () := by
  unfold wLim
  congr 1
theorem e_strX {Φ : D → Sto → Prop} : wStrX we E ρ S Φ = we E ρ S fun d S1 => strK d (fun z => Φ z S1) () := by
  unfold wStrX
  congr 1
theorem isXK_e {k : Bool → Prop} {h : Hd k} : isXK y (.exc x m) k h = (x ∈ CLS ∧ k (subX x y)) := rfl
theorem isXK_l {i : Int} {k : Bool → Prop} {h : Hd k} : isXK y (.lim x i) k h = (x ∈ CLS ∧ k (subX x y)) := rfl
theorem tmK_i {i : Int} {k : D → Prop} {h : Hd k} : tmK x (.int i) k h = k (.lim x i) := rfl
theorem limK_l {i : Int} {k : D → Prop} {h : Hd k} : limK (.lim x i) k h = (x ∈ CLS ∧ k (.int i)) := rfl
theorem strK_e {k : D → Prop} {h : Hd k} : strK (.exc x m) k h = (x ∈ CLS ∧ k (.str m)) := rfl
theorem iscr_i {kl : D → List Int → Prop} {x : D} {ns : List Int} {Φ : List D → (Sto → Prop) → Sto → Prop} (hk : kl x ns) (hl : ns.length ≤ 63) (hq : Φ (ns.map D.int) (fun _ => True) S) : wIScr kl 0 E (some x :: ρ) S Φ :=
  ⟨ns, hk, by rw [sizeLine_eq]; omega, hq⟩
theorem ne_lst {Φ : D → Prop} (h : (okD (.lst xs) && (okD (.lst ys) && eqD (.lst xs) (.lst ys))) = true) (hq : Φ (.bl false)) : opK fNe S (.lst xs) (.lst ys) Φ () := by
  simp only [Bool.and_eq_true] at h
  refine ⟨h.1, h.2.1, ?_⟩
  show Φ (.bl (!eqD (.lst xs) (.lst ys)))
  rw [h.2.2]
  exact hq
theorem eq_lst {Φ : D → Prop} (h : (okD (.lst xs) && (okD (.lst ys) && eqD (.lst xs) (.lst ys))) = true) (hq : Φ (.bl true)) : opK fEq S (.lst xs) (.lst ys) Φ () := by
  simp only [Bool.and_eq_true] at h
  refine ⟨h.1, h.2.1, ?_⟩
  show Φ (.bl (eqD (.lst xs) (.lst ys)))
  rw [h.2.2]
  exact hq
def kindsD (x : Str) : List D := [.bl (subX x "InvalidBody"), .bl (subX x "InvalidPoint"), .bl (subX x "InvalidSize"), .bl (subX x "InvalidNumber"), .bl (subX x "InvalidTurn"), .bl (subX x "InvalidSlope"), .bl (subX x "InvalidCorners"), .bl (subX x "InvalidStep"), .bl (subX x "InvalidPair"), .bl (subX x "InvalidIndex"), .bl (subX x "InvalidText"), .bl (subX x "NotEmpty"), .bl (subX x "Unlike"), .bl (subX x "NothingToUndo"), .bl (subX x "TooMany")]
theorem kinds_e {Φ : D → Sto → Prop} (hx : x ∈ CLS) (hq : Φ (.lst (kindsD x)) S) : app W_l_kinds R [.exc x m] S Φ () := by
  refine app_i ?_
  unfold W_l_kinds B_l_kinds
  simp -dsimp -implicitDefEqProofs only [↓e_isX, ↓isXK_e, ↓e_var0, ↓e_varS, ↓e_c, ↓e_bin, ↓e_una, ↓e_tst, ↓chK_b, ↓e_chain, ↓e_andT, ↓e_orT, ↓e_notT, ↓e_and, ↓e_or, ↓e_not, ↓negK_b, ↓tstK_b, ↓e_if, ↓iteK_t, ↓iteK_f, ↓e_nil, ↓e_cons, ↓e_tup, ↓e_lst, ↓e_lstM, ↓e_fn, ↓e_noPart, ↓e_part, ↓partK_i, ↓e_sl, ↓fSl_l, ↓fSl_t, ↓e_call, ↓e_iseq, ↓seqK_l, ↓seqK_t, ↓e_notV, ↓negV_b, ↓negV_i, ↓e_while, ↓e_irng, ↓e_izip, ↓zipK_l, ↓zipK_t, ↓zipL_c, ↓zipL_n, ↓e_comp, ↓compK_n, ↓compK_c, ↓e_yes, ↓wipeK_n, ↓wipeK_c, ↓setK_z, ↓setK_s, ↓startK_c, ↓startK_s, ↓startK_z, ↓e_fnW, ↓e_next, ↓e_seq, ↓e_brk, ↓e_cnt, ↓e_exp, ↓e_ret, ↓e_retN, ↓e_sif, ↓e_asg, ↓e_par, ↓par2_e, ↓e_par3, ↓par3_e, ↓e_for, ↓e_raise, ↓e_gnm, ↓e_gnl, ↓e_gcn, ↓e_gtp, ↓e_gtpL, ↓cntK_c, ↓cntK_n, ↓e_err, ↓errK_s, ↓fAdd_i, ↓fAdd_t, ↓fAdd_l, ↓appK_c, ↓appK_n, ↓fSub_i, ↓fMul_i, ↓fDiv_i, ↓fMod_i, ↓fNeg_i, ↓fLt_i, ↓fLe_i, ↓fGt_i, ↓fGe_i, ↓fEq_i, ↓fNe_i, ↓fEq_b, ↓fNe_b, ↓fIsB_b, ↓fNotB_b, ↓fLen_t, ↓fLen_l, ↓lenK_c, ↓lenK_n, ↓fAbs_i, ↓fMin2_i, ↓fInt_i, ↓fTuple_l, ↓fTuple_t, ↓fList_l, ↓fList_t, ↓fAll_l, ↓fAny_l, ↓fSum_l, ↓fMax_l, ↓blsK_c, ↓blsK_n, ↓intsK_c, ↓intsK_n, ↓fIx_t, ↓fIx_l, ↓atK_0, ↓atK_1, ↓atK_2, ↓atK_3, ↓atK_4, ↓atK_5, ↓atK_6, ↓atK_7, ↓fIsi_non_int, ↓fIsi_non_bool, ↓fIsi_non_tuple, ↓fIsi_non_str, ↓fIsi_non_list, ↓fIsi_bl_int, ↓fIsi_bl_bool, ↓fIsi_bl_tuple, ↓fIsi_bl_str, ↓fIsi_bl_list, ↓fIsi_int_int, ↓fIsi_int_bool, ↓fIsi_int_tuple, ↓fIsi_int_str, ↓fIsi_int_list, ↓fIsi_str_int, ↓fIsi_str_bool, ↓fIsi_str_tuple, ↓fIsi_str_str, ↓fIsi_str_list, ↓fIsi_tup_int, ↓fIsi_tup_bool, ↓fIsi_tup_tuple, ↓fIsi_tup_str, ↓fIsi_tup_list, ↓fIsi_lst_int, ↓fIsi_lst_bool, ↓fIsi_lst_tuple, ↓fIsi_lst_str, ↓fIsi_lst_list, ↓rngK_3, ↓rngK_4, ↓rngK_6, ↓rngK_9, ↓rngK_5, ↓cut_from0, ↓cut_to0, ↓cut_from1, ↓cut_to1, ↓cut_from2, ↓cut_to2, ↓cut_from3, ↓cut_to3, ↓cut_from4, ↓cut_to4, ↓cut_from5, ↓cut_to5, ↓fRevT_t, true_and, and_true, Int.reduceAdd, Int.reduceSub, Int.reduceNeg, Int.zero_add, Nat.reduceAdd, Int.cast_ofNat_Int, Bool.not_true, Bool.not_false, Int.reduceBEq, beq_self_eq_true]
  repeat
    with_reducible refine And.intro ?_ ?_
    · first | exact hx | (rw [sizeLine_eq]; simp)
  exact hq
theorem kinds_l {i : Int} {Φ : D → Sto → Prop} (hx : x ∈ CLS) (hq : Φ (.lst (kindsD x)) S) : app W_l_kinds R [.lim x i] S Φ () := by
  refine app_i ?_
  unfold W_l_kinds B_l_kinds
  simp -dsimp -implicitDefEqProofs only [↓e_isX, ↓isXK_l, ↓e_var0, ↓e_varS, ↓e_c, ↓e_bin, ↓e_una, ↓e_tst, ↓chK_b, ↓e_chain, ↓e_andT, ↓e_orT, ↓e_notT, ↓e_and, ↓e_or, ↓e_not, ↓negK_b, ↓tstK_b, ↓e_if, ↓iteK_t, ↓iteK_f, ↓e_nil, ↓e_cons, ↓e_tup, ↓e_lst, ↓e_lstM, ↓e_fn, ↓e_noPart, ↓e_part, ↓partK_i, ↓e_sl, ↓fSl_l, ↓fSl_t, ↓e_call, ↓e_iseq, ↓seqK_l, ↓seqK_t, ↓e_notV, ↓negV_b, ↓negV_i, ↓e_while, ↓e_irng, ↓e_izip, ↓zipK_l, ↓zipK_t, ↓zipL_c, ↓zipL_n, ↓e_comp, ↓compK_n, ↓compK_c, ↓e_yes, ↓wipeK_n, ↓wipeK_c, ↓setK_z, ↓setK_s, ↓startK_c, ↓startK_s, ↓startK_z, ↓e_fnW, ↓e_next, ↓e_seq, ↓e_brk, ↓e_cnt, ↓e_exp, ↓e_ret, ↓e_retN, ↓e_sif, ↓e_asg, ↓e_par, ↓par2_e, ↓e_par3, ↓par3_e, ↓e_for, ↓e_raise, ↓e_gnm, ↓e_gnl, ↓e_gcn, ↓e_gtp, ↓e_gtpL, ↓cntK_c, ↓cntK_n, ↓e_err, ↓errK_s, ↓fAdd_i, ↓fAdd_t, ↓fAdd_l, ↓appK_c, ↓appK_n, ↓fSub_i, ↓fMul_i, ↓fDiv_i, ↓fMod_i, ↓fNeg_i, ↓fLt_i, ↓fLe_i, ↓fGt_i, ↓fGe_i, ↓fEq_i, ↓fNe_i, ↓fEq_b, ↓fNe_b, ↓fIsB_b, ↓fNotB_b, ↓fLen_t, ↓fLen_l, ↓lenK_c, ↓lenK_n, ↓fAbs_i, ↓fMin2_i, ↓fInt_i, ↓fTuple_l, ↓fTuple_t, ↓fList_l, ↓fList_t, ↓fAll_l, ↓fAny_l, ↓fSum_l, ↓fMax_l, ↓blsK_c, ↓blsK_n, ↓intsK_c, ↓intsK_n, ↓fIx_t, ↓fIx_l, ↓atK_0, ↓atK_1, ↓atK_2, ↓atK_3, ↓atK_4, ↓atK_5, ↓atK_6, ↓atK_7, ↓fIsi_non_int, ↓fIsi_non_bool, ↓fIsi_non_tuple, ↓fIsi_non_str, ↓fIsi_non_list, ↓fIsi_bl_int, ↓fIsi_bl_bool, ↓fIsi_bl_tuple, ↓fIsi_bl_str, ↓fIsi_bl_list, ↓fIsi_int_int, ↓fIsi_int_bool, ↓fIsi_int_tuple, ↓fIsi_int_str, ↓fIsi_int_list, ↓fIsi_str_int, ↓fIsi_str_bool, ↓fIsi_str_tuple, ↓fIsi_str_str, ↓fIsi_str_list, ↓fIsi_tup_int, ↓fIsi_tup_bool, ↓fIsi_tup_tuple, ↓fIsi_tup_str, ↓fIsi_tup_list, ↓fIsi_lst_int, ↓fIsi_lst_bool, ↓fIsi_lst_tuple, ↓fIsi_lst_str, ↓fIsi_lst_list, ↓rngK_3, ↓rngK_4, ↓rngK_6, ↓rngK_9, ↓rngK_5, ↓cut_from0, ↓cut_to0, ↓cut_from1, ↓cut_to1, ↓cut_from2, ↓cut_to2, ↓cut_from3, ↓cut_to3, ↓cut_from4, ↓cut_to4, ↓cut_from5, ↓cut_to5, ↓fRevT_t, true_and, and_true, Int.reduceAdd, Int.reduceSub, Int.reduceNeg, Int.zero_add, Nat.reduceAdd, Int.cast_ofNat_Int, Bool.not_true, Bool.not_false, Int.reduceBEq, beq_self_eq_true]
  repeat
    with_reducible refine And.intro ?_ ?_
    · first | exact hx | (rw [sizeLine_eq]; simp)
  exact hq
def PLAIN : List D := [.exc "InvalidBody" "m", .exc "InvalidPoint" "m", .exc "InvalidSize" "m", .exc "InvalidNumber" "m", .exc "InvalidTurn" "m", .exc "InvalidSlope" "m", .exc "InvalidCorners" "m", .exc "InvalidStep" "m", .exc "InvalidPair" "m", .exc "InvalidIndex" "m", .exc "InvalidText" "m", .exc "NotEmpty" "m", .exc "Unlike" "m", .exc "NothingToUndo" "m"]
theorem plain_ok {Φ : D → Sto → Prop} (hq : Φ (.lst PLAIN) S) : app W_l_plain R [] S Φ () := by
  refine app_i ?_
  unfold W_l_plain B_l_plain
  simp -dsimp -implicitDefEqProofs only [↓e_exc, ↓e_var0, ↓e_varS, ↓e_c, ↓e_bin, ↓e_una, ↓e_tst, ↓chK_b, ↓e_chain, ↓e_andT, ↓e_orT, ↓e_notT, ↓e_and, ↓e_or, ↓e_not, ↓negK_b, ↓tstK_b, ↓e_if, ↓iteK_t, ↓iteK_f, ↓e_nil, ↓e_cons, ↓e_tup, ↓e_lst, ↓e_lstM, ↓e_fn, ↓e_noPart, ↓e_part, ↓partK_i, ↓e_sl, ↓fSl_l, ↓fSl_t, ↓e_call, ↓e_iseq, ↓seqK_l, ↓seqK_t, ↓e_notV, ↓negV_b, ↓negV_i, ↓e_while, ↓e_irng, ↓e_izip, ↓zipK_l, ↓zipK_t, ↓zipL_c, ↓zipL_n, ↓e_comp, ↓compK_n, ↓compK_c, ↓e_yes, ↓wipeK_n, ↓wipeK_c, ↓setK_z, ↓setK_s, ↓startK_c, ↓startK_s, ↓startK_z, ↓e_fnW, ↓e_next, ↓e_seq, ↓e_brk, ↓e_cnt, ↓e_exp, ↓e_ret, ↓e_retN, ↓e_sif, ↓e_asg, ↓e_par, ↓par2_e, ↓e_par3, ↓par3_e, ↓e_for, ↓e_raise, ↓e_gnm, ↓e_gnl, ↓e_gcn, ↓e_gtp, ↓e_gtpL, ↓cntK_c, ↓cntK_n, ↓e_err, ↓errK_s, ↓fAdd_i, ↓fAdd_t, ↓fAdd_l, ↓appK_c, ↓appK_n, ↓fSub_i, ↓fMul_i, ↓fDiv_i, ↓fMod_i, ↓fNeg_i, ↓fLt_i, ↓fLe_i, ↓fGt_i, ↓fGe_i, ↓fEq_i, ↓fNe_i, ↓fEq_b, ↓fNe_b, ↓fIsB_b, ↓fNotB_b, ↓fLen_t, ↓fLen_l, ↓lenK_c, ↓lenK_n, ↓fAbs_i, ↓fMin2_i, ↓fInt_i, ↓fTuple_l, ↓fTuple_t, ↓fList_l, ↓fList_t, ↓fAll_l, ↓fAny_l, ↓fSum_l, ↓fMax_l, ↓blsK_c, ↓blsK_n, ↓intsK_c, ↓intsK_n, ↓fIx_t, ↓fIx_l, ↓atK_0, ↓atK_1, ↓atK_2, ↓atK_3, ↓atK_4, ↓atK_5, ↓atK_6, ↓atK_7, ↓fIsi_non_int, ↓fIsi_non_bool, ↓fIsi_non_tuple, ↓fIsi_non_str, ↓fIsi_non_list, ↓fIsi_bl_int, ↓fIsi_bl_bool, ↓fIsi_bl_tuple, ↓fIsi_bl_str, ↓fIsi_bl_list, ↓fIsi_int_int, ↓fIsi_int_bool, ↓fIsi_int_tuple, ↓fIsi_int_str, ↓fIsi_int_list, ↓fIsi_str_int, ↓fIsi_str_bool, ↓fIsi_str_tuple, ↓fIsi_str_str, ↓fIsi_str_list, ↓fIsi_tup_int, ↓fIsi_tup_bool, ↓fIsi_tup_tuple, ↓fIsi_tup_str, ↓fIsi_tup_list, ↓fIsi_lst_int, ↓fIsi_lst_bool, ↓fIsi_lst_tuple, ↓fIsi_lst_str, ↓fIsi_lst_list, ↓rngK_3, ↓rngK_4, ↓rngK_6, ↓rngK_9, ↓rngK_5, ↓cut_from0, ↓cut_to0, ↓cut_from1, ↓cut_to1, ↓cut_from2, ↓cut_to2, ↓cut_from3, ↓cut_to3, ↓cut_from4, ↓cut_to4, ↓cut_from5, ↓cut_to5, ↓fRevT_t, true_and, and_true, Int.reduceAdd, Int.reduceSub, Int.reduceNeg, Int.zero_add, Nat.reduceAdd, Int.cast_ofNat_Int, Bool.not_true, Bool.not_false, Int.reduceBEq, beq_self_eq_true]
  repeat
    with_reducible refine And.intro ?_ ?_
    · rw [sizeLine_eq]; simp
  exact hq
end
def ALLD : List D := [.exc "InvalidBody" "m", .exc "InvalidPoint" "m", .exc "InvalidSize" "m", .exc "InvalidNumber" "m", .exc "InvalidTurn" "m", .exc "InvalidSlope" "m", .exc "InvalidCorners" "m", .exc "InvalidStep" "m", .exc "InvalidPair" "m", .exc "InvalidIndex" "m", .exc "InvalidText" "m", .exc "NotEmpty" "m", .exc "Unlike" "m", .exc "NothingToUndo" "m", .lim "TooMany" 50]
theorem lenA {k : Int → Prop} {h : Hd k} : lenK ALLD 0 k h = k 15 := rfl
theorem rng15 {k : List D → Prop} {h : Hd k} : rngK [.int 15] k h = k [.int 0, .int 1, .int 2, .int 3, .int 4, .int 5, .int 6, .int 7, .int 8, .int 9, .int 10, .int 11, .int 12, .int 13, .int 14] := by
  rw [rngK_v]
  refine propext ⟨fun z => z.2.2, fun z => ⟨by decide, by rw [sizeLine_eq]; decide, z⟩⟩
theorem fMul_l15 {S : Sto} {x : D} {Φ : D → Prop} {h : Hd Φ} : opK fMul S (.lst [x]) (.int 15) Φ h = Φ (.lst [x, x, x, x, x, x, x, x, x, x, x, x, x, x, x]) := by
  unfold opK fMul; simp [res, sizeLine_eq] <;> rfl
theorem fMul_l14 {S : Sto} {x : D} {Φ : D → Prop} {h : Hd Φ} : opK fMul S (.lst [x]) (.int 14) Φ h = Φ (.lst [x, x, x, x, x, x, x, x, x, x, x, x, x, x]) := by
  unfold opK fMul; simp [res, sizeLine_eq] <;> rfl
theorem pow40 : ((10 : Int) ^ (40 : Int).toNat) = 10000000000000000000000000000000000000000 := by decide
theorem fPow_40 {S : Sto} {Φ : D → Prop} {h : Hd Φ} : opK fPow S (.int 10) (.int 40) Φ h = Φ (.int 10000000000000000000000000000000000000000) := by
  show (_ ∧ Φ (.int ((10 : Int) ^ (40 : Int).toNat))) = _
  rw [pow40]
  exact propext ⟨fun z => z.2, fun z => ⟨⟨by decide, by decide, by decide⟩, z⟩⟩
theorem subX_CE {x : Str} : subX x "CornerError" = true := by simp [subX]
theorem ixA {S : Sto} {i : Int} {Φ : D → Prop} {h : Hd Φ} : opK fIx S (.lst ALLD) (.int i) Φ h = atK ALLD i Φ () := rfl
theorem law_true {K : PySem.W.Frag} : ∀ (d : D) (ns : List Int), scrOk K d ns → ns.length ≤ 63 → (∀ z ∈ ns, Builtin.Int.intBits z ≤ 1048576) → ∀ (R : WR) (S : Sto) (Φ : D → Sto → Prop), (∀ S', Φ (.bl true) S') → W_law (scrOk K) R [d] S Φ := by
  intro x ns hk hl _ R S Φ hq
  unfold W_law B_law
  simp -dsimp -implicitDefEqProofs only [↓e_var0, ↓e_varS, ↓e_c, ↓e_bin, ↓e_una, ↓e_tst, ↓chK_b, ↓e_chain, ↓e_andT, ↓e_orT, ↓e_notT, ↓e_and, ↓e_or, ↓e_not, ↓negK_b, ↓tstK_b, ↓e_if, ↓iteK_t, ↓iteK_f, ↓e_nil, ↓e_cons, ↓e_tup, ↓e_lst, ↓e_lstM, ↓e_fn, ↓e_noPart, ↓e_part, ↓partK_i, ↓e_sl, ↓fSl_l, ↓fSl_t, ↓e_call, ↓e_iseq, ↓seqK_l, ↓seqK_t, ↓e_notV, ↓negV_b, ↓negV_i, ↓e_while, ↓e_irng, ↓e_izip, ↓zipK_l, ↓zipK_t, ↓zipL_c, ↓zipL_n, ↓e_comp, ↓compK_n, ↓compK_c, ↓e_yes, ↓wipeK_n, ↓wipeK_c, ↓setK_z, ↓setK_s, ↓startK_c, ↓startK_s, ↓startK_z, ↓e_fnW, ↓e_next, ↓e_seq, ↓e_brk, ↓e_cnt, ↓e_exp, ↓e_ret, ↓e_retN, ↓e_sif, ↓e_asg, ↓e_par, ↓par2_e, ↓e_par3, ↓par3_e, ↓e_for, ↓e_raise, ↓e_gnm, ↓e_gnl, ↓e_gcn, ↓e_gtp, ↓e_gtpL, ↓cntK_c, ↓cntK_n, ↓e_err, ↓errK_s, ↓fAdd_i, ↓fAdd_t, ↓fAdd_l, ↓appK_c, ↓appK_n, ↓fSub_i, ↓fMul_i, ↓fDiv_i, ↓fMod_i, ↓fNeg_i, ↓fLt_i, ↓fLe_i, ↓fGt_i, ↓fGe_i, ↓fEq_i, ↓fNe_i, ↓fEq_b, ↓fNe_b, ↓fIsB_b, ↓fNotB_b, ↓fLen_t, ↓fLen_l, ↓lenK_c, ↓lenK_n, ↓fAbs_i, ↓fMin2_i, ↓fInt_i, ↓fTuple_l, ↓fTuple_t, ↓fList_l, ↓fList_t, ↓fAll_l, ↓fAny_l, ↓fSum_l, ↓fMax_l, ↓blsK_c, ↓blsK_n, ↓intsK_c, ↓intsK_n, ↓fIx_t, ↓fIx_l, ↓atK_0, ↓atK_1, ↓atK_2, ↓atK_3, ↓atK_4, ↓atK_5, ↓atK_6, ↓atK_7, ↓fIsi_non_int, ↓fIsi_non_bool, ↓fIsi_non_tuple, ↓fIsi_non_str, ↓fIsi_non_list, ↓fIsi_bl_int, ↓fIsi_bl_bool, ↓fIsi_bl_tuple, ↓fIsi_bl_str, ↓fIsi_bl_list, ↓fIsi_int_int, ↓fIsi_int_bool, ↓fIsi_int_tuple, ↓fIsi_int_str, ↓fIsi_int_list, ↓fIsi_str_int, ↓fIsi_str_bool, ↓fIsi_str_tuple, ↓fIsi_str_str, ↓fIsi_str_list, ↓fIsi_tup_int, ↓fIsi_tup_bool, ↓fIsi_tup_tuple, ↓fIsi_tup_str, ↓fIsi_tup_list, ↓fIsi_lst_int, ↓fIsi_lst_bool, ↓fIsi_lst_tuple, ↓fIsi_lst_str, ↓fIsi_lst_list, ↓rngK_3, ↓rngK_4, ↓rngK_6, ↓rngK_9, ↓rngK_5, ↓cut_from0, ↓cut_to0, ↓cut_from1, ↓cut_to1, ↓cut_from2, ↓cut_to2, ↓cut_from3, ↓cut_to3, ↓cut_from4, ↓cut_to4, ↓cut_from5, ↓cut_to5, ↓fRevT_t, true_and, and_true, Int.reduceAdd, Int.reduceSub, Int.reduceNeg, Int.zero_add, Nat.reduceAdd, Int.cast_ofNat_Int, Bool.not_true, Bool.not_false, Int.reduceBEq, beq_self_eq_true]
  refine plain_ok ?_
  simp -dsimp -implicitDefEqProofs only [↓e_tm, ↓tmK_i, ↓appK_v, ↓e_var0, ↓e_varS, ↓e_c, ↓e_bin, ↓e_una, ↓e_tst, ↓chK_b, ↓e_chain, ↓e_andT, ↓e_orT, ↓e_notT, ↓e_and, ↓e_or, ↓e_not, ↓negK_b, ↓tstK_b, ↓e_if, ↓iteK_t, ↓iteK_f, ↓e_nil, ↓e_cons, ↓e_tup, ↓e_lst, ↓e_lstM, ↓e_fn, ↓e_noPart, ↓e_part, ↓partK_i, ↓e_sl, ↓fSl_l, ↓fSl_t, ↓e_call, ↓e_iseq, ↓seqK_l, ↓seqK_t, ↓e_notV, ↓negV_b, ↓negV_i, ↓e_while, ↓e_irng, ↓e_izip, ↓zipK_l, ↓zipK_t, ↓zipL_c, ↓zipL_n, ↓e_comp, ↓compK_n, ↓compK_c, ↓e_yes, ↓wipeK_n, ↓wipeK_c, ↓setK_z, ↓setK_s, ↓startK_c, ↓startK_s, ↓startK_z, ↓e_fnW, ↓e_next, ↓e_seq, ↓e_brk, ↓e_cnt, ↓e_exp, ↓e_ret, ↓e_retN, ↓e_sif, ↓e_asg, ↓e_par, ↓par2_e, ↓e_par3, ↓par3_e, ↓e_for, ↓e_raise, ↓e_gnm, ↓e_gnl, ↓e_gcn, ↓e_gtp, ↓e_gtpL, ↓cntK_c, ↓cntK_n, ↓e_err, ↓errK_s, ↓fAdd_i, ↓fAdd_t, ↓fAdd_l, ↓appK_c, ↓appK_n, ↓fSub_i, ↓fMul_i, ↓fDiv_i, ↓fMod_i, ↓fNeg_i, ↓fLt_i, ↓fLe_i, ↓fGt_i, ↓fGe_i, ↓fEq_i, ↓fNe_i, ↓fEq_b, ↓fNe_b, ↓fIsB_b, ↓fNotB_b, ↓fLen_t, ↓fLen_l, ↓lenK_c, ↓lenK_n, ↓fAbs_i, ↓fMin2_i, ↓fInt_i, ↓fTuple_l, ↓fTuple_t, ↓fList_l, ↓fList_t, ↓fAll_l, ↓fAny_l, ↓fSum_l, ↓fMax_l, ↓blsK_c, ↓blsK_n, ↓intsK_c, ↓intsK_n, ↓fIx_t, ↓fIx_l, ↓atK_0, ↓atK_1, ↓atK_2, ↓atK_3, ↓atK_4, ↓atK_5, ↓atK_6, ↓atK_7, ↓fIsi_non_int, ↓fIsi_non_bool, ↓fIsi_non_tuple, ↓fIsi_non_str, ↓fIsi_non_list, ↓fIsi_bl_int, ↓fIsi_bl_bool, ↓fIsi_bl_tuple, ↓fIsi_bl_str, ↓fIsi_bl_list, ↓fIsi_int_int, ↓fIsi_int_bool, ↓fIsi_int_tuple, ↓fIsi_int_str, ↓fIsi_int_list, ↓fIsi_str_int, ↓fIsi_str_bool, ↓fIsi_str_tuple, ↓fIsi_str_str, ↓fIsi_str_list, ↓fIsi_tup_int, ↓fIsi_tup_bool, ↓fIsi_tup_tuple, ↓fIsi_tup_str, ↓fIsi_tup_list, ↓fIsi_lst_int, ↓fIsi_lst_bool, ↓fIsi_lst_tuple, ↓fIsi_lst_str, ↓fIsi_lst_list, ↓rngK_3, ↓rngK_4, ↓rngK_6, ↓rngK_9, ↓rngK_5, ↓cut_from0, ↓cut_to0, ↓cut_from1, ↓cut_to1, ↓cut_from2, ↓cut_to2, ↓cut_from3, ↓cut_to3, ↓cut_from4, ↓cut_to4, ↓cut_from5, ↓cut_to5, ↓fRevT_t, true_and, and_true, Int.reduceAdd, Int.reduceSub, Int.reduceNeg, Int.zero_add, Nat.reduceAdd, Int.cast_ofNat_Int, Bool.not_true, Bool.not_false, Int.reduceBEq, beq_self_eq_true]
  refine ⟨by rw [sizeLine_eq]; simp [PLAIN], ?_⟩
  rw [show PLAIN ++ [D.lim "TooMany" 50] = ALLD from rfl]
  simp -dsimp -implicitDefEqProofs only [↓lenA, ↓rng15, ↓e_var0, ↓e_varS, ↓e_c, ↓e_bin, ↓e_una, ↓e_tst, ↓chK_b, ↓e_chain, ↓e_andT, ↓e_orT, ↓e_notT, ↓e_and, ↓e_or, ↓e_not, ↓negK_b, ↓tstK_b, ↓e_if, ↓iteK_t, ↓iteK_f, ↓e_nil, ↓e_cons, ↓e_tup, ↓e_lst, ↓e_lstM, ↓e_fn, ↓e_noPart, ↓e_part, ↓partK_i, ↓e_sl, ↓fSl_l, ↓fSl_t, ↓e_call, ↓e_iseq, ↓seqK_l, ↓seqK_t, ↓e_notV, ↓negV_b, ↓negV_i, ↓e_while, ↓e_irng, ↓e_izip, ↓zipK_l, ↓zipK_t, ↓zipL_c, ↓zipL_n, ↓e_comp, ↓compK_n, ↓compK_c, ↓e_yes, ↓wipeK_n, ↓wipeK_c, ↓setK_z, ↓setK_s, ↓startK_c, ↓startK_s, ↓startK_z, ↓e_fnW, ↓e_next, ↓e_seq, ↓e_brk, ↓e_cnt, ↓e_exp, ↓e_ret, ↓e_retN, ↓e_sif, ↓e_asg, ↓e_par, ↓par2_e, ↓e_par3, ↓par3_e, ↓e_for, ↓e_raise, ↓e_gnm, ↓e_gnl, ↓e_gcn, ↓e_gtp, ↓e_gtpL, ↓cntK_c, ↓cntK_n, ↓e_err, ↓errK_s, ↓fAdd_i, ↓fAdd_t, ↓fAdd_l, ↓appK_c, ↓appK_n, ↓fSub_i, ↓fMul_i, ↓fDiv_i, ↓fMod_i, ↓fNeg_i, ↓fLt_i, ↓fLe_i, ↓fGt_i, ↓fGe_i, ↓fEq_i, ↓fNe_i, ↓fEq_b, ↓fNe_b, ↓fIsB_b, ↓fNotB_b, ↓fLen_t, ↓fLen_l, ↓lenK_c, ↓lenK_n, ↓fAbs_i, ↓fMin2_i, ↓fInt_i, ↓fTuple_l, ↓fTuple_t, ↓fList_l, ↓fList_t, ↓fAll_l, ↓fAny_l, ↓fSum_l, ↓fMax_l, ↓blsK_c, ↓blsK_n, ↓intsK_c, ↓intsK_n, ↓fIx_t, ↓fIx_l, ↓atK_0, ↓atK_1, ↓atK_2, ↓atK_3, ↓atK_4, ↓atK_5, ↓atK_6, ↓atK_7, ↓fIsi_non_int, ↓fIsi_non_bool, ↓fIsi_non_tuple, ↓fIsi_non_str, ↓fIsi_non_list, ↓fIsi_bl_int, ↓fIsi_bl_bool, ↓fIsi_bl_tuple, ↓fIsi_bl_str, ↓fIsi_bl_list, ↓fIsi_int_int, ↓fIsi_int_bool, ↓fIsi_int_tuple, ↓fIsi_int_str, ↓fIsi_int_list, ↓fIsi_str_int, ↓fIsi_str_bool, ↓fIsi_str_tuple, ↓fIsi_str_str, ↓fIsi_str_list, ↓fIsi_tup_int, ↓fIsi_tup_bool, ↓fIsi_tup_tuple, ↓fIsi_tup_str, ↓fIsi_tup_list, ↓fIsi_lst_int, ↓fIsi_lst_bool, ↓fIsi_lst_tuple, ↓fIsi_lst_str, ↓fIsi_lst_list, ↓rngK_3, ↓rngK_4, ↓rngK_6, ↓rngK_9, ↓rngK_5, ↓cut_from0, ↓cut_to0, ↓cut_from1, ↓cut_to1, ↓cut_from2, ↓cut_to2, ↓cut_from3, ↓cut_to3, ↓cut_from4, ↓cut_to4, ↓cut_from5, ↓cut_to5, ↓fRevT_t, true_and, and_true, Int.reduceAdd, Int.reduceSub, Int.reduceNeg, Int.zero_add, Nat.reduceAdd, Int.cast_ofNat_Int, Bool.not_true, Bool.not_false, Int.reduceBEq, beq_self_eq_true]
  refine forK_inv (fun ρ _ => ∃ y2 y3, ρ = [some x, some (.lst ALLD), y2, y3, none, none, none]) (fun _ _ _ => trivial) ?_ ?_ ⟨_, _, rfl⟩
  · rintro ρ S1 ⟨y2, y3, rfl⟩
    simp -dsimp -implicitDefEqProofs only [↓e_exc, ↓e_isV, ↓e_var0, ↓e_varS, ↓e_c, ↓e_bin, ↓e_una, ↓e_tst, ↓chK_b, ↓e_chain, ↓e_andT, ↓e_orT, ↓e_notT, ↓e_and, ↓e_or, ↓e_not, ↓negK_b, ↓tstK_b, ↓e_if, ↓iteK_t, ↓iteK_f, ↓e_nil, ↓e_cons, ↓e_tup, ↓e_lst, ↓e_lstM, ↓e_fn, ↓e_noPart, ↓e_part, ↓partK_i, ↓e_sl, ↓fSl_l, ↓fSl_t, ↓e_call, ↓e_iseq, ↓seqK_l, ↓seqK_t, ↓e_notV, ↓negV_b, ↓negV_i, ↓e_while, ↓e_irng, ↓e_izip, ↓zipK_l, ↓zipK_t, ↓zipL_c, ↓zipL_n, ↓e_comp, ↓compK_n, ↓compK_c, ↓e_yes, ↓wipeK_n, ↓wipeK_c, ↓setK_z, ↓setK_s, ↓startK_c, ↓startK_s, ↓startK_z, ↓e_fnW, ↓e_next, ↓e_seq, ↓e_brk, ↓e_cnt, ↓e_exp, ↓e_ret, ↓e_retN, ↓e_sif, ↓e_asg, ↓e_par, ↓par2_e, ↓e_par3, ↓par3_e, ↓e_for, ↓e_raise, ↓e_gnm, ↓e_gnl, ↓e_gcn, ↓e_gtp, ↓e_gtpL, ↓cntK_c, ↓cntK_n, ↓e_err, ↓errK_s, ↓fAdd_i, ↓fAdd_t, ↓fAdd_l, ↓appK_c, ↓appK_n, ↓fSub_i, ↓fMul_i, ↓fDiv_i, ↓fMod_i, ↓fNeg_i, ↓fLt_i, ↓fLe_i, ↓fGt_i, ↓fGe_i, ↓fEq_i, ↓fNe_i, ↓fEq_b, ↓fNe_b, ↓fIsB_b, ↓fNotB_b, ↓fLen_t, ↓fLen_l, ↓lenK_c, ↓lenK_n, ↓fAbs_i, ↓fMin2_i, ↓fInt_i, ↓fTuple_l, ↓fTuple_t, ↓fList_l, ↓fList_t, ↓fAll_l, ↓fAny_l, ↓fSum_l, ↓fMax_l, ↓blsK_c, ↓blsK_n, ↓intsK_c, ↓intsK_n, ↓fIx_t, ↓fIx_l, ↓atK_0, ↓atK_1, ↓atK_2, ↓atK_3, ↓atK_4, ↓atK_5, ↓atK_6, ↓atK_7, ↓fIsi_non_int, ↓fIsi_non_bool, ↓fIsi_non_tuple, ↓fIsi_non_str, ↓fIsi_non_list, ↓fIsi_bl_int, ↓fIsi_bl_bool, ↓fIsi_bl_tuple, ↓fIsi_bl_str, ↓fIsi_bl_list, ↓fIsi_int_int, ↓fIsi_int_bool, ↓fIsi_int_tuple, ↓fIsi_int_str, ↓fIsi_int_list, ↓fIsi_str_int, ↓fIsi_str_bool, ↓fIsi_str_tuple, ↓fIsi_str_str, ↓fIsi_str_list, ↓fIsi_tup_int, ↓fIsi_tup_bool, ↓fIsi_tup_tuple, ↓fIsi_tup_str, ↓fIsi_tup_list, ↓fIsi_lst_int, ↓fIsi_lst_bool, ↓fIsi_lst_tuple, ↓fIsi_lst_str, ↓fIsi_lst_list, ↓rngK_3, ↓rngK_4, ↓rngK_6, ↓rngK_9, ↓rngK_5, ↓cut_from0, ↓cut_to0, ↓cut_from1, ↓cut_to1, ↓cut_from2, ↓cut_to2, ↓cut_from3, ↓cut_to3, ↓cut_from4, ↓cut_to4, ↓cut_from5, ↓cut_to5, ↓fRevT_t, true_and, and_true, Int.reduceAdd, Int.reduceSub, Int.reduceNeg, Int.zero_add, Nat.reduceAdd, Int.cast_ofNat_Int, Bool.not_true, Bool.not_false, Int.reduceBEq, beq_self_eq_true]
    refine kinds_e (by decide) ?_
    simp -dsimp -implicitDefEqProofs only [↓e_exc, ↓e_isV, ↓fMul_l15, ↓e_var0, ↓e_varS, ↓e_c, ↓e_bin, ↓e_una, ↓e_tst, ↓chK_b, ↓e_chain, ↓e_andT, ↓e_orT, ↓e_notT, ↓e_and, ↓e_or, ↓e_not, ↓negK_b, ↓tstK_b, ↓e_if, ↓iteK_t, ↓iteK_f, ↓e_nil, ↓e_cons, ↓e_tup, ↓e_lst, ↓e_lstM, ↓e_fn, ↓e_noPart, ↓e_part, ↓partK_i, ↓e_sl, ↓fSl_l, ↓fSl_t, ↓e_call, ↓e_iseq, ↓seqK_l, ↓seqK_t, ↓e_notV, ↓negV_b, ↓negV_i, ↓e_while, ↓e_irng, ↓e_izip, ↓zipK_l, ↓zipK_t, ↓zipL_c, ↓zipL_n, ↓e_comp, ↓compK_n, ↓compK_c, ↓e_yes, ↓wipeK_n, ↓wipeK_c, ↓setK_z, ↓setK_s, ↓startK_c, ↓startK_s, ↓startK_z, ↓e_fnW, ↓e_next, ↓e_seq, ↓e_brk, ↓e_cnt, ↓e_exp, ↓e_ret, ↓e_retN, ↓e_sif, ↓e_asg, ↓e_par, ↓par2_e, ↓e_par3, ↓par3_e, ↓e_for, ↓e_raise, ↓e_gnm, ↓e_gnl, ↓e_gcn, ↓e_gtp, ↓e_gtpL, ↓cntK_c, ↓cntK_n, ↓e_err, ↓errK_s, ↓fAdd_i, ↓fAdd_t, ↓fAdd_l, ↓appK_c, ↓appK_n, ↓fSub_i, ↓fMul_i, ↓fDiv_i, ↓fMod_i, ↓fNeg_i, ↓fLt_i, ↓fLe_i, ↓fGt_i, ↓fGe_i, ↓fEq_i, ↓fNe_i, ↓fEq_b, ↓fNe_b, ↓fIsB_b, ↓fNotB_b, ↓fLen_t, ↓fLen_l, ↓lenK_c, ↓lenK_n, ↓fAbs_i, ↓fMin2_i, ↓fInt_i, ↓fTuple_l, ↓fTuple_t, ↓fList_l, ↓fList_t, ↓fAll_l, ↓fAny_l, ↓fSum_l, ↓fMax_l, ↓blsK_c, ↓blsK_n, ↓intsK_c, ↓intsK_n, ↓fIx_t, ↓fIx_l, ↓atK_0, ↓atK_1, ↓atK_2, ↓atK_3, ↓atK_4, ↓atK_5, ↓atK_6, ↓atK_7, ↓fIsi_non_int, ↓fIsi_non_bool, ↓fIsi_non_tuple, ↓fIsi_non_str, ↓fIsi_non_list, ↓fIsi_bl_int, ↓fIsi_bl_bool, ↓fIsi_bl_tuple, ↓fIsi_bl_str, ↓fIsi_bl_list, ↓fIsi_int_int, ↓fIsi_int_bool, ↓fIsi_int_tuple, ↓fIsi_int_str, ↓fIsi_int_list, ↓fIsi_str_int, ↓fIsi_str_bool, ↓fIsi_str_tuple, ↓fIsi_str_str, ↓fIsi_str_list, ↓fIsi_tup_int, ↓fIsi_tup_bool, ↓fIsi_tup_tuple, ↓fIsi_tup_str, ↓fIsi_tup_list, ↓fIsi_lst_int, ↓fIsi_lst_bool, ↓fIsi_lst_tuple, ↓fIsi_lst_str, ↓fIsi_lst_list, ↓rngK_3, ↓rngK_4, ↓rngK_6, ↓rngK_9, ↓rngK_5, ↓cut_from0, ↓cut_to0, ↓cut_from1, ↓cut_to1, ↓cut_from2, ↓cut_to2, ↓cut_from3, ↓cut_to3, ↓cut_from4, ↓cut_to4, ↓cut_from5, ↓cut_to5, ↓fRevT_t, true_and, and_true, Int.reduceAdd, Int.reduceSub, Int.reduceNeg, Int.zero_add, Nat.reduceAdd, Int.cast_ofNat_Int, Bool.not_true, Bool.not_false, Int.reduceBEq, beq_self_eq_true]
    refine ne_lst (by decide +kernel) ?_
    simp -dsimp -implicitDefEqProofs only [↓e_exc, ↓e_isV, ↓isXK_e, ↓e_var0, ↓e_varS, ↓e_c, ↓e_bin, ↓e_una, ↓e_tst, ↓chK_b, ↓e_chain, ↓e_andT, ↓e_orT, ↓e_notT, ↓e_and, ↓e_or, ↓e_not, ↓negK_b, ↓tstK_b, ↓e_if, ↓iteK_t, ↓iteK_f, ↓e_nil, ↓e_cons, ↓e_tup, ↓e_lst, ↓e_lstM, ↓e_fn, ↓e_noPart, ↓e_part, ↓partK_i, ↓e_sl, ↓fSl_l, ↓fSl_t, ↓e_call, ↓e_iseq, ↓seqK_l, ↓seqK_t, ↓e_notV, ↓negV_b, ↓negV_i, ↓e_while, ↓e_irng, ↓e_izip, ↓zipK_l, ↓zipK_t, ↓zipL_c, ↓zipL_n, ↓e_comp, ↓compK_n, ↓compK_c, ↓e_yes, ↓wipeK_n, ↓wipeK_c, ↓setK_z, ↓setK_s, ↓startK_c, ↓startK_s, ↓startK_z, ↓e_fnW, ↓e_next, ↓e_seq, ↓e_brk, ↓e_cnt, ↓e_exp, ↓e_ret, ↓e_retN, ↓e_sif, ↓e_asg, ↓e_par, ↓par2_e, ↓e_par3, ↓par3_e, ↓e_for, ↓e_raise, ↓e_gnm, ↓e_gnl, ↓e_gcn, ↓e_gtp, ↓e_gtpL, ↓cntK_c, ↓cntK_n, ↓e_err, ↓errK_s, ↓fAdd_i, ↓fAdd_t, ↓fAdd_l, ↓appK_c, ↓appK_n, ↓fSub_i, ↓fMul_i, ↓fDiv_i, ↓fMod_i, ↓fNeg_i, ↓fLt_i, ↓fLe_i, ↓fGt_i, ↓fGe_i, ↓fEq_i, ↓fNe_i, ↓fEq_b, ↓fNe_b, ↓fIsB_b, ↓fNotB_b, ↓fLen_t, ↓fLen_l, ↓lenK_c, ↓lenK_n, ↓fAbs_i, ↓fMin2_i, ↓fInt_i, ↓fTuple_l, ↓fTuple_t, ↓fList_l, ↓fList_t, ↓fAll_l, ↓fAny_l, ↓fSum_l, ↓fMax_l, ↓blsK_c, ↓blsK_n, ↓intsK_c, ↓intsK_n, ↓fIx_t, ↓fIx_l, ↓atK_0, ↓atK_1, ↓atK_2, ↓atK_3, ↓atK_4, ↓atK_5, ↓atK_6, ↓atK_7, ↓fIsi_non_int, ↓fIsi_non_bool, ↓fIsi_non_tuple, ↓fIsi_non_str, ↓fIsi_non_list, ↓fIsi_bl_int, ↓fIsi_bl_bool, ↓fIsi_bl_tuple, ↓fIsi_bl_str, ↓fIsi_bl_list, ↓fIsi_int_int, ↓fIsi_int_bool, ↓fIsi_int_tuple, ↓fIsi_int_str, ↓fIsi_int_list, ↓fIsi_str_int, ↓fIsi_str_bool, ↓fIsi_str_tuple, ↓fIsi_str_str, ↓fIsi_str_list, ↓fIsi_tup_int, ↓fIsi_tup_bool, ↓fIsi_tup_tuple, ↓fIsi_tup_str, ↓fIsi_tup_list, ↓fIsi_lst_int, ↓fIsi_lst_bool, ↓fIsi_lst_tuple, ↓fIsi_lst_str, ↓fIsi_lst_list, ↓rngK_3, ↓rngK_4, ↓rngK_6, ↓rngK_9, ↓rngK_5, ↓cut_from0, ↓cut_to0, ↓cut_from1, ↓cut_to1, ↓cut_from2, ↓cut_to2, ↓cut_from3, ↓cut_to3, ↓cut_from4, ↓cut_to4, ↓cut_from5, ↓cut_to5, ↓fRevT_t, true_and, and_true, Int.reduceAdd, Int.reduceSub, Int.reduceNeg, Int.zero_add, Nat.reduceAdd, Int.cast_ofNat_Int, Bool.not_true, Bool.not_false, Int.reduceBEq, beq_self_eq_true]
    refine ⟨by decide, ?_⟩
    refine iscr_i hk hl ?_
    refine compK_filter (fun d => match d with | .int z => decide (-10000000000000000000000000000000000000000 < z) && decide (z < 10000000000000000000000000000000000000000) | _ => false) (fun d => [some x, some (.lst ALLD), y2, y3, none, some d, none]) ?_ ?_ ?_ ?_
    · intro d hd Ψ h
      simp -dsimp -implicitDefEqProofs only [↓e_var0, ↓e_varS, ↓e_c, ↓e_bin, ↓e_una, ↓e_tst, ↓chK_b, ↓e_chain, ↓e_andT, ↓e_orT, ↓e_notT, ↓e_and, ↓e_or, ↓e_not, ↓negK_b, ↓tstK_b, ↓e_if, ↓iteK_t, ↓iteK_f, ↓e_nil, ↓e_cons, ↓e_tup, ↓e_lst, ↓e_lstM, ↓e_fn, ↓e_noPart, ↓e_part, ↓partK_i, ↓e_sl, ↓fSl_l, ↓fSl_t, ↓e_call, ↓e_iseq, ↓seqK_l, ↓seqK_t, ↓e_notV, ↓negV_b, ↓negV_i, ↓e_while, ↓e_irng, ↓e_izip, ↓zipK_l, ↓zipK_t, ↓zipL_c, ↓zipL_n, ↓e_comp, ↓compK_n, ↓compK_c, ↓e_yes, ↓wipeK_n, ↓wipeK_c, ↓setK_z, ↓setK_s, ↓startK_c, ↓startK_s, ↓startK_z, ↓e_fnW, ↓e_next, ↓e_seq, ↓e_brk, ↓e_cnt, ↓e_exp, ↓e_ret, ↓e_retN, ↓e_sif, ↓e_asg, ↓e_par, ↓par2_e, ↓e_par3, ↓par3_e, ↓e_for, ↓e_raise, ↓e_gnm, ↓e_gnl, ↓e_gcn, ↓e_gtp, ↓e_gtpL, ↓cntK_c, ↓cntK_n, ↓e_err, ↓errK_s, ↓fAdd_i, ↓fAdd_t, ↓fAdd_l, ↓appK_c, ↓appK_n, ↓fSub_i, ↓fMul_i, ↓fDiv_i, ↓fMod_i, ↓fNeg_i, ↓fLt_i, ↓fLe_i, ↓fGt_i, ↓fGe_i, ↓fEq_i, ↓fNe_i, ↓fEq_b, ↓fNe_b, ↓fIsB_b, ↓fNotB_b, ↓fLen_t, ↓fLen_l, ↓lenK_c, ↓lenK_n, ↓fAbs_i, ↓fMin2_i, ↓fInt_i, ↓fTuple_l, ↓fTuple_t, ↓fList_l, ↓fList_t, ↓fAll_l, ↓fAny_l, ↓fSum_l, ↓fMax_l, ↓blsK_c, ↓blsK_n, ↓intsK_c, ↓intsK_n, ↓fIx_t, ↓fIx_l, ↓atK_0, ↓atK_1, ↓atK_2, ↓atK_3, ↓atK_4, ↓atK_5, ↓atK_6, ↓atK_7, ↓fIsi_non_int, ↓fIsi_non_bool, ↓fIsi_non_tuple, ↓fIsi_non_str, ↓fIsi_non_list, ↓fIsi_bl_int, ↓fIsi_bl_bool, ↓fIsi_bl_tuple, ↓fIsi_bl_str, ↓fIsi_bl_list, ↓fIsi_int_int, ↓fIsi_int_bool, ↓fIsi_int_tuple, ↓fIsi_int_str, ↓fIsi_int_list, ↓fIsi_str_int, ↓fIsi_str_bool, ↓fIsi_str_tuple, ↓fIsi_str_str, ↓fIsi_str_list, ↓fIsi_tup_int, ↓fIsi_tup_bool, ↓fIsi_tup_tuple, ↓fIsi_tup_str, ↓fIsi_tup_list, ↓fIsi_lst_int, ↓fIsi_lst_bool, ↓fIsi_lst_tuple, ↓fIsi_lst_str, ↓fIsi_lst_list, ↓rngK_3, ↓rngK_4, ↓rngK_6, ↓rngK_9, ↓rngK_5, ↓cut_from0, ↓cut_to0, ↓cut_from1, ↓cut_to1, ↓cut_from2, ↓cut_to2, ↓cut_from3, ↓cut_to3, ↓cut_from4, ↓cut_to4, ↓cut_from5, ↓cut_to5, ↓fRevT_t, true_and, and_true, Int.reduceAdd, Int.reduceSub, Int.reduceNeg, Int.zero_add, Nat.reduceAdd, Int.cast_ofNat_Int, Bool.not_true, Bool.not_false, Int.reduceBEq, beq_self_eq_true]
      exact h
    · intro d hd Ψ h
      obtain ⟨z, _, rfl⟩ := List.mem_map.mp hd
      have h : Ψ (decide (-10000000000000000000000000000000000000000 < z) && decide (z < 10000000000000000000000000000000000000000)) S1 := h
      simp -dsimp -implicitDefEqProofs only [↓fPow_40, ↓e_var0, ↓e_varS, ↓e_c, ↓e_bin, ↓e_una, ↓e_tst, ↓chK_b, ↓e_chain, ↓e_andT, ↓e_orT, ↓e_notT, ↓e_and, ↓e_or, ↓e_not, ↓negK_b, ↓tstK_b, ↓e_if, ↓iteK_t, ↓iteK_f, ↓e_nil, ↓e_cons, ↓e_tup, ↓e_lst, ↓e_lstM, ↓e_fn, ↓e_noPart, ↓e_part, ↓partK_i, ↓e_sl, ↓fSl_l, ↓fSl_t, ↓e_call, ↓e_iseq, ↓seqK_l, ↓seqK_t, ↓e_notV, ↓negV_b, ↓negV_i, ↓e_while, ↓e_irng, ↓e_izip, ↓zipK_l, ↓zipK_t, ↓zipL_c, ↓zipL_n, ↓e_comp, ↓compK_n, ↓compK_c, ↓e_yes, ↓wipeK_n, ↓wipeK_c, ↓setK_z, ↓setK_s, ↓startK_c, ↓startK_s, ↓startK_z, ↓e_fnW, ↓e_next, ↓e_seq, ↓e_brk, ↓e_cnt, ↓e_exp, ↓e_ret, ↓e_retN, ↓e_sif, ↓e_asg, ↓e_par, ↓par2_e, ↓e_par3, ↓par3_e, ↓e_for, ↓e_raise, ↓e_gnm, ↓e_gnl, ↓e_gcn, ↓e_gtp, ↓e_gtpL, ↓cntK_c, ↓cntK_n, ↓e_err, ↓errK_s, ↓fAdd_i, ↓fAdd_t, ↓fAdd_l, ↓appK_c, ↓appK_n, ↓fSub_i, ↓fMul_i, ↓fDiv_i, ↓fMod_i, ↓fNeg_i, ↓fLt_i, ↓fLe_i, ↓fGt_i, ↓fGe_i, ↓fEq_i, ↓fNe_i, ↓fEq_b, ↓fNe_b, ↓fIsB_b, ↓fNotB_b, ↓fLen_t, ↓fLen_l, ↓lenK_c, ↓lenK_n, ↓fAbs_i, ↓fMin2_i, ↓fInt_i, ↓fTuple_l, ↓fTuple_t, ↓fList_l, ↓fList_t, ↓fAll_l, ↓fAny_l, ↓fSum_l, ↓fMax_l, ↓blsK_c, ↓blsK_n, ↓intsK_c, ↓intsK_n, ↓fIx_t, ↓fIx_l, ↓atK_0, ↓atK_1, ↓atK_2, ↓atK_3, ↓atK_4, ↓atK_5, ↓atK_6, ↓atK_7, ↓fIsi_non_int, ↓fIsi_non_bool, ↓fIsi_non_tuple, ↓fIsi_non_str, ↓fIsi_non_list, ↓fIsi_bl_int, ↓fIsi_bl_bool, ↓fIsi_bl_tuple, ↓fIsi_bl_str, ↓fIsi_bl_list, ↓fIsi_int_int, ↓fIsi_int_bool, ↓fIsi_int_tuple, ↓fIsi_int_str, ↓fIsi_int_list, ↓fIsi_str_int, ↓fIsi_str_bool, ↓fIsi_str_tuple, ↓fIsi_str_str, ↓fIsi_str_list, ↓fIsi_tup_int, ↓fIsi_tup_bool, ↓fIsi_tup_tuple, ↓fIsi_tup_str, ↓fIsi_tup_list, ↓fIsi_lst_int, ↓fIsi_lst_bool, ↓fIsi_lst_tuple, ↓fIsi_lst_str, ↓fIsi_lst_list, ↓rngK_3, ↓rngK_4, ↓rngK_6, ↓rngK_9, ↓rngK_5, ↓cut_from0, ↓cut_to0, ↓cut_from1, ↓cut_to1, ↓cut_from2, ↓cut_to2, ↓cut_from3, ↓cut_to3, ↓cut_from4, ↓cut_to4, ↓cut_from5, ↓cut_to5, ↓fRevT_t, true_and, and_true, Int.reduceAdd, Int.reduceSub, Int.reduceNeg, Int.zero_add, Nat.reduceAdd, Int.cast_ofNat_Int, Bool.not_true, Bool.not_false, Int.reduceBEq, beq_self_eq_true]
      refine ite_i (fun e => ?_) (fun e => ?_)
      · rw [e, Bool.true_and] at h
        simp -dsimp -implicitDefEqProofs only [↓fPow_40, ↓e_var0, ↓e_varS, ↓e_c, ↓e_bin, ↓e_una, ↓e_tst, ↓chK_b, ↓e_chain, ↓e_andT, ↓e_orT, ↓e_notT, ↓e_and, ↓e_or, ↓e_not, ↓negK_b, ↓tstK_b, ↓e_if, ↓iteK_t, ↓iteK_f, ↓e_nil, ↓e_cons, ↓e_tup, ↓e_lst, ↓e_lstM, ↓e_fn, ↓e_noPart, ↓e_part, ↓partK_i, ↓e_sl, ↓fSl_l, ↓fSl_t, ↓e_call, ↓e_iseq, ↓seqK_l, ↓seqK_t, ↓e_notV, ↓negV_b, ↓negV_i, ↓e_while, ↓e_irng, ↓e_izip, ↓zipK_l, ↓zipK_t, ↓zipL_c, ↓zipL_n, ↓e_comp, ↓compK_n, ↓compK_c, ↓e_yes, ↓wipeK_n, ↓wipeK_c, ↓setK_z, ↓setK_s, ↓startK_c, ↓startK_s, ↓startK_z, ↓e_fnW, ↓e_next, ↓e_seq, ↓e_brk, ↓e_cnt, ↓e_exp, ↓e_ret, ↓e_retN, ↓e_sif, ↓e_asg, ↓e_par, ↓par2_e, ↓e_par3, ↓par3_e, ↓e_for, ↓e_raise, ↓e_gnm, ↓e_gnl, ↓e_gcn, ↓e_gtp, ↓e_gtpL, ↓cntK_c, ↓cntK_n, ↓e_err, ↓errK_s, ↓fAdd_i, ↓fAdd_t, ↓fAdd_l, ↓appK_c, ↓appK_n, ↓fSub_i, ↓fMul_i, ↓fDiv_i, ↓fMod_i, ↓fNeg_i, ↓fLt_i, ↓fLe_i, ↓fGt_i, ↓fGe_i, ↓fEq_i, ↓fNe_i, ↓fEq_b, ↓fNe_b, ↓fIsB_b, ↓fNotB_b, ↓fLen_t, ↓fLen_l, ↓lenK_c, ↓lenK_n, ↓fAbs_i, ↓fMin2_i, ↓fInt_i, ↓fTuple_l, ↓fTuple_t, ↓fList_l, ↓fList_t, ↓fAll_l, ↓fAny_l, ↓fSum_l, ↓fMax_l, ↓blsK_c, ↓blsK_n, ↓intsK_c, ↓intsK_n, ↓fIx_t, ↓fIx_l, ↓atK_0, ↓atK_1, ↓atK_2, ↓atK_3, ↓atK_4, ↓atK_5, ↓atK_6, ↓atK_7, ↓fIsi_non_int, ↓fIsi_non_bool, ↓fIsi_non_tuple, ↓fIsi_non_str, ↓fIsi_non_list, ↓fIsi_bl_int, ↓fIsi_bl_bool, ↓fIsi_bl_tuple, ↓fIsi_bl_str, ↓fIsi_bl_list, ↓fIsi_int_int, ↓fIsi_int_bool, ↓fIsi_int_tuple, ↓fIsi_int_str, ↓fIsi_int_list, ↓fIsi_str_int, ↓fIsi_str_bool, ↓fIsi_str_tuple, ↓fIsi_str_str, ↓fIsi_str_list, ↓fIsi_tup_int, ↓fIsi_tup_bool, ↓fIsi_tup_tuple, ↓fIsi_tup_str, ↓fIsi_tup_list, ↓fIsi_lst_int, ↓fIsi_lst_bool, ↓fIsi_lst_tuple, ↓fIsi_lst_str, ↓fIsi_lst_list, ↓rngK_3, ↓rngK_4, ↓rngK_6, ↓rngK_9, ↓rngK_5, ↓cut_from0, ↓cut_to0, ↓cut_from1, ↓cut_to1, ↓cut_from2, ↓cut_to2, ↓cut_from3, ↓cut_to3, ↓cut_from4, ↓cut_to4, ↓cut_from5, ↓cut_to5, ↓fRevT_t, true_and, and_true, Int.reduceAdd, Int.reduceSub, Int.reduceNeg, Int.zero_add, Nat.reduceAdd, Int.cast_ofNat_Int, Bool.not_true, Bool.not_false, Int.reduceBEq, beq_self_eq_true]
        exact h
      · rw [e, Bool.false_and] at h
        simp -dsimp -implicitDefEqProofs only [↓e_var0, ↓e_varS, ↓e_c, ↓e_bin, ↓e_una, ↓e_tst, ↓chK_b, ↓e_chain, ↓e_andT, ↓e_orT, ↓e_notT, ↓e_and, ↓e_or, ↓e_not, ↓negK_b, ↓tstK_b, ↓e_if, ↓iteK_t, ↓iteK_f, ↓e_nil, ↓e_cons, ↓e_tup, ↓e_lst, ↓e_lstM, ↓e_fn, ↓e_noPart, ↓e_part, ↓partK_i, ↓e_sl, ↓fSl_l, ↓fSl_t, ↓e_call, ↓e_iseq, ↓seqK_l, ↓seqK_t, ↓e_notV, ↓negV_b, ↓negV_i, ↓e_while, ↓e_irng, ↓e_izip, ↓zipK_l, ↓zipK_t, ↓zipL_c, ↓zipL_n, ↓e_comp, ↓compK_n, ↓compK_c, ↓e_yes, ↓wipeK_n, ↓wipeK_c, ↓setK_z, ↓setK_s, ↓startK_c, ↓startK_s, ↓startK_z, ↓e_fnW, ↓e_next, ↓e_seq, ↓e_brk, ↓e_cnt, ↓e_exp, ↓e_ret, ↓e_retN, ↓e_sif, ↓e_asg, ↓e_par, ↓par2_e, ↓e_par3, ↓par3_e, ↓e_for, ↓e_raise, ↓e_gnm, ↓e_gnl, ↓e_gcn, ↓e_gtp, ↓e_gtpL, ↓cntK_c, ↓cntK_n, ↓e_err, ↓errK_s, ↓fAdd_i, ↓fAdd_t, ↓fAdd_l, ↓appK_c, ↓appK_n, ↓fSub_i, ↓fMul_i, ↓fDiv_i, ↓fMod_i, ↓fNeg_i, ↓fLt_i, ↓fLe_i, ↓fGt_i, ↓fGe_i, ↓fEq_i, ↓fNe_i, ↓fEq_b, ↓fNe_b, ↓fIsB_b, ↓fNotB_b, ↓fLen_t, ↓fLen_l, ↓lenK_c, ↓lenK_n, ↓fAbs_i, ↓fMin2_i, ↓fInt_i, ↓fTuple_l, ↓fTuple_t, ↓fList_l, ↓fList_t, ↓fAll_l, ↓fAny_l, ↓fSum_l, ↓fMax_l, ↓blsK_c, ↓blsK_n, ↓intsK_c, ↓intsK_n, ↓fIx_t, ↓fIx_l, ↓atK_0, ↓atK_1, ↓atK_2, ↓atK_3, ↓atK_4, ↓atK_5, ↓atK_6, ↓atK_7, ↓fIsi_non_int, ↓fIsi_non_bool, ↓fIsi_non_tuple, ↓fIsi_non_str, ↓fIsi_non_list, ↓fIsi_bl_int, ↓fIsi_bl_bool, ↓fIsi_bl_tuple, ↓fIsi_bl_str, ↓fIsi_bl_list, ↓fIsi_int_int, ↓fIsi_int_bool, ↓fIsi_int_tuple, ↓fIsi_int_str, ↓fIsi_int_list, ↓fIsi_str_int, ↓fIsi_str_bool, ↓fIsi_str_tuple, ↓fIsi_str_str, ↓fIsi_str_list, ↓fIsi_tup_int, ↓fIsi_tup_bool, ↓fIsi_tup_tuple, ↓fIsi_tup_str, ↓fIsi_tup_list, ↓fIsi_lst_int, ↓fIsi_lst_bool, ↓fIsi_lst_tuple, ↓fIsi_lst_str, ↓fIsi_lst_list, ↓rngK_3, ↓rngK_4, ↓rngK_6, ↓rngK_9, ↓rngK_5, ↓cut_from0, ↓cut_to0, ↓cut_from1, ↓cut_to1, ↓cut_from2, ↓cut_to2, ↓cut_from3, ↓cut_to3, ↓cut_from4, ↓cut_to4, ↓cut_from5, ↓cut_to5, ↓fRevT_t, true_and, and_true, Int.reduceAdd, Int.reduceSub, Int.reduceNeg, Int.zero_add, Nat.reduceAdd, Int.cast_ofNat_Int, Bool.not_true, Bool.not_false, Int.reduceBEq, beq_self_eq_true]
        exact h
    · intro d hd Ψ h
      simp -dsimp -implicitDefEqProofs only [↓e_var0, ↓e_varS, ↓e_c, ↓e_bin, ↓e_una, ↓e_tst, ↓chK_b, ↓e_chain, ↓e_andT, ↓e_orT, ↓e_notT, ↓e_and, ↓e_or, ↓e_not, ↓negK_b, ↓tstK_b, ↓e_if, ↓iteK_t, ↓iteK_f, ↓e_nil, ↓e_cons, ↓e_tup, ↓e_lst, ↓e_lstM, ↓e_fn, ↓e_noPart, ↓e_part, ↓partK_i, ↓e_sl, ↓fSl_l, ↓fSl_t, ↓e_call, ↓e_iseq, ↓seqK_l, ↓seqK_t, ↓e_notV, ↓negV_b, ↓negV_i, ↓e_while, ↓e_irng, ↓e_izip, ↓zipK_l, ↓zipK_t, ↓zipL_c, ↓zipL_n, ↓e_comp, ↓compK_n, ↓compK_c, ↓e_yes, ↓wipeK_n, ↓wipeK_c, ↓setK_z, ↓setK_s, ↓startK_c, ↓startK_s, ↓startK_z, ↓e_fnW, ↓e_next, ↓e_seq, ↓e_brk, ↓e_cnt, ↓e_exp, ↓e_ret, ↓e_retN, ↓e_sif, ↓e_asg, ↓e_par, ↓par2_e, ↓e_par3, ↓par3_e, ↓e_for, ↓e_raise, ↓e_gnm, ↓e_gnl, ↓e_gcn, ↓e_gtp, ↓e_gtpL, ↓cntK_c, ↓cntK_n, ↓e_err, ↓errK_s, ↓fAdd_i, ↓fAdd_t, ↓fAdd_l, ↓appK_c, ↓appK_n, ↓fSub_i, ↓fMul_i, ↓fDiv_i, ↓fMod_i, ↓fNeg_i, ↓fLt_i, ↓fLe_i, ↓fGt_i, ↓fGe_i, ↓fEq_i, ↓fNe_i, ↓fEq_b, ↓fNe_b, ↓fIsB_b, ↓fNotB_b, ↓fLen_t, ↓fLen_l, ↓lenK_c, ↓lenK_n, ↓fAbs_i, ↓fMin2_i, ↓fInt_i, ↓fTuple_l, ↓fTuple_t, ↓fList_l, ↓fList_t, ↓fAll_l, ↓fAny_l, ↓fSum_l, ↓fMax_l, ↓blsK_c, ↓blsK_n, ↓intsK_c, ↓intsK_n, ↓fIx_t, ↓fIx_l, ↓atK_0, ↓atK_1, ↓atK_2, ↓atK_3, ↓atK_4, ↓atK_5, ↓atK_6, ↓atK_7, ↓fIsi_non_int, ↓fIsi_non_bool, ↓fIsi_non_tuple, ↓fIsi_non_str, ↓fIsi_non_list, ↓fIsi_bl_int, ↓fIsi_bl_bool, ↓fIsi_bl_tuple, ↓fIsi_bl_str, ↓fIsi_bl_list, ↓fIsi_int_int, ↓fIsi_int_bool, ↓fIsi_int_tuple, ↓fIsi_int_str, ↓fIsi_int_list, ↓fIsi_str_int, ↓fIsi_str_bool, ↓fIsi_str_tuple, ↓fIsi_str_str, ↓fIsi_str_list, ↓fIsi_tup_int, ↓fIsi_tup_bool, ↓fIsi_tup_tuple, ↓fIsi_tup_str, ↓fIsi_tup_list, ↓fIsi_lst_int, ↓fIsi_lst_bool, ↓fIsi_lst_tuple, ↓fIsi_lst_str, ↓fIsi_lst_list, ↓rngK_3, ↓rngK_4, ↓rngK_6, ↓rngK_9, ↓rngK_5, ↓cut_from0, ↓cut_to0, ↓cut_from1, ↓cut_to1, ↓cut_from2, ↓cut_to2, ↓cut_from3, ↓cut_to3, ↓cut_from4, ↓cut_to4, ↓cut_from5, ↓cut_to5, ↓fRevT_t, true_and, and_true, Int.reduceAdd, Int.reduceSub, Int.reduceNeg, Int.zero_add, Nat.reduceAdd, Int.cast_ofNat_Int, Bool.not_true, Bool.not_false, Int.reduceBEq, beq_self_eq_true]
      exact h
    · simp -dsimp -implicitDefEqProofs only [↓appK_v, ↓e_var0, ↓e_varS, ↓e_c, ↓e_bin, ↓e_una, ↓e_tst, ↓chK_b, ↓e_chain, ↓e_andT, ↓e_orT, ↓e_notT, ↓e_and, ↓e_or, ↓e_not, ↓negK_b, ↓tstK_b, ↓e_if, ↓iteK_t, ↓iteK_f, ↓e_nil, ↓e_cons, ↓e_tup, ↓e_lst, ↓e_lstM, ↓e_fn, ↓e_noPart, ↓e_part, ↓partK_i, ↓e_sl, ↓fSl_l, ↓fSl_t, ↓e_call, ↓e_iseq, ↓seqK_l, ↓seqK_t, ↓e_notV, ↓negV_b, ↓negV_i, ↓e_while, ↓e_irng, ↓e_izip, ↓zipK_l, ↓zipK_t, ↓zipL_c, ↓zipL_n, ↓e_comp, ↓compK_n, ↓compK_c, ↓e_yes, ↓wipeK_n, ↓wipeK_c, ↓setK_z, ↓setK_s, ↓startK_c, ↓startK_s, ↓startK_z, ↓e_fnW, ↓e_next, ↓e_seq, ↓e_brk, ↓e_cnt, ↓e_exp, ↓e_ret, ↓e_retN, ↓e_sif, ↓e_asg, ↓e_par, ↓par2_e, ↓e_par3, ↓par3_e, ↓e_for, ↓e_raise, ↓e_gnm, ↓e_gnl, ↓e_gcn, ↓e_gtp, ↓e_gtpL, ↓cntK_c, ↓cntK_n, ↓e_err, ↓errK_s, ↓fAdd_i, ↓fAdd_t, ↓fAdd_l, ↓appK_c, ↓appK_n, ↓fSub_i, ↓fMul_i, ↓fDiv_i, ↓fMod_i, ↓fNeg_i, ↓fLt_i, ↓fLe_i, ↓fGt_i, ↓fGe_i, ↓fEq_i, ↓fNe_i, ↓fEq_b, ↓fNe_b, ↓fIsB_b, ↓fNotB_b, ↓fLen_t, ↓fLen_l, ↓lenK_c, ↓lenK_n, ↓fAbs_i, ↓fMin2_i, ↓fInt_i, ↓fTuple_l, ↓fTuple_t, ↓fList_l, ↓fList_t, ↓fAll_l, ↓fAny_l, ↓fSum_l, ↓fMax_l, ↓blsK_c, ↓blsK_n, ↓intsK_c, ↓intsK_n, ↓fIx_t, ↓fIx_l, ↓atK_0, ↓atK_1, ↓atK_2, ↓atK_3, ↓atK_4, ↓atK_5, ↓atK_6, ↓atK_7, ↓fIsi_non_int, ↓fIsi_non_bool, ↓fIsi_non_tuple, ↓fIsi_non_str, ↓fIsi_non_list, ↓fIsi_bl_int, ↓fIsi_bl_bool, ↓fIsi_bl_tuple, ↓fIsi_bl_str, ↓fIsi_bl_list, ↓fIsi_int_int, ↓fIsi_int_bool, ↓fIsi_int_tuple, ↓fIsi_int_str, ↓fIsi_int_list, ↓fIsi_str_int, ↓fIsi_str_bool, ↓fIsi_str_tuple, ↓fIsi_str_str, ↓fIsi_str_list, ↓fIsi_tup_int, ↓fIsi_tup_bool, ↓fIsi_tup_tuple, ↓fIsi_tup_str, ↓fIsi_tup_list, ↓fIsi_lst_int, ↓fIsi_lst_bool, ↓fIsi_lst_tuple, ↓fIsi_lst_str, ↓fIsi_lst_list, ↓rngK_3, ↓rngK_4, ↓rngK_6, ↓rngK_9, ↓rngK_5, ↓cut_from0, ↓cut_to0, ↓cut_from1, ↓cut_to1, ↓cut_from2, ↓cut_to2, ↓cut_from3, ↓cut_to3, ↓cut_from4, ↓cut_to4, ↓cut_from5, ↓cut_to5, ↓fRevT_t, true_and, and_true, Int.reduceAdd, Int.reduceSub, Int.reduceNeg, Int.zero_add, Nat.reduceAdd, Int.cast_ofNat_Int, Bool.not_true, Bool.not_false, Int.reduceBEq, beq_self_eq_true]
      generalize hf : List.filter _ (List.map D.int ns) = fs
      have hfl : fs.length ≤ 63 := by
        rw [← hf]
        exact Nat.le_trans (List.length_filter_le _ _) (by rw [List.length_map]; exact hl)
      have hfi : ∀ d ∈ fs, ∃ z, d = .int z := fun d hd => by
        rw [← hf] at hd
        obtain ⟨z, _, rfl⟩ := List.mem_map.mp (List.mem_filter.mp hd).1
        exact ⟨z, rfl⟩
      refine ⟨by rw [sizeLine_eq]; show 1 + fs.length ≤ _; omega, ?_⟩
      refine forK_inv (fun ρ _ => ∃ y4, ρ = [some x, some (.lst ALLD), y2, y3, y4, none, none]) (fun _ _ _ => trivial) ?_ ?_ ⟨_, rfl⟩
      · rintro ρ S2 ⟨y4, rfl⟩
        simp -dsimp -implicitDefEqProofs only [↓e_var0, ↓e_varS, ↓e_c, ↓e_bin, ↓e_una, ↓e_tst, ↓chK_b, ↓e_chain, ↓e_andT, ↓e_orT, ↓e_notT, ↓e_and, ↓e_or, ↓e_not, ↓negK_b, ↓tstK_b, ↓e_if, ↓iteK_t, ↓iteK_f, ↓e_nil, ↓e_cons, ↓e_tup, ↓e_lst, ↓e_lstM, ↓e_fn, ↓e_noPart, ↓e_part, ↓partK_i, ↓e_sl, ↓fSl_l, ↓fSl_t, ↓e_call, ↓e_iseq, ↓seqK_l, ↓seqK_t, ↓e_notV, ↓negV_b, ↓negV_i, ↓e_while, ↓e_irng, ↓e_izip, ↓zipK_l, ↓zipK_t, ↓zipL_c, ↓zipL_n, ↓e_comp, ↓compK_n, ↓compK_c, ↓e_yes, ↓wipeK_n, ↓wipeK_c, ↓setK_z, ↓setK_s, ↓startK_c, ↓startK_s, ↓startK_z, ↓e_fnW, ↓e_next, ↓e_seq, ↓e_brk, ↓e_cnt, ↓e_exp, ↓e_ret, ↓e_retN, ↓e_sif, ↓e_asg, ↓e_par, ↓par2_e, ↓e_par3, ↓par3_e, ↓e_for, ↓e_raise, ↓e_gnm, ↓e_gnl, ↓e_gcn, ↓e_gtp, ↓e_gtpL, ↓cntK_c, ↓cntK_n, ↓e_err, ↓errK_s, ↓fAdd_i, ↓fAdd_t, ↓fAdd_l, ↓appK_c, ↓appK_n, ↓fSub_i, ↓fMul_i, ↓fDiv_i, ↓fMod_i, ↓fNeg_i, ↓fLt_i, ↓fLe_i, ↓fGt_i, ↓fGe_i, ↓fEq_i, ↓fNe_i, ↓fEq_b, ↓fNe_b, ↓fIsB_b, ↓fNotB_b, ↓fLen_t, ↓fLen_l, ↓lenK_c, ↓lenK_n, ↓fAbs_i, ↓fMin2_i, ↓fInt_i, ↓fTuple_l, ↓fTuple_t, ↓fList_l, ↓fList_t, ↓fAll_l, ↓fAny_l, ↓fSum_l, ↓fMax_l, ↓blsK_c, ↓blsK_n, ↓intsK_c, ↓intsK_n, ↓fIx_t, ↓fIx_l, ↓atK_0, ↓atK_1, ↓atK_2, ↓atK_3, ↓atK_4, ↓atK_5, ↓atK_6, ↓atK_7, ↓fIsi_non_int, ↓fIsi_non_bool, ↓fIsi_non_tuple, ↓fIsi_non_str, ↓fIsi_non_list, ↓fIsi_bl_int, ↓fIsi_bl_bool, ↓fIsi_bl_tuple, ↓fIsi_bl_str, ↓fIsi_bl_list, ↓fIsi_int_int, ↓fIsi_int_bool, ↓fIsi_int_tuple, ↓fIsi_int_str, ↓fIsi_int_list, ↓fIsi_str_int, ↓fIsi_str_bool, ↓fIsi_str_tuple, ↓fIsi_str_str, ↓fIsi_str_list, ↓fIsi_tup_int, ↓fIsi_tup_bool, ↓fIsi_tup_tuple, ↓fIsi_tup_str, ↓fIsi_tup_list, ↓fIsi_lst_int, ↓fIsi_lst_bool, ↓fIsi_lst_tuple, ↓fIsi_lst_str, ↓fIsi_lst_list, ↓rngK_3, ↓rngK_4, ↓rngK_6, ↓rngK_9, ↓rngK_5, ↓cut_from0, ↓cut_to0, ↓cut_from1, ↓cut_to1, ↓cut_from2, ↓cut_to2, ↓cut_from3, ↓cut_to3, ↓cut_from4, ↓cut_to4, ↓cut_from5, ↓cut_to5, ↓fRevT_t, true_and, and_true, Int.reduceAdd, Int.reduceSub, Int.reduceNeg, Int.zero_add, Nat.reduceAdd, Int.cast_ofNat_Int, Bool.not_true, Bool.not_false, Int.reduceBEq, beq_self_eq_true]
        refine plain_ok ?_
        unfold PLAIN
        simp -dsimp -implicitDefEqProofs only [↓e_strX, ↓strK_e, ↓e_var0, ↓e_varS, ↓e_c, ↓e_bin, ↓e_una, ↓e_tst, ↓chK_b, ↓e_chain, ↓e_andT, ↓e_orT, ↓e_notT, ↓e_and, ↓e_or, ↓e_not, ↓negK_b, ↓tstK_b, ↓e_if, ↓iteK_t, ↓iteK_f, ↓e_nil, ↓e_cons, ↓e_tup, ↓e_lst, ↓e_lstM, ↓e_fn, ↓e_noPart, ↓e_part, ↓partK_i, ↓e_sl, ↓fSl_l, ↓fSl_t, ↓e_call, ↓e_iseq, ↓seqK_l, ↓seqK_t, ↓e_notV, ↓negV_b, ↓negV_i, ↓e_while, ↓e_irng, ↓e_izip, ↓zipK_l, ↓zipK_t, ↓zipL_c, ↓zipL_n, ↓e_comp, ↓compK_n, ↓compK_c, ↓e_yes, ↓wipeK_n, ↓wipeK_c, ↓setK_z, ↓setK_s, ↓startK_c, ↓startK_s, ↓startK_z, ↓e_fnW, ↓e_next, ↓e_seq, ↓e_brk, ↓e_cnt, ↓e_exp, ↓e_ret, ↓e_retN, ↓e_sif, ↓e_asg, ↓e_par, ↓par2_e, ↓e_par3, ↓par3_e, ↓e_for, ↓e_raise, ↓e_gnm, ↓e_gnl, ↓e_gcn, ↓e_gtp, ↓e_gtpL, ↓cntK_c, ↓cntK_n, ↓e_err, ↓errK_s, ↓fAdd_i, ↓fAdd_t, ↓fAdd_l, ↓appK_c, ↓appK_n, ↓fSub_i, ↓fMul_i, ↓fDiv_i, ↓fMod_i, ↓fNeg_i, ↓fLt_i, ↓fLe_i, ↓fGt_i, ↓fGe_i, ↓fEq_i, ↓fNe_i, ↓fEq_b, ↓fNe_b, ↓fIsB_b, ↓fNotB_b, ↓fLen_t, ↓fLen_l, ↓lenK_c, ↓lenK_n, ↓fAbs_i, ↓fMin2_i, ↓fInt_i, ↓fTuple_l, ↓fTuple_t, ↓fList_l, ↓fList_t, ↓fAll_l, ↓fAny_l, ↓fSum_l, ↓fMax_l, ↓blsK_c, ↓blsK_n, ↓intsK_c, ↓intsK_n, ↓fIx_t, ↓fIx_l, ↓atK_0, ↓atK_1, ↓atK_2, ↓atK_3, ↓atK_4, ↓atK_5, ↓atK_6, ↓atK_7, ↓fIsi_non_int, ↓fIsi_non_bool, ↓fIsi_non_tuple, ↓fIsi_non_str, ↓fIsi_non_list, ↓fIsi_bl_int, ↓fIsi_bl_bool, ↓fIsi_bl_tuple, ↓fIsi_bl_str, ↓fIsi_bl_list, ↓fIsi_int_int, ↓fIsi_int_bool, ↓fIsi_int_tuple, ↓fIsi_int_str, ↓fIsi_int_list, ↓fIsi_str_int, ↓fIsi_str_bool, ↓fIsi_str_tuple, ↓fIsi_str_str, ↓fIsi_str_list, ↓fIsi_tup_int, ↓fIsi_tup_bool, ↓fIsi_tup_tuple, ↓fIsi_tup_str, ↓fIsi_tup_list, ↓fIsi_lst_int, ↓fIsi_lst_bool, ↓fIsi_lst_tuple, ↓fIsi_lst_str, ↓fIsi_lst_list, ↓rngK_3, ↓rngK_4, ↓rngK_6, ↓rngK_9, ↓rngK_5, ↓cut_from0, ↓cut_to0, ↓cut_from1, ↓cut_to1, ↓cut_from2, ↓cut_to2, ↓cut_from3, ↓cut_to3, ↓cut_from4, ↓cut_to4, ↓cut_from5, ↓cut_to5, ↓fRevT_t, true_and, and_true, Int.reduceAdd, Int.reduceSub, Int.reduceNeg, Int.zero_add, Nat.reduceAdd, Int.cast_ofNat_Int, Bool.not_true, Bool.not_false, Int.reduceBEq, beq_self_eq_true]
        repeat
          with_reducible refine And.intro ?_ ?_
          · decide
        simp -dsimp -implicitDefEqProofs only [↓fMul_l14, ↓e_var0, ↓e_varS, ↓e_c, ↓e_bin, ↓e_una, ↓e_tst, ↓chK_b, ↓e_chain, ↓e_andT, ↓e_orT, ↓e_notT, ↓e_and, ↓e_or, ↓e_not, ↓negK_b, ↓tstK_b, ↓e_if, ↓iteK_t, ↓iteK_f, ↓e_nil, ↓e_cons, ↓e_tup, ↓e_lst, ↓e_lstM, ↓e_fn, ↓e_noPart, ↓e_part, ↓partK_i, ↓e_sl, ↓fSl_l, ↓fSl_t, ↓e_call, ↓e_iseq, ↓seqK_l, ↓seqK_t, ↓e_notV, ↓negV_b, ↓negV_i, ↓e_while, ↓e_irng, ↓e_izip, ↓zipK_l, ↓zipK_t, ↓zipL_c, ↓zipL_n, ↓e_comp, ↓compK_n, ↓compK_c, ↓e_yes, ↓wipeK_n, ↓wipeK_c, ↓setK_z, ↓setK_s, ↓startK_c, ↓startK_s, ↓startK_z, ↓e_fnW, ↓e_next, ↓e_seq, ↓e_brk, ↓e_cnt, ↓e_exp, ↓e_ret, ↓e_retN, ↓e_sif, ↓e_asg, ↓e_par, ↓par2_e, ↓e_par3, ↓par3_e, ↓e_for, ↓e_raise, ↓e_gnm, ↓e_gnl, ↓e_gcn, ↓e_gtp, ↓e_gtpL, ↓cntK_c, ↓cntK_n, ↓e_err, ↓errK_s, ↓fAdd_i, ↓fAdd_t, ↓fAdd_l, ↓appK_c, ↓appK_n, ↓fSub_i, ↓fMul_i, ↓fDiv_i, ↓fMod_i, ↓fNeg_i, ↓fLt_i, ↓fLe_i, ↓fGt_i, ↓fGe_i, ↓fEq_i, ↓fNe_i, ↓fEq_b, ↓fNe_b, ↓fIsB_b, ↓fNotB_b, ↓fLen_t, ↓fLen_l, ↓lenK_c, ↓lenK_n, ↓fAbs_i, ↓fMin2_i, ↓fInt_i, ↓fTuple_l, ↓fTuple_t, ↓fList_l, ↓fList_t, ↓fAll_l, ↓fAny_l, ↓fSum_l, ↓fMax_l, ↓blsK_c, ↓blsK_n, ↓intsK_c, ↓intsK_n, ↓fIx_t, ↓fIx_l, ↓atK_0, ↓atK_1, ↓atK_2, ↓atK_3, ↓atK_4, ↓atK_5, ↓atK_6, ↓atK_7, ↓fIsi_non_int, ↓fIsi_non_bool, ↓fIsi_non_tuple, ↓fIsi_non_str, ↓fIsi_non_list, ↓fIsi_bl_int, ↓fIsi_bl_bool, ↓fIsi_bl_tuple, ↓fIsi_bl_str, ↓fIsi_bl_list, ↓fIsi_int_int, ↓fIsi_int_bool, ↓fIsi_int_tuple, ↓fIsi_int_str, ↓fIsi_int_list, ↓fIsi_str_int, ↓fIsi_str_bool, ↓fIsi_str_tuple, ↓fIsi_str_str, ↓fIsi_str_list, ↓fIsi_tup_int, ↓fIsi_tup_bool, ↓fIsi_tup_tuple, ↓fIsi_tup_str, ↓fIsi_tup_list, ↓fIsi_lst_int, ↓fIsi_lst_bool, ↓fIsi_lst_tuple, ↓fIsi_lst_str, ↓fIsi_lst_list, ↓rngK_3, ↓rngK_4, ↓rngK_6, ↓rngK_9, ↓rngK_5, ↓cut_from0, ↓cut_to0, ↓cut_from1, ↓cut_to1, ↓cut_from2, ↓cut_to2, ↓cut_from3, ↓cut_to3, ↓cut_from4, ↓cut_to4, ↓cut_from5, ↓cut_to5, ↓fRevT_t, true_and, and_true, Int.reduceAdd, Int.reduceSub, Int.reduceNeg, Int.zero_add, Nat.reduceAdd, Int.cast_ofNat_Int, Bool.not_true, Bool.not_false, Int.reduceBEq, beq_self_eq_true]
        refine eq_lst (by decide +kernel) ?_
        exact hq _
      · rintro e he ρ S2 N ⟨y4, rfl⟩ hN
        have hz : ∃ z, e = .int z := by
          rcases List.mem_append.mp he with h | h
          · exact ⟨9, by simpa using h⟩
          · exact hfi e h
        obtain ⟨z, rfl⟩ := hz
        simp -dsimp -implicitDefEqProofs only [↓e_lim, ↓e_tm, ↓tmK_i, ↓limK_l, ↓e_var0, ↓e_varS, ↓e_c, ↓e_bin, ↓e_una, ↓e_tst, ↓chK_b, ↓e_chain, ↓e_andT, ↓e_orT, ↓e_notT, ↓e_and, ↓e_or, ↓e_not, ↓negK_b, ↓tstK_b, ↓e_if, ↓iteK_t, ↓iteK_f, ↓e_nil, ↓e_cons, ↓e_tup, ↓e_lst, ↓e_lstM, ↓e_fn, ↓e_noPart, ↓e_part, ↓partK_i, ↓e_sl, ↓fSl_l, ↓fSl_t, ↓e_call, ↓e_iseq, ↓seqK_l, ↓seqK_t, ↓e_notV, ↓negV_b, ↓negV_i, ↓e_while, ↓e_irng, ↓e_izip, ↓zipK_l, ↓zipK_t, ↓zipL_c, ↓zipL_n, ↓e_comp, ↓compK_n, ↓compK_c, ↓e_yes, ↓wipeK_n, ↓wipeK_c, ↓setK_z, ↓setK_s, ↓startK_c, ↓startK_s, ↓startK_z, ↓e_fnW, ↓e_next, ↓e_seq, ↓e_brk, ↓e_cnt, ↓e_exp, ↓e_ret, ↓e_retN, ↓e_sif, ↓e_asg, ↓e_par, ↓par2_e, ↓e_par3, ↓par3_e, ↓e_for, ↓e_raise, ↓e_gnm, ↓e_gnl, ↓e_gcn, ↓e_gtp, ↓e_gtpL, ↓cntK_c, ↓cntK_n, ↓e_err, ↓errK_s, ↓fAdd_i, ↓fAdd_t, ↓fAdd_l, ↓appK_c, ↓appK_n, ↓fSub_i, ↓fMul_i, ↓fDiv_i, ↓fMod_i, ↓fNeg_i, ↓fLt_i, ↓fLe_i, ↓fGt_i, ↓fGe_i, ↓fEq_i, ↓fNe_i, ↓fEq_b, ↓fNe_b, ↓fIsB_b, ↓fNotB_b, ↓fLen_t, ↓fLen_l, ↓lenK_c, ↓lenK_n, ↓fAbs_i, ↓fMin2_i, ↓fInt_i, ↓fTuple_l, ↓fTuple_t, ↓fList_l, ↓fList_t, ↓fAll_l, ↓fAny_l, ↓fSum_l, ↓fMax_l, ↓blsK_c, ↓blsK_n, ↓intsK_c, ↓intsK_n, ↓fIx_t, ↓fIx_l, ↓atK_0, ↓atK_1, ↓atK_2, ↓atK_3, ↓atK_4, ↓atK_5, ↓atK_6, ↓atK_7, ↓fIsi_non_int, ↓fIsi_non_bool, ↓fIsi_non_tuple, ↓fIsi_non_str, ↓fIsi_non_list, ↓fIsi_bl_int, ↓fIsi_bl_bool, ↓fIsi_bl_tuple, ↓fIsi_bl_str, ↓fIsi_bl_list, ↓fIsi_int_int, ↓fIsi_int_bool, ↓fIsi_int_tuple, ↓fIsi_int_str, ↓fIsi_int_list, ↓fIsi_str_int, ↓fIsi_str_bool, ↓fIsi_str_tuple, ↓fIsi_str_str, ↓fIsi_str_list, ↓fIsi_tup_int, ↓fIsi_tup_bool, ↓fIsi_tup_tuple, ↓fIsi_tup_str, ↓fIsi_tup_list, ↓fIsi_lst_int, ↓fIsi_lst_bool, ↓fIsi_lst_tuple, ↓fIsi_lst_str, ↓fIsi_lst_list, ↓rngK_3, ↓rngK_4, ↓rngK_6, ↓rngK_9, ↓rngK_5, ↓cut_from0, ↓cut_to0, ↓cut_from1, ↓cut_to1, ↓cut_from2, ↓cut_to2, ↓cut_from3, ↓cut_to3, ↓cut_from4, ↓cut_to4, ↓cut_from5, ↓cut_to5, ↓fRevT_t, true_and, and_true, Int.reduceAdd, Int.reduceSub, Int.reduceNeg, Int.zero_add, Nat.reduceAdd, Int.cast_ofNat_Int, Bool.not_true, Bool.not_false, Int.reduceBEq, beq_self_eq_true]
        refine ⟨by decide, ?_⟩
        exact hN _ _ ⟨_, rfl⟩
  · rintro e he ρ S1 N ⟨y2, y3, rfl⟩ hN
    simp only [List.mem_cons, List.not_mem_nil, or_false] at he
    rcases he with rfl | rfl | rfl | rfl | rfl | rfl | rfl | rfl | rfl | rfl | rfl | rfl | rfl | rfl | rfl
    all_goals
      simp -dsimp -implicitDefEqProofs only [↓e_isX, ↓ixA, ↓e_var0, ↓e_varS, ↓e_c, ↓e_bin, ↓e_una, ↓e_tst, ↓chK_b, ↓e_chain, ↓e_andT, ↓e_orT, ↓e_notT, ↓e_and, ↓e_or, ↓e_not, ↓negK_b, ↓tstK_b, ↓e_if, ↓iteK_t, ↓iteK_f, ↓e_nil, ↓e_cons, ↓e_tup, ↓e_lst, ↓e_lstM, ↓e_fn, ↓e_noPart, ↓e_part, ↓partK_i, ↓e_sl, ↓fSl_l, ↓fSl_t, ↓e_call, ↓e_iseq, ↓seqK_l, ↓seqK_t, ↓e_notV, ↓negV_b, ↓negV_i, ↓e_while, ↓e_irng, ↓e_izip, ↓zipK_l, ↓zipK_t, ↓zipL_c, ↓zipL_n, ↓e_comp, ↓compK_n, ↓compK_c, ↓e_yes, ↓wipeK_n, ↓wipeK_c, ↓setK_z, ↓setK_s, ↓startK_c, ↓startK_s, ↓startK_z, ↓e_fnW, ↓e_next, ↓e_seq, ↓e_brk, ↓e_cnt, ↓e_exp, ↓e_ret, ↓e_retN, ↓e_sif, ↓e_asg, ↓e_par, ↓par2_e, ↓e_par3, ↓par3_e, ↓e_for, ↓e_raise, ↓e_gnm, ↓e_gnl, ↓e_gcn, ↓e_gtp, ↓e_gtpL, ↓cntK_c, ↓cntK_n, ↓e_err, ↓errK_s, ↓fAdd_i, ↓fAdd_t, ↓fAdd_l, ↓appK_c, ↓appK_n, ↓fSub_i, ↓fMul_i, ↓fDiv_i, ↓fMod_i, ↓fNeg_i, ↓fLt_i, ↓fLe_i, ↓fGt_i, ↓fGe_i, ↓fEq_i, ↓fNe_i, ↓fEq_b, ↓fNe_b, ↓fIsB_b, ↓fNotB_b, ↓fLen_t, ↓fLen_l, ↓lenK_c, ↓lenK_n, ↓fAbs_i, ↓fMin2_i, ↓fInt_i, ↓fTuple_l, ↓fTuple_t, ↓fList_l, ↓fList_t, ↓fAll_l, ↓fAny_l, ↓fSum_l, ↓fMax_l, ↓blsK_c, ↓blsK_n, ↓intsK_c, ↓intsK_n, ↓fIx_t, ↓fIx_l, ↓atK_0, ↓atK_1, ↓atK_2, ↓atK_3, ↓atK_4, ↓atK_5, ↓atK_6, ↓atK_7, ↓fIsi_non_int, ↓fIsi_non_bool, ↓fIsi_non_tuple, ↓fIsi_non_str, ↓fIsi_non_list, ↓fIsi_bl_int, ↓fIsi_bl_bool, ↓fIsi_bl_tuple, ↓fIsi_bl_str, ↓fIsi_bl_list, ↓fIsi_int_int, ↓fIsi_int_bool, ↓fIsi_int_tuple, ↓fIsi_int_str, ↓fIsi_int_list, ↓fIsi_str_int, ↓fIsi_str_bool, ↓fIsi_str_tuple, ↓fIsi_str_str, ↓fIsi_str_list, ↓fIsi_tup_int, ↓fIsi_tup_bool, ↓fIsi_tup_tuple, ↓fIsi_tup_str, ↓fIsi_tup_list, ↓fIsi_lst_int, ↓fIsi_lst_bool, ↓fIsi_lst_tuple, ↓fIsi_lst_str, ↓fIsi_lst_list, ↓rngK_3, ↓rngK_4, ↓rngK_6, ↓rngK_9, ↓rngK_5, ↓cut_from0, ↓cut_to0, ↓cut_from1, ↓cut_to1, ↓cut_from2, ↓cut_to2, ↓cut_from3, ↓cut_to3, ↓cut_from4, ↓cut_to4, ↓cut_from5, ↓cut_to5, ↓fRevT_t, true_and, and_true, Int.reduceAdd, Int.reduceSub, Int.reduceNeg, Int.zero_add, Nat.reduceAdd, Int.cast_ofNat_Int, Bool.not_true, Bool.not_false, Int.reduceBEq, beq_self_eq_true]
      refine atK_of rfl ?_
      simp -dsimp -implicitDefEqProofs only [↓isXK_e, ↓isXK_l, ↓subX_CE, ↓e_isV, ↓ixA, ↓e_var0, ↓e_varS, ↓e_c, ↓e_bin, ↓e_una, ↓e_tst, ↓chK_b, ↓e_chain, ↓e_andT, ↓e_orT, ↓e_notT, ↓e_and, ↓e_or, ↓e_not, ↓negK_b, ↓tstK_b, ↓e_if, ↓iteK_t, ↓iteK_f, ↓e_nil, ↓e_cons, ↓e_tup, ↓e_lst, ↓e_lstM, ↓e_fn, ↓e_noPart, ↓e_part, ↓partK_i, ↓e_sl, ↓fSl_l, ↓fSl_t, ↓e_call, ↓e_iseq, ↓seqK_l, ↓seqK_t, ↓e_notV, ↓negV_b, ↓negV_i, ↓e_while, ↓e_irng, ↓e_izip, ↓zipK_l, ↓zipK_t, ↓zipL_c, ↓zipL_n, ↓e_comp, ↓compK_n, ↓compK_c, ↓e_yes, ↓wipeK_n, ↓wipeK_c, ↓setK_z, ↓setK_s, ↓startK_c, ↓startK_s, ↓startK_z, ↓e_fnW, ↓e_next, ↓e_seq, ↓e_brk, ↓e_cnt, ↓e_exp, ↓e_ret, ↓e_retN, ↓e_sif, ↓e_asg, ↓e_par, ↓par2_e, ↓e_par3, ↓par3_e, ↓e_for, ↓e_raise, ↓e_gnm, ↓e_gnl, ↓e_gcn, ↓e_gtp, ↓e_gtpL, ↓cntK_c, ↓cntK_n, ↓e_err, ↓errK_s, ↓fAdd_i, ↓fAdd_t, ↓fAdd_l, ↓appK_c, ↓appK_n, ↓fSub_i, ↓fMul_i, ↓fDiv_i, ↓fMod_i, ↓fNeg_i, ↓fLt_i, ↓fLe_i, ↓fGt_i, ↓fGe_i, ↓fEq_i, ↓fNe_i, ↓fEq_b, ↓fNe_b, ↓fIsB_b, ↓fNotB_b, ↓fLen_t, ↓fLen_l, ↓lenK_c, ↓lenK_n, ↓fAbs_i, ↓fMin2_i, ↓fInt_i, ↓fTuple_l, ↓fTuple_t, ↓fList_l, ↓fList_t, ↓fAll_l, ↓fAny_l, ↓fSum_l, ↓fMax_l, ↓blsK_c, ↓blsK_n, ↓intsK_c, ↓intsK_n, ↓fIx_t, ↓fIx_l, ↓atK_0, ↓atK_1, ↓atK_2, ↓atK_3, ↓atK_4, ↓atK_5, ↓atK_6, ↓atK_7, ↓fIsi_non_int, ↓fIsi_non_bool, ↓fIsi_non_tuple, ↓fIsi_non_str, ↓fIsi_non_list, ↓fIsi_bl_int, ↓fIsi_bl_bool, ↓fIsi_bl_tuple, ↓fIsi_bl_str, ↓fIsi_bl_list, ↓fIsi_int_int, ↓fIsi_int_bool, ↓fIsi_int_tuple, ↓fIsi_int_str, ↓fIsi_int_list, ↓fIsi_str_int, ↓fIsi_str_bool, ↓fIsi_str_tuple, ↓fIsi_str_str, ↓fIsi_str_list, ↓fIsi_tup_int, ↓fIsi_tup_bool, ↓fIsi_tup_tuple, ↓fIsi_tup_str, ↓fIsi_tup_list, ↓fIsi_lst_int, ↓fIsi_lst_bool, ↓fIsi_lst_tuple, ↓fIsi_lst_str, ↓fIsi_lst_list, ↓rngK_3, ↓rngK_4, ↓rngK_6, ↓rngK_9, ↓rngK_5, ↓cut_from0, ↓cut_to0, ↓cut_from1, ↓cut_to1, ↓cut_from2, ↓cut_to2, ↓cut_from3, ↓cut_to3, ↓cut_from4, ↓cut_to4, ↓cut_from5, ↓cut_to5, ↓fRevT_t, true_and, and_true, Int.reduceAdd, Int.reduceSub, Int.reduceNeg, Int.zero_add, Nat.reduceAdd, Int.cast_ofNat_Int, Bool.not_true, Bool.not_false, Int.reduceBEq, beq_self_eq_true]
      refine ⟨by decide, ?_⟩
      refine atK_of rfl ?_
      simp -dsimp -implicitDefEqProofs only [↓isXK_e, ↓isXK_l, ↓subX_CE, ↓ixA, ↓e_var0, ↓e_varS, ↓e_c, ↓e_bin, ↓e_una, ↓e_tst, ↓chK_b, ↓e_chain, ↓e_andT, ↓e_orT, ↓e_notT, ↓e_and, ↓e_or, ↓e_not, ↓negK_b, ↓tstK_b, ↓e_if, ↓iteK_t, ↓iteK_f, ↓e_nil, ↓e_cons, ↓e_tup, ↓e_lst, ↓e_lstM, ↓e_fn, ↓e_noPart, ↓e_part, ↓partK_i, ↓e_sl, ↓fSl_l, ↓fSl_t, ↓e_call, ↓e_iseq, ↓seqK_l, ↓seqK_t, ↓e_notV, ↓negV_b, ↓negV_i, ↓e_while, ↓e_irng, ↓e_izip, ↓zipK_l, ↓zipK_t, ↓zipL_c, ↓zipL_n, ↓e_comp, ↓compK_n, ↓compK_c, ↓e_yes, ↓wipeK_n, ↓wipeK_c, ↓setK_z, ↓setK_s, ↓startK_c, ↓startK_s, ↓startK_z, ↓e_fnW, ↓e_next, ↓e_seq, ↓e_brk, ↓e_cnt, ↓e_exp, ↓e_ret, ↓e_retN, ↓e_sif, ↓e_asg, ↓e_par, ↓par2_e, ↓e_par3, ↓par3_e, ↓e_for, ↓e_raise, ↓e_gnm, ↓e_gnl, ↓e_gcn, ↓e_gtp, ↓e_gtpL, ↓cntK_c, ↓cntK_n, ↓e_err, ↓errK_s, ↓fAdd_i, ↓fAdd_t, ↓fAdd_l, ↓appK_c, ↓appK_n, ↓fSub_i, ↓fMul_i, ↓fDiv_i, ↓fMod_i, ↓fNeg_i, ↓fLt_i, ↓fLe_i, ↓fGt_i, ↓fGe_i, ↓fEq_i, ↓fNe_i, ↓fEq_b, ↓fNe_b, ↓fIsB_b, ↓fNotB_b, ↓fLen_t, ↓fLen_l, ↓lenK_c, ↓lenK_n, ↓fAbs_i, ↓fMin2_i, ↓fInt_i, ↓fTuple_l, ↓fTuple_t, ↓fList_l, ↓fList_t, ↓fAll_l, ↓fAny_l, ↓fSum_l, ↓fMax_l, ↓blsK_c, ↓blsK_n, ↓intsK_c, ↓intsK_n, ↓fIx_t, ↓fIx_l, ↓atK_0, ↓atK_1, ↓atK_2, ↓atK_3, ↓atK_4, ↓atK_5, ↓atK_6, ↓atK_7, ↓fIsi_non_int, ↓fIsi_non_bool, ↓fIsi_non_tuple, ↓fIsi_non_str, ↓fIsi_non_list, ↓fIsi_bl_int, ↓fIsi_bl_bool, ↓fIsi_bl_tuple, ↓fIsi_bl_str, ↓fIsi_bl_list, ↓fIsi_int_int, ↓fIsi_int_bool, ↓fIsi_int_tuple, ↓fIsi_int_str, ↓fIsi_int_list, ↓fIsi_str_int, ↓fIsi_str_bool, ↓fIsi_str_tuple, ↓fIsi_str_str, ↓fIsi_str_list, ↓fIsi_tup_int, ↓fIsi_tup_bool, ↓fIsi_tup_tuple, ↓fIsi_tup_str, ↓fIsi_tup_list, ↓fIsi_lst_int, ↓fIsi_lst_bool, ↓fIsi_lst_tuple, ↓fIsi_lst_str, ↓fIsi_lst_list, ↓rngK_3, ↓rngK_4, ↓rngK_6, ↓rngK_9, ↓rngK_5, ↓cut_from0, ↓cut_to0, ↓cut_from1, ↓cut_to1, ↓cut_from2, ↓cut_to2, ↓cut_from3, ↓cut_to3, ↓cut_from4, ↓cut_to4, ↓cut_from5, ↓cut_to5, ↓fRevT_t, true_and, and_true, Int.reduceAdd, Int.reduceSub, Int.reduceNeg, Int.zero_add, Nat.reduceAdd, Int.cast_ofNat_Int, Bool.not_true, Bool.not_false, Int.reduceBEq, beq_self_eq_true]
      refine ⟨by decide, ?_⟩
      refine atK_of rfl ?_
      first | refine kinds_e (by decide) ?_ | refine kinds_l (by decide) ?_
      simp -dsimp -implicitDefEqProofs only [↓lenA, ↓rng15, ↓e_var0, ↓e_varS, ↓e_c, ↓e_bin, ↓e_una, ↓e_tst, ↓chK_b, ↓e_chain, ↓e_andT, ↓e_orT, ↓e_notT, ↓e_and, ↓e_or, ↓e_not, ↓negK_b, ↓tstK_b, ↓e_if, ↓iteK_t, ↓iteK_f, ↓e_nil, ↓e_cons, ↓e_tup, ↓e_lst, ↓e_lstM, ↓e_fn, ↓e_noPart, ↓e_part, ↓partK_i, ↓e_sl, ↓fSl_l, ↓fSl_t, ↓e_call, ↓e_iseq, ↓seqK_l, ↓seqK_t, ↓e_notV, ↓negV_b, ↓negV_i, ↓e_while, ↓e_irng, ↓e_izip, ↓zipK_l, ↓zipK_t, ↓zipL_c, ↓zipL_n, ↓e_comp, ↓compK_n, ↓compK_c, ↓e_yes, ↓wipeK_n, ↓wipeK_c, ↓setK_z, ↓setK_s, ↓startK_c, ↓startK_s, ↓startK_z, ↓e_fnW, ↓e_next, ↓e_seq, ↓e_brk, ↓e_cnt, ↓e_exp, ↓e_ret, ↓e_retN, ↓e_sif, ↓e_asg, ↓e_par, ↓par2_e, ↓e_par3, ↓par3_e, ↓e_for, ↓e_raise, ↓e_gnm, ↓e_gnl, ↓e_gcn, ↓e_gtp, ↓e_gtpL, ↓cntK_c, ↓cntK_n, ↓e_err, ↓errK_s, ↓fAdd_i, ↓fAdd_t, ↓fAdd_l, ↓appK_c, ↓appK_n, ↓fSub_i, ↓fMul_i, ↓fDiv_i, ↓fMod_i, ↓fNeg_i, ↓fLt_i, ↓fLe_i, ↓fGt_i, ↓fGe_i, ↓fEq_i, ↓fNe_i, ↓fEq_b, ↓fNe_b, ↓fIsB_b, ↓fNotB_b, ↓fLen_t, ↓fLen_l, ↓lenK_c, ↓lenK_n, ↓fAbs_i, ↓fMin2_i, ↓fInt_i, ↓fTuple_l, ↓fTuple_t, ↓fList_l, ↓fList_t, ↓fAll_l, ↓fAny_l, ↓fSum_l, ↓fMax_l, ↓blsK_c, ↓blsK_n, ↓intsK_c, ↓intsK_n, ↓fIx_t, ↓fIx_l, ↓atK_0, ↓atK_1, ↓atK_2, ↓atK_3, ↓atK_4, ↓atK_5, ↓atK_6, ↓atK_7, ↓fIsi_non_int, ↓fIsi_non_bool, ↓fIsi_non_tuple, ↓fIsi_non_str, ↓fIsi_non_list, ↓fIsi_bl_int, ↓fIsi_bl_bool, ↓fIsi_bl_tuple, ↓fIsi_bl_str, ↓fIsi_bl_list, ↓fIsi_int_int, ↓fIsi_int_bool, ↓fIsi_int_tuple, ↓fIsi_int_str, ↓fIsi_int_list, ↓fIsi_str_int, ↓fIsi_str_bool, ↓fIsi_str_tuple, ↓fIsi_str_str, ↓fIsi_str_list, ↓fIsi_tup_int, ↓fIsi_tup_bool, ↓fIsi_tup_tuple, ↓fIsi_tup_str, ↓fIsi_tup_list, ↓fIsi_lst_int, ↓fIsi_lst_bool, ↓fIsi_lst_tuple, ↓fIsi_lst_str, ↓fIsi_lst_list, ↓rngK_3, ↓rngK_4, ↓rngK_6, ↓rngK_9, ↓rngK_5, ↓cut_from0, ↓cut_to0, ↓cut_from1, ↓cut_to1, ↓cut_from2, ↓cut_to2, ↓cut_from3, ↓cut_to3, ↓cut_from4, ↓cut_to4, ↓cut_from5, ↓cut_to5, ↓fRevT_t, true_and, and_true, Int.reduceAdd, Int.reduceSub, Int.reduceNeg, Int.zero_add, Nat.reduceAdd, Int.cast_ofNat_Int, Bool.not_true, Bool.not_false, Int.reduceBEq, beq_self_eq_true]
      refine ne_lst (by decide +kernel) ?_
      simp -dsimp -implicitDefEqProofs only [↓e_var0, ↓e_varS, ↓e_c, ↓e_bin, ↓e_una, ↓e_tst, ↓chK_b, ↓e_chain, ↓e_andT, ↓e_orT, ↓e_notT, ↓e_and, ↓e_or, ↓e_not, ↓negK_b, ↓tstK_b, ↓e_if, ↓iteK_t, ↓iteK_f, ↓e_nil, ↓e_cons, ↓e_tup, ↓e_lst, ↓e_lstM, ↓e_fn, ↓e_noPart, ↓e_part, ↓partK_i, ↓e_sl, ↓fSl_l, ↓fSl_t, ↓e_call, ↓e_iseq, ↓seqK_l, ↓seqK_t, ↓e_notV, ↓negV_b, ↓negV_i, ↓e_while, ↓e_irng, ↓e_izip, ↓zipK_l, ↓zipK_t, ↓zipL_c, ↓zipL_n, ↓e_comp, ↓compK_n, ↓compK_c, ↓e_yes, ↓wipeK_n, ↓wipeK_c, ↓setK_z, ↓setK_s, ↓startK_c, ↓startK_s, ↓startK_z, ↓e_fnW, ↓e_next, ↓e_seq, ↓e_brk, ↓e_cnt, ↓e_exp, ↓e_ret, ↓e_retN, ↓e_sif, ↓e_asg, ↓e_par, ↓par2_e, ↓e_par3, ↓par3_e, ↓e_for, ↓e_raise, ↓e_gnm, ↓e_gnl, ↓e_gcn, ↓e_gtp, ↓e_gtpL, ↓cntK_c, ↓cntK_n, ↓e_err, ↓errK_s, ↓fAdd_i, ↓fAdd_t, ↓fAdd_l, ↓appK_c, ↓appK_n, ↓fSub_i, ↓fMul_i, ↓fDiv_i, ↓fMod_i, ↓fNeg_i, ↓fLt_i, ↓fLe_i, ↓fGt_i, ↓fGe_i, ↓fEq_i, ↓fNe_i, ↓fEq_b, ↓fNe_b, ↓fIsB_b, ↓fNotB_b, ↓fLen_t, ↓fLen_l, ↓lenK_c, ↓lenK_n, ↓fAbs_i, ↓fMin2_i, ↓fInt_i, ↓fTuple_l, ↓fTuple_t, ↓fList_l, ↓fList_t, ↓fAll_l, ↓fAny_l, ↓fSum_l, ↓fMax_l, ↓blsK_c, ↓blsK_n, ↓intsK_c, ↓intsK_n, ↓fIx_t, ↓fIx_l, ↓atK_0, ↓atK_1, ↓atK_2, ↓atK_3, ↓atK_4, ↓atK_5, ↓atK_6, ↓atK_7, ↓fIsi_non_int, ↓fIsi_non_bool, ↓fIsi_non_tuple, ↓fIsi_non_str, ↓fIsi_non_list, ↓fIsi_bl_int, ↓fIsi_bl_bool, ↓fIsi_bl_tuple, ↓fIsi_bl_str, ↓fIsi_bl_list, ↓fIsi_int_int, ↓fIsi_int_bool, ↓fIsi_int_tuple, ↓fIsi_int_str, ↓fIsi_int_list, ↓fIsi_str_int, ↓fIsi_str_bool, ↓fIsi_str_tuple, ↓fIsi_str_str, ↓fIsi_str_list, ↓fIsi_tup_int, ↓fIsi_tup_bool, ↓fIsi_tup_tuple, ↓fIsi_tup_str, ↓fIsi_tup_list, ↓fIsi_lst_int, ↓fIsi_lst_bool, ↓fIsi_lst_tuple, ↓fIsi_lst_str, ↓fIsi_lst_list, ↓rngK_3, ↓rngK_4, ↓rngK_6, ↓rngK_9, ↓rngK_5, ↓cut_from0, ↓cut_to0, ↓cut_from1, ↓cut_to1, ↓cut_from2, ↓cut_to2, ↓cut_from3, ↓cut_to3, ↓cut_from4, ↓cut_to4, ↓cut_from5, ↓cut_to5, ↓fRevT_t, true_and, and_true, Int.reduceAdd, Int.reduceSub, Int.reduceNeg, Int.zero_add, Nat.reduceAdd, Int.cast_ofNat_Int, Bool.not_true, Bool.not_false, Int.reduceBEq, beq_self_eq_true]
      exact hN _ _ ⟨_, _, rfl⟩
end DL

set_option maxRecDepth 100000
set_option maxHeartbeats 4000000
namespace DL
open PySem PySem.Spec PyProof.Rows L2 L2H HotX LamX DH
def top (i : Nat) : Stmt := PySem.Challenge.pw_emptycorners_k13_classes_of_errors.main.body.getD i (.Pass ⟨0, 0, 0, 0⟩)
abbrev s_l_plain : Stmt := top 18
abbrev N_l_plain : List Str := ["_law_some"]
theorem sc_l_plain : FnScope N_l_plain [] (defScope s_l_plain) := ⟨rfl, rfl, rfl, by decide +kernel, rfl, by decide +kernel, by decide +kernel⟩
abbrev s_l_kinds : Stmt := top 19
abbrev N_l_kinds : List Str := ["_law_e", "_law_some"]
theorem sc_l_kinds : FnScope N_l_kinds ["_law_e"] (defScope s_l_kinds) := ⟨rfl, rfl, rfl, by decide +kernel, rfl, by decide +kernel, by decide +kernel⟩
abbrev s_law : Stmt := top 20
abbrev N_law : List Str := ["_law_script", "_law_some", "_law_at", "_law_other", "_law_cell", "_law_one", "_law_e"]
theorem sc_law : FnScope N_law ["_law_script"] (defScope s_law) := ⟨rfl, rfl, rfl, by decide +kernel, rfl, by decide +kernel, by decide +kernel⟩
structure Txt (P : Program) (K : PySem.W.Frag) (mg : Str → Option Value) (base : Heap) (TT : List (Addr × Str)) : Prop where
  d_l_plain : DefAt K mg "_law_plain" s_l_plain []
  d_l_kinds : DefAt K mg "_law_kinds" s_l_kinds ["_law_e"]
  n_ValueError : mg "ValueError" = none
  n_isinstance : mg "isinstance" = none
  n_len : mg "len" = none
  n_range : mg "range" = none
  n_str : mg "str" = none
  w_CornerError : ExcW K mg "CornerError"
  w_InvalidBody : ExcW K mg "InvalidBody"
  w_InvalidCorners : ExcW K mg "InvalidCorners"
  w_InvalidIndex : ExcW K mg "InvalidIndex"
  w_InvalidNumber : ExcW K mg "InvalidNumber"
  w_InvalidPair : ExcW K mg "InvalidPair"
  w_InvalidPoint : ExcW K mg "InvalidPoint"
  w_InvalidSize : ExcW K mg "InvalidSize"
  w_InvalidSlope : ExcW K mg "InvalidSlope"
  w_InvalidStep : ExcW K mg "InvalidStep"
  w_InvalidText : ExcW K mg "InvalidText"
  w_InvalidTurn : ExcW K mg "InvalidTurn"
  w_NotEmpty : ExcW K mg "NotEmpty"
  w_NothingToUndo : ExcW K mg "NothingToUndo"
  w_Unlike : ExcW K mg "Unlike"
  sub : SubK K mg
  tm : TmE K P mg
section
variable {P : Program} {w : World} {K : PySem.W.Frag} {mg : Str → Option Value} {base : Heap} {TT : List (Addr × Str)}
theorem ok_l_plain (T : Txt P K mg base TT) : OkF P w K mg base TT 1 "_law_plain" 0 W_l_plain := okF (b := B_l_plain) T.d_l_plain sc_l_plain rfl rfl fun f cdv A outer s H E F I R hr tk =>
  (dss_cons
    (ds_asg (de_lst (da_cons (de_exc T.w_InvalidBody rfl) (da_cons (de_exc T.w_InvalidPoint rfl) (da_cons (de_exc T.w_InvalidSize rfl) (da_cons (de_exc T.w_InvalidNumber rfl) (da_cons (de_exc T.w_InvalidTurn rfl) da_nil)))))) (dg_name 0 sc_l_plain.nd))
    (dss_cons
    (ds_asg (de_op op_addD br_add (de_var 0) (de_lst (da_cons (de_exc T.w_InvalidSlope rfl) (da_cons (de_exc T.w_InvalidCorners rfl) (da_cons (de_exc T.w_InvalidStep rfl) (da_cons (de_exc T.w_InvalidPair rfl) (da_cons (de_exc T.w_InvalidIndex rfl) da_nil))))))) (dg_name 0 sc_l_plain.nd))
    (dss_one (ds_ret (de_op op_addD br_add (de_var 0) (de_lst (da_cons (de_exc T.w_InvalidText rfl) (da_cons (de_exc T.w_NotEmpty rfl) (da_cons (de_exc T.w_Unlike rfl) (da_cons (de_exc T.w_NothingToUndo rfl) da_nil))))))))))
theorem ok_l_kinds (T : Txt P K mg base TT) : OkF P w K mg base TT 1 "_law_kinds" 1 W_l_kinds := okF (b := B_l_kinds) T.d_l_kinds sc_l_kinds rfl rfl fun f cdv A outer s H E F I R hr tk =>
  (dss_cons
    (ds_asg (de_lst (da_cons (de_isX T.sub (by decide) rfl T.n_isinstance bt_isinstance (de_var 0) rfl) (da_cons (de_isX T.sub (by decide) rfl T.n_isinstance bt_isinstance (de_var 0) rfl) (da_cons (de_isX T.sub (by decide) rfl T.n_isinstance bt_isinstance (de_var 0) rfl) da_nil)))) (dg_name 1 sc_l_kinds.nd))
    (dss_cons
    (ds_asg (de_op op_addD br_add (de_var 1) (de_lst (da_cons (de_isX T.sub (by decide) rfl T.n_isinstance bt_isinstance (de_var 0) rfl) (da_cons (de_isX T.sub (by decide) rfl T.n_isinstance bt_isinstance (de_var 0) rfl) (da_cons (de_isX T.sub (by decide) rfl T.n_isinstance bt_isinstance (de_var 0) rfl) da_nil))))) (dg_name 1 sc_l_kinds.nd))
    (dss_cons
    (ds_asg (de_op op_addD br_add (de_var 1) (de_lst (da_cons (de_isX T.sub (by decide) rfl T.n_isinstance bt_isinstance (de_var 0) rfl) (da_cons (de_isX T.sub (by decide) rfl T.n_isinstance bt_isinstance (de_var 0) rfl) (da_cons (de_isX T.sub (by decide) rfl T.n_isinstance bt_isinstance (de_var 0) rfl) da_nil))))) (dg_name 1 sc_l_kinds.nd))
    (dss_cons
    (ds_asg (de_op op_addD br_add (de_var 1) (de_lst (da_cons (de_isX T.sub (by decide) rfl T.n_isinstance bt_isinstance (de_var 0) rfl) (da_cons (de_isX T.sub (by decide) rfl T.n_isinstance bt_isinstance (de_var 0) rfl) (da_cons (de_isX T.sub (by decide) rfl T.n_isinstance bt_isinstance (de_var 0) rfl) da_nil))))) (dg_name 1 sc_l_kinds.nd))
    (dss_one (ds_ret (de_op op_addD br_add (de_var 1) (de_lst (da_cons (de_isX T.sub (by decide) rfl T.n_isinstance bt_isinstance (de_var 0) rfl) (da_cons (de_isX T.sub (by decide) rfl T.n_isinstance bt_isinstance (de_var 0) rfl) (da_cons (de_isX T.sub (by decide) rfl T.n_isinstance bt_isinstance (de_var 0) rfl) da_nil)))))))))))
theorem fn_law (T : Txt P K mg base TT) {f : Addr} {fd : FuncData} (h : Fun K "law" "law" s_law f fd) : FnOk P w K mg base (L2N.CX P w) 2 f fd ["_law_script"] (spD K mg TT 1 (W_law (scrOk K))) := okDef (b := B_law (scrOk K)) h sc_law rfl rfl fun cdv A outer s H E F I R hr tk =>
  (dss_cons
    (ds_asg (de_op op_addD br_add (de_call0 (ok_l_plain T) tk (hr.mono (by decide)) rfl) (de_lst (da_cons (de_tmE (k := 0) T.tm (hr.mono (by decide)) rfl de_int) da_nil))) (dg_name 1 sc_law.nd))
    (dss_cons
    (ds_for (passes_of rfl) rfl (di_rng1 rfl T.n_range (da_cons (de_fnB call_lenD' fr_len rfl T.n_len bt_len (da_cons (de_var 1) da_nil)) da_nil)) (dg_name 2 sc_law.nd) (dss_cons
    (ds_if (dw_pt (dw_or (dt_not (dt_val (de_isX T.sub (by decide) rfl T.n_isinstance bt_isinstance (de_ix (de_var 1) (de_var 2)) rfl))) (dw_or1 (dt_not (dt_val (de_isVX T.sub rfl T.n_isinstance bt_isinstance (de_ix (de_var 1) (de_var 2)) rfl T.n_ValueError)))))) (dss_one (ds_ret de_bl)) dss_nil)
    (dss_one (ds_if (dt_cmp (op_neD hr.units) br_ne (de_call (ok_l_kinds T) tk (hr.mono (by decide)) rfl (da_cons (de_ix (de_var 1) (de_var 2)) da_nil)) (de_lc (own := [("_law_other", 3)]) rfl sc_law.nd (di_rng1 rfl T.n_range (da_cons (de_fnB call_lenD' fr_len rfl T.n_len bt_len (da_cons (de_var 1) da_nil)) da_nil)) (blkOk_by (N := N_law) (sc := defScope s_law) (by decide +kernel)) (fun _ _ _ _ _ => (pgn 3 sc_law.nd)) (tgc_name (i := 3) (by decide)) (fun _ _ _ _ _ => dts_nil) (fun _ _ _ _ _ => (de_cmp (op_eqD hr.units) br_eq (de_var 3) (de_var 2) (nomark _)))) (nomark _)) (dss_one (ds_ret de_bl)) dss_nil))))
    (dss_cons
    (ds_if (dw_pt (dw_or (dt_cmp (op_neD hr.units) br_ne (de_call (ok_l_kinds T) tk (hr.mono (by decide)) rfl (da_cons (de_exc T.w_CornerError rfl) da_nil)) (de_op op_mulD br_mul (de_lst (da_cons de_bl da_nil)) de_int) (nomark _)) (dw_or1 (dt_not (dt_val (de_isVX T.sub rfl T.n_isinstance bt_isinstance (de_exc T.w_CornerError rfl) rfl T.n_ValueError)))))) (dss_one (ds_ret de_bl)) dss_nil)
    (dss_cons
    (ds_for (passes_of rfl) rfl (di_seq (de_op op_addD br_add (de_lst (da_cons de_int da_nil)) (de_lc (own := [("_law_one", 5)]) rfl sc_law.nd (di_scr 0) (blkOk_by (N := N_law) (sc := defScope s_law) (by decide +kernel)) (fun _ _ _ _ _ => (pgn 5 sc_law.nd)) (tgc_name (i := 5) (by decide)) (fun _ _ _ _ _ => (dts_one (dt_chain op_lt op_lt br_ord br_ord (de_op op_subD br_sub de_int (de_op op_pow br_pow de_int de_int)) (de_var 5) (de_op op_pow br_pow de_int de_int)))) (fun _ _ _ _ _ => (de_var 5))))) (dg_name 4 sc_law.nd) (dss_one (ds_if (dt_cmp (op_neD hr.units) br_ne (de_lim T.sub (de_tmE (k := 0) T.tm (hr.mono (by decide)) rfl (de_var 4))) (de_var 4) (nomark _)) (dss_one (ds_ret de_bl)) dss_nil)))
    (dss_one (ds_ret (de_cmp (op_eqD hr.units) br_eq (de_lc (own := [("_law_e", 6)]) rfl sc_law.nd (di_seq (de_call0 (ok_l_plain T) tk (hr.mono (by decide)) rfl)) (blkOk_by (N := N_law) (sc := defScope s_law) (by decide +kernel)) (fun _ _ _ _ _ => (pgn 6 sc_law.nd)) (tgc_name (i := 6) (by decide)) (fun _ _ _ _ _ => dts_nil) (fun _ _ _ _ _ => (de_strX T.sub (units2 hr.units) rfl T.n_str bt_str (de_var 6)))) (de_op op_mulD br_mul (de_lst (da_cons de_str da_nil)) de_int) (nomark _))))))))
end
end DL

set_option maxRecDepth 100000
set_option maxHeartbeats 4000000
namespace DL
open PySem PySem.Spec PyProof.Rows L2 L2H HotX LamX DH
theorem law_mk {l : PySem.W.OpenLaw} {w : World} {K : PySem.W.Frag} {h : Heap} {mg : Str → Option Value} {fa : Addr} {ts : List Addr} (X : K.In h) (G : h.Ns mainGlobals mg) (hfa : mg "law" = some (.ref fa)) (tabs : ∀ P ∈ ts, h.get? P = some (PySem.W.tabObj #[]))
    {f_l_plain : Addr} {od_l_plain an_l_plain : Option Addr} {sl_l_plain : Array (Option Value)} {oc_l_plain kV_l_plain dc_l_plain pm_l_plain ct_l_plain : Value} {cd_l_plain : Value}
    {f_l_kinds : Addr} {od_l_kinds an_l_kinds : Option Addr} {sl_l_kinds : Array (Option Value)} {oc_l_kinds kV_l_kinds dc_l_kinds pm_l_kinds ct_l_kinds : Value} {cd_l_kinds : Value}
    {f_law : Addr} {od_law an_law : Option Addr} {sl_law : Array (Option Value)} {oc_law kV_law dc_law pm_law ct_law : Value} {cd_law : Value}
    {C_tm f_tm co_tm cc_tm N_tm : Addr} {oc_tm ccl_tm cl_tm dV_tm kV_tm doc_tm pm_tm ct_tm : Value} {od_tm an_tm cdd_tm cld_tm dd_tm : Option Addr} {osl_tm ccs_tm csl_tm : Array (Option Value)} {vs_tm : Array Value} {qual_tm file_tm m_tm nm_tm q_tm : Str} {params_tm : Arguments} {sc_tm : Scope} {tf_tm : Tok} {j_tm : Nat}
    {p1_tm p2_tm p3_tm p4_tm p5_tm p6_tm p7_tm p8_tm p9_tm p10_tm : Pos} {bs_tm bm_tm : List Value} {sn_tm : List Str} {sub_tm : List Value} {ab_tm : Bool} {col_tm : Option Bool} {k0_tm k1_tm k2_tm k3_tm k5_tm : Option Value}
    (a_l_plain : PySem.W.nsIn K mainGlobals "_law_plain" = some (some (.ref f_l_plain)))
    (l_l_plain : K.lookup f_l_plain = some ⟨oc_l_plain, od_l_plain, .func (PySem.W.fnOf "_law_plain" "_law_plain" (defArgs s_l_plain) (defBody s_l_plain) (defScope s_l_plain) .none kV_l_plain dc_l_plain pm_l_plain an_l_plain cd_l_plain ct_l_plain), sl_l_plain⟩)
    (c_l_plain : PySem.W.codeIn K cd_l_plain "_law_plain" = true)
    (k_l_plain : PySem.W.keepIn K (.ref f_l_plain) = true)
    (a_l_kinds : PySem.W.nsIn K mainGlobals "_law_kinds" = some (some (.ref f_l_kinds)))
    (l_l_kinds : K.lookup f_l_kinds = some ⟨oc_l_kinds, od_l_kinds, .func (PySem.W.fnOf "_law_kinds" "_law_kinds" (defArgs s_l_kinds) (defBody s_l_kinds) (defScope s_l_kinds) .none kV_l_kinds dc_l_kinds pm_l_kinds an_l_kinds cd_l_kinds ct_l_kinds), sl_l_kinds⟩)
    (c_l_kinds : PySem.W.codeIn K cd_l_kinds "_law_kinds" = true)
    (k_l_kinds : PySem.W.keepIn K (.ref f_l_kinds) = true)
    (a_law : PySem.W.nsIn K mainGlobals "law" = some (some (.ref f_law)))
    (l_law : K.lookup f_law = some ⟨oc_law, od_law, .func (PySem.W.fnOf "law" "law" (defArgs s_law) (defBody s_law) (defScope s_law) .none kV_law dc_law pm_law an_law cd_law ct_law), sl_law⟩)
    (c_law : PySem.W.codeIn K cd_law "law" = true)
    (k_law : PySem.W.keepIn K (.ref f_law) = true)
    (n_ValueError : PySem.W.nsIn K mainGlobals "ValueError" = some none)
    (n_isinstance : PySem.W.nsIn K mainGlobals "isinstance" = some none)
    (n_len : PySem.W.nsIn K mainGlobals "len" = some none)
    (n_range : PySem.W.nsIn K mainGlobals "range" = some none)
    (n_str : PySem.W.nsIn K mainGlobals "str" = some none)
    (x_CornerError : excAtB K "CornerError" = true)
    (x_InvalidBody : excAtB K "InvalidBody" = true)
    (x_InvalidCorners : excAtB K "InvalidCorners" = true)
    (x_InvalidIndex : excAtB K "InvalidIndex" = true)
    (x_InvalidNumber : excAtB K "InvalidNumber" = true)
    (x_InvalidPair : excAtB K "InvalidPair" = true)
    (x_InvalidPoint : excAtB K "InvalidPoint" = true)
    (x_InvalidSize : excAtB K "InvalidSize" = true)
    (x_InvalidSlope : excAtB K "InvalidSlope" = true)
    (x_InvalidStep : excAtB K "InvalidStep" = true)
    (x_InvalidText : excAtB K "InvalidText" = true)
    (x_InvalidTurn : excAtB K "InvalidTurn" = true)
    (x_NotEmpty : excAtB K "NotEmpty" = true)
    (x_NothingToUndo : excAtB K "NothingToUndo" = true)
    (x_Unlike : excAtB K "Unlike" = true)
    (x_sub : subKB K = true)
    (a_tm : PySem.W.nsIn K mainGlobals "TooMany" = some (some (.ref C_tm)))
    (i_tm : PySem.W.findIn K (.ref C_tm) "__init__" = some (some (.ref f_tm)))
    (l_tm : K.lookup f_tm = some ⟨oc_tm, od_tm, .func (PySem.W.ksFn "__init__" qual_tm params_tm (PySem.TMX.tmBody "limit" m_tm j_tm p1_tm p2_tm p3_tm p4_tm p5_tm p6_tm p7_tm p8_tm p9_tm p10_tm) sc_tm dV_tm kV_tm doc_tm pm_tm an_tm (.ref co_tm) ct_tm cc_tm), osl_tm⟩)
    (c_tm : K.lookup co_tm = some ⟨ccl_tm, cdd_tm, .fields vs_tm, ccs_tm⟩)
    (r_tm : vs_tm[2]? = some (.str file_tm tf_tm))
    (e_tm : K.lookup cc_tm = some ⟨cl_tm, cld_tm, .cell (some (.ref C_tm)), csl_tm⟩)
    (z_tm : K.lookup C_tm = some (excClassObj nm_tm q_tm C_tm N_tm bs_tm bm_tm true sn_tm sub_tm ab_tm col_tm dd_tm k0_tm k1_tm k2_tm k3_tm k5_tm "ValueError.__new__"))
    (bb_tm : ∀ e u : Value, bindArgs (PySem.W.ksFn "__init__" qual_tm params_tm (PySem.TMX.tmBody "limit" m_tm j_tm p1_tm p2_tm p3_tm p4_tm p5_tm p6_tm p7_tm p8_tm p9_tm p10_tm) sc_tm dV_tm kV_tm doc_tm pm_tm an_tm (.ref co_tm) ct_tm cc_tm) ⟨[e, u], []⟩ = (pure [(("self" : Str), e), (("limit" : Str), u)] : Sem (List (Str × Value))))
    (x_tm : tmRest K l.prog C_tm f_tm co_tm bm_tm qual_tm file_tm params_tm sc_tm p3_tm p5_tm = true)
    : LawAtS l w K (L2N.CX l.prog w) 2 63 "_law_script" mg fa h := by
  have e := hfa.symm.trans (PySem.W.mg_of X G a_law)
  cases e
  refine ⟨PySem.W.fnOf "law" "law" (defArgs s_law) (defBody s_law) (defScope s_law) .none kV_law dc_law pm_law an_law cd_law ct_law, [], spD K mg ([] : List (Addr × Str)) 1 (W_law (scrOk K)), (fun _ z => nomatch z), (fun _ z => nomatch z), (fun _ z => nomatch z), fun s u => .of_eq rfl, ?_, ?_⟩
  · intro H a ns hl hb hH hS
    exact law_start (cs := []) (T := []) (fun _ z => nomatch z) (fun d ns h1 h2 h3 R S Φ hq => law_true d ns h1 h2 h3 R S Φ hq) H a ns hl hb hH hS
  · intro base X0 G0 TB
    have T : Txt l.prog K mg base ([] : List (Addr × Str)) := by
      refine ⟨defAt_mk X G a_l_plain l_l_plain c_l_plain k_l_plain (fun _ _ _ _ _ _ us hl => by cases us with | nil => rfl | cons a b => cases hl),
        defAt_mk X G a_l_kinds l_l_kinds c_l_kinds k_l_kinds (fun _ _ _ _ _ _ us hl => match us, hl with | [_], _ => rfl),
        PySem.W.mg_none_of X G n_ValueError,
        PySem.W.mg_none_of X G n_isinstance,
        PySem.W.mg_none_of X G n_len,
        PySem.W.mg_none_of X G n_range,
        PySem.W.mg_none_of X G n_str,
        excW_mk X G x_CornerError,
        excW_mk X G x_InvalidBody,
        excW_mk X G x_InvalidCorners,
        excW_mk X G x_InvalidIndex,
        excW_mk X G x_InvalidNumber,
        excW_mk X G x_InvalidPair,
        excW_mk X G x_InvalidPoint,
        excW_mk X G x_InvalidSize,
        excW_mk X G x_InvalidSlope,
        excW_mk X G x_InvalidStep,
        excW_mk X G x_InvalidText,
        excW_mk X G x_InvalidTurn,
        excW_mk X G x_NotEmpty,
        excW_mk X G x_NothingToUndo,
        excW_mk X G x_Unlike,
        subK_mk X G x_sub,
        tmE_mk X G a_tm i_tm l_tm c_tm r_tm e_tm z_tm bb_tm x_tm⟩
    exact fn_law T (fun_mk l_law c_law k_law)
theorem cx_false {P : Program} (w : World) (H : Hp) (s : Shared) (e : Value) (s' : Shared) (h : L2N.CX P w [] H s (fun _ _ _ => False) e s') : False := by
  obtain ⟨_, _, _, _, _, _, _, _, _, _, _, _, z⟩ := h
  exact z
end DL

set_option maxRecDepth 100000
set_option maxHeartbeats 4000000

open PySem PySem.W PyProof.Rows in
set_option maxRecDepth 100000 in
set_option maxHeartbeats 0 in
theorem PySem.Challenge.cw_emptycorners_k13_classes_of_errors_holds : PySem.Challenge.rw_emptycorners_k13_classes_of_errors.Holds := by
  w_on; o_law; k_head; (case hw => w_witness2)
  k_fill
  refine LamX.walk_ofTs (l := PySem.Challenge.rw_emptycorners_k13_classes_of_errors) (n := 63) (k := 2) (x := "_law_script") (CX := fun w => L2N.CX (PySem.Challenge.rw_emptycorners_k13_classes_of_errors).prog w) rfl (by decide) rfl ⟨rfl, by decide, by decide⟩ (fun w h Y => PySem.W.kIn_of Y) ?F DL.cx_false
  case F =>
    intro w mg fa h Y KX G hmg
    refine' DL.law_mk (ts := []) KX G hmg (fun _ z => nomatch z) ?a_l_plain ?l_l_plain ?c_l_plain ?k_l_plain ?a_l_kinds ?l_l_kinds ?c_l_kinds ?k_l_kinds ?a_law ?l_law ?c_law ?k_law ?n_ValueError ?n_isinstance ?n_len ?n_range ?n_str ?x_CornerError ?x_InvalidBody ?x_InvalidCorners ?x_InvalidIndex ?x_InvalidNumber ?x_InvalidPair ?x_InvalidPoint ?x_InvalidSize ?x_InvalidSlope ?x_InvalidStep ?x_InvalidText ?x_InvalidTurn ?x_NotEmpty ?x_NothingToUndo ?x_Unlike ?x_sub ?a_tm ?i_tm ?l_tm ?c_tm ?r_tm ?e_tm ?z_tm ?bb_tm ?x_tm
    (case a_l_plain => k_is)
    (case l_l_plain => k_is)
    (case c_l_plain => k_is)
    (case k_l_plain => k_is)
    (case a_l_kinds => k_is)
    (case l_l_kinds => k_is)
    (case c_l_kinds => k_is)
    (case k_l_kinds => k_is)
    (case a_law => k_is)
    (case l_law => k_is)
    (case c_law => k_is)
    (case k_law => k_is)
    (case n_ValueError => k_is)
    (case n_isinstance => k_is)
    (case n_len => k_is)
    (case n_range => k_is)
    (case n_str => k_is)
    (case x_CornerError => kernel_rfl)
    (case x_InvalidBody => kernel_rfl)
    (case x_InvalidCorners => kernel_rfl)
    (case x_InvalidIndex => kernel_rfl)
    (case x_InvalidNumber => kernel_rfl)
    (case x_InvalidPair => kernel_rfl)
    (case x_InvalidPoint => kernel_rfl)
    (case x_InvalidSize => kernel_rfl)
    (case x_InvalidSlope => kernel_rfl)
    (case x_InvalidStep => kernel_rfl)
    (case x_InvalidText => kernel_rfl)
    (case x_InvalidTurn => kernel_rfl)
    (case x_NotEmpty => kernel_rfl)
    (case x_NothingToUndo => kernel_rfl)
    (case x_Unlike => kernel_rfl)
    (case x_sub => kernel_rfl)
    (case a_tm => k_is)
    (case i_tm => k_is)
    (case l_tm => k_is)
    (case c_tm => k_is)
    (case r_tm => exact rfl)
    (case e_tm => k_is)
    (case z_tm => k_is)
    (case bb_tm => exact fun _ _ => rfl)
    (case x_tm => kernel_rfl)
