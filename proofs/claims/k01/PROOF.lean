import PyProof.Rows.All
import Wide.All
import OpenK.AllK
import Wide.FinOn
import KE.KExcSuper
import HandS.ForMost
import HandS.Exc
import HandS.ExcInit
import HandS.ExcValue
import HandS.IsInst
import KE.KExcIs
import PyProof.ReprRoads
import HandS.Defaults
import HandS.WordsExc
import HandS.HeadEnd
import HandS.Head0
import HandS.Head1
import HandS.Head2
import HandS.HeadHook1
import HandS.HeadHook2
import HandS.HeadHook4
import HandS.Wide
import KE.KStateDown
import Lean
import PySem.Challenge.RW_flagfree_k01_errors_and_their_fields
set_option Elab.async false
set_option linter.all false
set_option maxRecDepth 100000
set_option maxHeartbeats 4000000
namespace PySem
namespace Erx
open PySem.W PySem.Calls PyProof.Rows PySem.HandSPX
/-! ### an own exception class called, also with keywords: __new__, then the own __init__ -/
section
variable {M : Model} {A : Around} {E : Value → Shared → Prop} {h : Heap} {g : Array GenState} {d : Drawn} {t : Nat} {os : OsState}
variable {nm q : Str} {C N : Addr} {bs bm bmB : List Value} {hdct : Bool} {sn : List Str} {sub : List Value} {ab : Bool} {col : Option Bool} {dd : Option Addr} {k0 k1 k2 k3 k5 : Option Value} {B newId initId : String}
theorem ck_new (F : ExcBaseFacts B newId initId bmB) (hT : ∀ X : String, bm.contains (.type X) = bmB.contains (.type X)) {us : List Value} {kw : List (Str × Value)} {Q : Unit → Shared → Prop}
    (cC : h.get? C = some (excClassObj nm q C N bs bm hdct sn sub ab col dd k0 k1 k2 k3 k5 newId)) (hq : Q () ⟨h, g, d, t, os⟩) :
    wpAny M A (checkBuiltinCall newId ⟨.ref C :: us, kw⟩) Q E ⟨h, g, d, t, os⟩ := by
  have inB : (Value.ref C :: bm).contains (.type B) = true := by
    rw [List.contains_cons, hT, F.hasB, Bool.or_true]
  have st := F.noStar
  simp only [checkBuiltinCall, F.newKind, F.newSplit, F.newRow]
  repeat (first
    | refine wpAny_loadPart_at cC ?_
    | (refine wpAny_isSubtype_exc cC ?_; rw [inB])
    | refine wpAny_staticBase_exc cC ?_
    | refine wpAny_madeBy_exc cC ?_
    | simp only [bne_self_eq_false, Bool.false_eq_true, if_false]
    | wp_step)
  all_goals exact hq
theorem ck_type {us : List Value} {kw : List (Str × Value)} {Q : Unit → Shared → Prop} (cC : h.get? C = some (excClassObj nm q C N bs bm hdct sn sub ab col dd k0 k1 k2 k3 k5 newId))
    (hq : Q () ⟨h, g, d, t, os⟩) : wpAny M A (checkBuiltinCall "type.__call__" ⟨.ref C :: us, kw⟩) Q E ⟨h, g, d, t, os⟩ := by
  have z3 := tc_sub
  have zT : (⟨h, g, d, t, os⟩ : Shared).TypeIs (.ref C) "type" := ⟨_, cC, rfl⟩
  simp only [checkBuiltinCall, tc_kind, tc_split]
  repeat (any_goals (first
    | assumption
    | with_reducible refine wpAny_loadPart_at cC ?_
    | with_reducible refine wpAny_onRaise ?_
    | with_reducible refine wpAny_map ?_
    | wp_step))
end
section
variable {prog : Program} {w : World} {A : Around} {E : Value → Shared → Prop} {R : Result → Shared → Prop} {h : Heap} {g : Array GenState} {d : Drawn} {t : Nat} {os : OsState}
variable {nm q : Str} {C N : Addr} {bs bm bmB : List Value} {hdct : Bool} {sn : List Str} {sub : List Value} {ab : Bool} {col : Option Bool} {dd : Option Addr} {k0 k1 k2 k3 k5 : Option Value} {B newId initId : String}
theorem new_kw (F : ExcBaseFacts B newId initId bmB) (hT : ∀ X : String, bm.contains (.type X) = bmB.contains (.type X)) {us : List Value} {kw : List (Str × Value)}
    (cC : h.get? C = some (excClassObj nm q C N bs bm hdct sn sub ab col dd k0 k1 k2 k3 k5 newId))
    (hq : R (.ok (.ret (.ref (h.objs.size + 1)))) ⟨(h.push (kdv_tup us)).push (excO C h.objs.size), g, d, t, os⟩) (hz : us.length ≤ sizeLine) :
    codeAny (model prog w) A (.builtin newId ⟨.ref C :: us, kw⟩) R ⟨h, g, d, t, os⟩ := by
  have he := F.ends
  have inB : (Value.ref C :: bm).contains (.type B) = true := by
    rw [List.contains_cons, hT, F.hasB, Bool.or_true]
  have inA : (Value.ref C :: bm).contains (.type "AttributeError") = false := by
    rw [List.contains_cons, hT, F.noAttr]
    rfl
  have inN : (Value.ref C :: bm).contains (.type "NameError") = false := by
    rw [List.contains_cons, hT, F.noName]
    rfl
  refine codeAny_builtinAt F.entry ?_
  unfold Builtin.«BaseException.__new__»
  refine wpAt_bind ?_
  show wpAt _ _ _ (stack >>= _) _ _ _
  refine wpAt_bind (wpAt_stack fun p bl => wpAt_of_wpAny ?_)
  wp_walk
  refine wpAt_of_wpAny ?_
  rw [F.owner]
  repeat (first
    | with_reducible refine wpAny_madeHere_exc F.canon cC ?_
    | with_reducible refine wpAny_loadPart_at cC ?_
    | (with_reducible refine wpAny_isSubtype_exc cC ?_; first | rw [inB] | rw [inA] | rw [inN])
    | wp_step)
  show R _ _
  rw [Heap.size_push]
  exact hq
theorem tcall_kw (F : ExcBaseFacts B newId initId bmB) (hT : ∀ X : String, bm.contains (.type X) = bmB.contains (.type X)) {us : List Value} {kw : List (Str × Value)} {fI : Addr} {Q : Fin → Shared → Prop}
    (cC : h.get? C = some (excClassObj nm q C N bs bm hdct sn sub ab col dd k0 k1 k2 k3 k5 newId))
    (hi : Looks (model prog w) h (typeLookup (.ref C) "__init__") (some (.ref fI))) (hb : ∀ self, Looks (model prog w) h (bindSpecial (.ref fI) self) (.ref fI, [self])) (hz : us.length ≤ sizeLine)
    (hq : codeAny (model prog w) A (.call (.ref fI) ⟨.ref (h.objs.size + 1) :: us, kw⟩)
      (fun r s' => match r with | .ok (.ret v) => v = .none ∧ Q (.done (.ret (.ref (h.objs.size + 1)))) s' | .ok _ => False | .error e => E e s')
      ⟨(h.push (kdv_tup us)).push (excO C h.objs.size), g, d, t, os⟩) :
    wpAny (model prog w) A (Builtin.«type.__call__» ⟨.ref C :: us, kw⟩) Q E ⟨h, g, d, t, os⟩ := by
  repeat (first
    | with_reducible refine wpAny_loadPart_at cC ?_
    | with_reducible refine wpAny_madeBy_exc cC ?_
    | wp_step)
  refine codeAny_call_builtin_code (Code.quiet_builtin _ F.quiet) (ck_new F hT cC ?_)
  refine new_kw F hT cC ?_ hz
  show wpAny _ _ _ _ _ _
  have kk : ∀ b o, h.get? b = some o → ((h.push (kdv_tup us)).push (excO C h.objs.size)).get? b = some o := fun b o e =>
    Heap.get?_push_of_some _ (Heap.get?_push_of_some _ e)
  have cC1 := kk _ _ cC
  have gx : ((h.push (kdv_tup us)).push (excO C h.objs.size)).get? (h.objs.size + 1) = some (excO C h.objs.size) := by heap_get
  have inC : (Value.ref C :: bm).contains (.ref C) = true := by simp
  have i1 := hi.keeps kk
  have b1 := (hb (.ref (h.objs.size + 1))).keeps kk
  unfold isInstance
  repeat (first
    | with_reducible refine wpAny_loadPart_at gx ?_
    | (with_reducible refine wpAny_isSubtype_exc cC1 ?_; rw [inC])
    | wp_step)
  show wpAny _ _ (typeLookup (.ref C) _) _ _ _
  refine i1.at ?_
  refine wpAny_holding (wpAny_bind (b1.at ?_))
  refine wpAny_bind (wpAny_call (codeAny_mono hq fun r s' z => ?_))
  rcases r with e | (v | _ | _ | _) <;> first | exact z | exact z.elim | skip
  obtain ⟨rfl, z⟩ := z
  first
    | exact wpAny_pure (wpAny_pure z)
    | (wp_walk; exact z)
theorem call_kw (F : ExcBaseFacts B newId initId bmB) (hT : ∀ X : String, bm.contains (.type X) = bmB.contains (.type X)) {us : List Value} {kw : List (Str × Value)} {fI : Addr}
    (cC : h.get? C = some (excClassObj nm q C N bs bm hdct sn sub ab col dd k0 k1 k2 k3 k5 newId))
    (hi : Looks (model prog w) h (typeLookup (.ref C) "__init__") (some (.ref fI))) (hb : ∀ self, Looks (model prog w) h (bindSpecial (.ref fI) self) (.ref fI, [self])) (hz : us.length ≤ sizeLine)
    (hq : codeAny (model prog w) (A.under (.builtin "type.__call__" ⟨.ref C :: us, kw⟩)) (.call (.ref fI) ⟨.ref (h.objs.size + 1) :: us, kw⟩) (InitBack (h.objs.size + 1) R)
      ⟨(h.push (kdv_tup us)).push (excO C h.objs.size), g, d, t, os⟩) :
    codeAny (model prog w) A (.call (.ref C) ⟨us, kw⟩) R ⟨h, g, d, t, os⟩ := by
  have z1 := tc_lookup
  have z2 := tc_bind (.ref C)
  have zT : (⟨h, g, d, t, os⟩ : Shared).TypeIs (.ref C) "type" := ⟨_, cC, rfl⟩
  refine codeAny_of_tree ?_
  show wpAny _ _ (callAny (.ref C) _) _ _ _
  repeat (any_goals (first
    | assumption
    | with_reducible refine wpAny_loadPart_at cC ?_
    | wp_step))
  refine ⟨rfl, ?_⟩
  refine codeAny_call_builtin_at (Code.quiet_builtin _ (by decide +kernel)) entry_typeCall (ck_type cC (tcall_kw F hT cC hi hb hz ?_))
  refine codeAny_mono hq fun r s' z => ?_
  rcases r with e | (v | _ | _ | _) <;> exact z
/-- the bound ValueError.__init__ called: the args are laid anew -/
theorem call_mw (F : ExcBaseFacts B newId initId bmB) {u e t0 : Addr} {us : List Value} {Q : Value → Shared → Prop}
    (cC : h.get? C = some (excClassObj nm q C N bs bm hdct sn sub ab col dd k0 k1 k2 k3 k5 newId)) (he : h.get? e = some (excO C t0)) (hu : h.get? u = some (kxs_mw initId e)) (hz : us.length ≤ sizeLine)
    (hq : ∀ h' t1, (∀ b o, b ≠ e → h.get? b = some o → h'.get? b = some o) → h'.get? e = some (excO C t1) → Q .none ⟨h', g, d, t, os⟩) :
    wpAny (model prog w) A (call (.ref u) us) Q E ⟨h, g, d, t, os⟩ := by
  refine wpAny_call (codeAny_of_tree ?_)
  show wpAny _ A.in1 (callAny (.ref u) ⟨us, []⟩) _ _ _
  simp only [callAny]
  refine wpAny_bind (wpAny_load hu ?_)
  refine KFB.if_so (by rfl) ?_
  refine wpAny_bind (check_bound_init F.toExcCallFacts cC he rfl ?_)
  refine wpAny_bind (wpAny_pure (wpAny_pure ?_))
  refine ⟨plainId_quiet F.init.plain _, codeAny_builtin F.initEntry ?_⟩
  exact exc_init_tree (cls := .ref C) (t0 := t0) (dv := none) (c2 := .none) (c3 := .none) (b4 := .bool false) he hz fun h' k e' _ => hq h' h.objs.size k e'
end
end Erx
end PySem
set_option Elab.async false
set_option linter.all false
set_option maxRecDepth 100000
set_option maxHeartbeats 4000000
namespace PySem
namespace Erx
open PySem.W PySem.Calls PyProof.Rows PySem.HandSPX
/-- what the written part K of the program P says of an own error class at C (below ValueError), of its own __init__ at fI, of that one's cell cc and code cda -/
structure ErrTxt (P : Program) (K : Frag) (C fI cc cda : Addr) : Prop where
  cls : ∃ nm q N bs bm sn sub ab col dd k0 k1 k2 k3 k5, K.lookup C = some (excClassObj nm q C N bs bm true sn sub ab col dd k0 k1 k2 k3 k5 "ValueError.__new__") ∧ refsVE bm = true
  sa : findIn K (.ref C) "__setattr__" = some (some (.builtin "object.__setattr__"))
  iC : findIn K (.ref C) "__init__" = some (some (.ref fI))
  tI : typeIn K (.ref fI) = some (.type "function")
  sup : ks_superIn K C C "__init__" = some (some (.builtin "ValueError.__init__"))
  ve : subIn K (.ref C) (.type "ValueError") = some true
  own : mroIn K C (.ref C) = some true
  cell : ∃ cl cld csl, K.lookup cc = some ⟨cl, cld, .cell (some (.ref C)), csl⟩
  code : ∃ ccl cdd vs ccs file tf, K.lookup cda = some ⟨ccl, cdd, .fields vs, ccs⟩ ∧ vs[2]? = some (.str file tf) ∧ ((P.main.file : Str) == file) = true
  tpa : nsIn K cStatics "thirdparty.any" = some none
  top : (P.main.scope.names.lookup ("super" : Str)).isSome = false
/-- what the heap has of the module and of the built-ins, as far as super() asks -/
structure SupOk (h : Heap) : Prop where
  g : ∃ mg, h.Ns mainGlobals mg ∧ mg "super" = none
  b : ∃ mb, h.Ns builtinsNs mb ∧ mb "super" = some (.type "super")
theorem SupOk.keeps {h h' : Heap} (S : SupOk h) (k : ∀ b o, h.get? b = some o → h'.get? b = some o) : SupOk h' := by
  obtain ⟨⟨mg, g1, g2⟩, mb, b1, b2⟩ := S
  exact ⟨⟨mg, g1.keeps k, g2⟩, mb, b1.keeps k, b2⟩
/-- the scope of such an __init__ -/
structure IScope (scope : Scope) (fs : List Str) : Prop where
  kind : scope.kind = .function
  co : scope.isCoroutine = false
  gen : scope.isGenerator = false
  cell : ∀ x ∈ scope.names, x.2 ≠ .cell
  sup : scope.names.lookup ("super" : Str) = some .globalImplicit
  cls : scope.names.lookup ("__class__" : Str) = some .free
  self : scope.names.lookup ("self" : Str) = some .local
  loc : ∀ f ∈ fs, scope.names.lookup f = some .local
abbrev initFn (qual : Str) (params : Arguments) (body : List Stmt) (scope : Scope) (kV doc pm : Value) (an : Option Addr) (cda : Addr) (ct : Value) (cc : Addr) : FuncData :=
  ksFn "__init__" qual params body scope .none kV doc pm an (.ref cda) ct cc
abbrev superInit (p0 p1 p2 p3 p4 : Pos) (args : List Expr) : Stmt :=
  .Expr (.Call (.Attribute (.Call (.Name "super" p0) [] [] p1) "__init__" p2) args [] p3) p4
section
variable {prog : Program} {w : World} {A : Around} {E : Value → Shared → Prop} {R : Result → Shared → Prop} {K : Frag} {C fI cc cda : Addr}
theorem nameL {qual : Str} {scope : Scope} {L a c2 : Addr} {cd : Value} {m : Str → Option Value} {x : Str} {pos : Pos} {v : Value} {s : Shared} {Q : Value → Shared → Prop} (hn : s.heap.Ns L m) (hv : m x = some v) (hk : scope.kind = .function) (hl : scope.names.lookup x = some .local) (h : Q v s)
    (hd : (x == ("__debug__" : Str)) = false) : wpAny (model prog w) A (eval (.Name x pos) (ksEnv qual scope L a cd c2)) Q E s :=
  wpAny_Name (wpAny_loadName_local hk hl hn hv h) hd
/-- super().__init__(e, ..) in the own __init__ of a new error at x -/
theorem super_stmt {qual : Str} {params : Arguments} {body : List Stmt} {scope : Scope} {kV doc pm ct oc : Value} {an od : Option Addr} {osl : Array (Option Value)} {fs : List Str} {L x t0 : Addr} {m : Str → Option Value} {ar : Arg} {h : Heap} {g : Array GenState} {d : Drawn} {t : Nat} {os : OsState} {e : Expr} {es : List Expr} {p0 p1 p2 p3 p4 : Pos} {pl : Sem Bool} {Q : Flow → Shared → Prop}
    (T : ErrTxt prog K C fI cc cda) (S : IScope scope fs) (lk : K.lookup fI = some ⟨oc, od, .func (initFn qual params body scope kV doc pm an cda ct cc), osl⟩) (hp : (params.posonlyargs ++ params.args).head? = some ar) (har : ar.arg = "self")
    (X : K.In h) (SO : SupOk h) (hn : h.Ns L m) (hself : m "self" = some (.ref x)) (hx : h.get? x = some (excO C t0))
    (hargs : ∀ (h' : Heap) (t' : Nat) (E' : Value → Shared → Prop) (Q' : List Value → Shared → Prop), (∀ b o, h.get? b = some o → h'.get? b = some o) → (∀ us t2, us.length ≤ sizeLine → Q' us ⟨h', g, d, t2, os⟩) →
      wpAny (model prog w) A (spliced (backTo p3 (starEach (e :: es) (ksEnv qual scope L fI (.ref cda) cc)))) Q' E' ⟨h', g, d, t', os⟩)
    (he : starEach (e :: es) (ksEnv qual scope L fI (.ref cda) cc) = (false, eval e (ksEnv qual scope L fI (.ref cda) cc)) :: starEach es (ksEnv qual scope L fI (.ref cda) cc))
    (hpl : (backTo p3 (starEach es (ksEnv qual scope L fI (.ref cda) cc))).any (·.1) = false)
    (hq : ∀ h' t' t1, (∀ b o, b ≠ x → h.get? b = some o → h'.get? b = some o) → h'.get? x = some (excO C t1) → Q .next ⟨h', g, d, t', os⟩)
    (hev : eval (.Call (.Attribute (.Call (.Name "super" p0) [] [] p1) "__init__" p2) (e :: es) [] p3) (ksEnv qual scope L fI (.ref cda) cc) = (do
      let o1 ← attributeBase (.Call (.Name "super" p0) [] [] p1) "__init__" (ksEnv qual scope L fI (.ref cda) cc) (eval (.Call (.Name "super" p0) [] [] p1) (ksEnv qual scope L fI (.ref cda) cc))
      standAt p2.atName
      let (f1, fst1) ← holding [o1] (getMethod o1 "__init__" pl)
      callWith p3 f1 fst1 (backTo p3 (starEach (e :: es) (ksEnv qual scope L fI (.ref cda) cc))) []))
    (hint : interactive (ksEnv qual scope L fI (.ref cda) cc) = false := by rfl)
    (hsw : swapsWith (.Call (.Attribute (.Call (.Name "super" p0) [] [] p1) "__init__" p2) (e :: es) [] p3) none p4.line (ksEnv qual scope L fI (.ref cda) cc) = pure false := by rfl) :
    PySem.wpAt (model prog w) A (.func body (ksEnv qual scope L fI (.ref cda) cc)) (exec (superInit p0 p1 p2 p3 p4 (e :: es)) (ksEnv qual scope L fI (.ref cda) cc)) Q E ⟨h, g, d, t, os⟩ := by
  obtain ⟨nm, q, N, bs, bm, sn, sub, ab, col, dd, k0, k1, k2, k3, k5, hC, hbm⟩ := T.cls
  obtain ⟨cl, cld, csl, hcell⟩ := T.cell
  obtain ⟨ccl, cdd, vs, ccs, file, tf, hcode, hvs, hfile⟩ := T.code
  obtain ⟨⟨mg, hg, hgs⟩, mb, hb, hbs⟩ := SO
  have hcd : clsIn K C = some { name := nm, bases := bs, mro := .ref C :: bm, ns := N, qualname := q, hasDict := true, slotNames := sn, subclasses := sub, abstract := ab, collection := col, hasDel := false } := by
    unfold clsIn
    rw [hC] <;> rfl
  have I0 : InstAt h x (excO C t0) C none := ⟨hx, rfl, rfl, trivial⟩
  refine ks_wpAt_Expr_any (ks_wpAt_MethodCall (pl := pl) ?_ hev) hint hsw
  refine ks_wpAt_super_base (env := ksEnv qual scope L fI (.ref cda) cc) S.sup S.cls (show (("__init__" : Str) == ("__class__" : Str)) = false by decide) rfl (X _ _ lk) rfl hp rfl (X _ _ hcode) rfl hvs hfile T.top ?_
  refine ks_loadName_global S.kind S.sup (loadGlobal_builtin (env := ksEnv qual scope L fI (.ref cda) cc) hg hgs hb hbs ⟨rfl, ?_⟩)
  refine wpAny_loadName_free S.kind S.cls rfl ⟨_, X _ _ hcell, rfl⟩ ?_
  rw [har]
  refine wpAny_loadName_local S.kind S.self hn hself ?_
  refine ks_wpAny_isType_cls (X _ _ hC) rfl ⟨rfl, ?_⟩
  refine ks_wpAny_call_super (X _ _ hC) rfl hx rfl (fun c z => by cases z) (looks_mroIn X T.own) fun h1 e1 kk1 => ?_
  have X1 : K.In h1 := X.keeps kk1
  have I1 : InstAt h1 x (excO C t0) C none := ⟨kk1 _ _ hx, rfl, rfl, trivial⟩
  have hm := T.sup
  unfold ks_superIn at hm
  rw [hcd] at hm
  refine kxs_getMethod kxs_ValueError e1 (looks_opaque X1 T.tpa) (l₀ := .ref C :: bm) ?_ rfl X1 hm (I1.type.andThen (looks_subIn X1 T.ve)) (ks_ne X1 I1 hcd) (by decide) ?_
  · exact fun A Q E s k q => wpAny_bind ((looks_clsIn X1 hcd) A _ E s k (wpAny_pure q))
  show wpAny _ _ (callWith p3 (Value.ref h1.objs.size) [] (backTo p3 (starEach (e :: es) (ksEnv qual scope L fI (.ref cda) cc))) []) _ _ _
  have hmw : (h1.push (kxs_mw "ValueError.__init__" x)).get? h1.objs.size = some (kxs_mw "ValueError.__init__" x) := Heap.get?_push_at rfl rfl
  have kk2 : ∀ b o, h.get? b = some o → (h1.push (kxs_mw "ValueError.__init__" x)).get? b = some o := fun b o z => Heap.get?_push_of_some _ (kk1 b o z)
  rw [he]
  refine kxs_callWith (i := "ValueError.__init__") (x := x) (by show (false || (backTo p3 (starEach es (ksEnv qual scope L fI (.ref cda) cc))).any (·.1)) = false; rw [hpl]; rfl) ?_
  have ha := hargs (h1.push (kxs_mw "ValueError.__init__" x)) (t + 1) E
  rw [he] at ha
  refine evalArgs_plain (ha _ kk2 fun us t2 hz => ⟨hmw, ?_⟩)
  refine call_mw F.excBase_ValueError ((X.keeps kk2) _ _ hC) (kk2 _ _ hx) hmw hz fun h' t1 k' e' => ?_
  exact hq h' _ t1 (fun b o hb z => k' b o hb (kk2 b o z)) e'
end
end Erx
end PySem
set_option Elab.async false
set_option linter.all false
set_option maxRecDepth 100000
set_option maxHeartbeats 4000000
namespace PySem
namespace Erx
open PySem.W PySem.Calls PyProof.Rows PySem.HandSPX
/-- how super().__init__(args) is evaluated in such a frame: what hangs on the text's places -/
def SupEv (qual : Str) (scope : Scope) (fI cda cc : Addr) (p0 p1 p2 p3 p4 : Pos) (args : List Expr) : Prop :=
  ∃ pl : Sem Bool, ∀ L : Addr, (eval (.Call (.Attribute (.Call (.Name "super" p0) [] [] p1) "__init__" p2) args [] p3) (ksEnv qual scope L fI (.ref cda) cc) = (do
      let o1 ← attributeBase (.Call (.Name "super" p0) [] [] p1) "__init__" (ksEnv qual scope L fI (.ref cda) cc) (eval (.Call (.Name "super" p0) [] [] p1) (ksEnv qual scope L fI (.ref cda) cc))
      standAt p2.atName
      let (f1, fst1) ← holding [o1] (getMethod o1 "__init__" pl)
      callWith p3 f1 fst1 (backTo p3 (starEach args (ksEnv qual scope L fI (.ref cda) cc))) [])) ∧
    interactive (ksEnv qual scope L fI (.ref cda) cc) = false ∧
    swapsWith (.Call (.Attribute (.Call (.Name "super" p0) [] [] p1) "__init__" p2) args [] p3) none p4.line (ksEnv qual scope L fI (.ref cda) cc) = pure false
/-- what an own __init__ leaves of a new error at x -/
structure InitEnd (h h' : Heap) (x C dx : Addr) (fs : List (Str × Value)) : Prop where
  keep : ∀ b o, b ≠ x → h.get? b = some o → h'.get? b = some o
  obj : ∃ t1, h'.get? x = some { cls := .ref C, dict := some dx, data := .fields #[.ref t1, .none, .none, .none, .bool false, .none] }
  big : h.objs.size ≤ dx
  ne : dx ≠ x
  ns : ∃ mA, h'.Ns1 dx mA ∧ ∀ y, mA y = fs.lookup y
/-- a made error at e, its fields in the dict at d -/
structure MadeE (h h' : Heap) (e C d : Addr) (fs : List (Str × Value)) : Prop where
  keep : ∀ b o, h.get? b = some o → h'.get? b = some o
  new : h.objs.size ≤ e
  obj : ∃ t1, h'.get? e = some { cls := .ref C, dict := some d, data := .fields #[.ref t1, .none, .none, .none, .bool false, .none] }
  big : h.objs.size ≤ d
  ne : d ≠ e
  ns : ∃ mA, h'.Ns1 d mA ∧ ∀ y, mA y = fs.lookup y
theorem _root_.PySem.W.Frag.In.but {K : Frag} {h h' : Heap} {x : Addr} (X : K.In h) (hx : K.lookup x = none) (k : ∀ b o, b ≠ x → h.get? b = some o → h'.get? b = some o) : K.In h' := fun a o e =>
  k a o (fun z => by rw [z, hx] at e; cases e) (X a o e)
theorem lookV (f g : Str) (y : Value) (fs : List (Str × Value)) : ((f, y) :: fs).lookup g = if g = f then some y else fs.lookup g := by
  by_cases h : g = f
  · rw [if_pos h, h]
    simp [List.lookup]
  · have e : (g == f) = false := by simpa using h
    rw [if_neg h]
    simp [List.lookup, e]
theorem bindsOne {f : Str} {x v : Value} (hf : f ≠ "self") : ([(("self" : Str), x), (f, v)].reverse.lookup ("self" : Str) = some x) ∧ ([(("self" : Str), x), (f, v)].reverse.lookup f = some v) := by
  constructor
  · show [(f, v), (("self" : Str), x)].lookup ("self" : Str) = some x
    rw [lookV, if_neg (Ne.symm hf), lookV, if_pos rfl]
  · show [(f, v), (("self" : Str), x)].lookup f = some v
    rw [lookV, if_pos rfl]
section
variable {prog : Program} {w : World} {A : Around} {R : Result → Shared → Prop} {K : Frag} {C fI cc cda : Addr} {qual : Str} {scope : Scope} {kV doc pm ct oc : Value} {an od : Option Addr} {osl : Array (Option Value)}
abbrev par1 (f : Str) (a1 a2 : Pos) : Arguments := { posonlyargs := [], args := [{ arg := "self", annotation := none, pos := a1 }, { arg := f, annotation := none, pos := a2 }], vararg := none, kwonlyargs := [], kw_defaults := [], kwarg := none, defaults := [] }
abbrev body1 (f : Str) (p0 p1 p2 p3 p4 q0 q1 q2 q3 q4 : Pos) : List Stmt := [superInit p0 p1 p2 p3 p4 [.Name f q0], .Assign [.Attribute (.Name "self" q1) f q2] (.Name f q3) q4]
theorem init1 {f : Str} {a1 a2 p0 p1 p2 p3 p4 q0 q1 q2 q3 q4 : Pos} {x t0 : Addr} {v : Value} {args : Args} {s : Shared}
    (T : ErrTxt prog K C fI cc cda) (S : IScope scope [f]) (lk : K.lookup fI = some ⟨oc, od, .func (initFn qual (par1 f a1 a2) (body1 f p0 p1 p2 p3 p4 q0 q1 q2 q3 q4) scope kV doc pm an cda ct cc), osl⟩) (hcd : codeIn K (.ref cda) qual = true)
    (ev : SupEv qual scope fI cda cc p0 p1 p2 p3 p4 [.Name f q0]) (hf : f ≠ "self") (hdb : (f == ("__debug__" : Str)) = false) (hno : findIn K (.ref C) f = some none)
    (X : K.In s.heap) (hlim : s.heap.NoLimit) (SO : SupOk s.heap) (hx : s.heap.get? x = some (excO C t0)) (hnx : K.lookup x = none) (hroom : A.depth < recursionLimit)
    (hbind : BindsTo s (initFn qual (par1 f a1 a2) (body1 f p0 p1 p2 p3 p4 q0 q1 q2 q3 q4) scope kV doc pm an cda ct cc) args [("self", .ref x), (f, v)])
    (hq : ∀ h' tk dx, InitEnd s.heap h' x C dx [(f, v)] → R (.ok (.ret .none)) { s with heap := h', toks := tk }) :
    codeAny (model prog w) A (.call (.ref fI) args) R s := by
  obtain ⟨nm, q, N, bs, bm, sn, sub, ab, col, dd, k0, k1, k2, k3, k5, hC, hbm⟩ := T.cls
  have hcl : clsIn K C = some { name := nm, bases := bs, mro := .ref C :: bm, ns := N, qualname := q, hasDict := true, slotNames := sn, subclasses := sub, abstract := ab, collection := col, hasDel := false } := by
    unfold clsIn
    rw [hC] <;> rfl
  obtain ⟨pl, ev⟩ := ev
  obtain ⟨b1, b2⟩ := bindsOne (x := .ref x) (v := v) hf
  have hfl : scope.names.lookup f = some .local := S.loc f (by simp)
  obtain ⟨h0, g, d, t, os⟩ := s
  refine ks_codeAny_call_defAt (fd := initFn qual (par1 f a1 a2) (body1 f p0 p1 p2 p3 p4 q0 q1 q2 q3 q4) scope kV doc pm an cda ct cc) (body := body1 f p0 p1 p2 p3 p4 q0 q1 q2 q3 q4) hroom (X _ _ lk) rfl hlim (codeRec_of X hcd) rfl hbind S.cell (fun y hy => ?_) (fun h1 hns kk1 => ?_) S.co S.gen S.kind
  · rcases List.mem_cons.mp hy with rfl | hy
    · exact S.self
    · rcases List.mem_cons.mp hy with rfl | hy
      · exact hfl
      · cases hy
  have e1 := ev h0.objs.size
  have xL : h0.objs.size ≠ x := Nat.ne_of_gt (Heap.lt_size hx)
  refine ks_wpAt_execs_cons (super_stmt (fs := [f]) T S lk rfl rfl (X.keeps kk1) (SO.keeps kk1) hns b1 (kk1 _ _ hx) (fun h' t' E' Q' k' q' => ?_) rfl rfl (fun h2 t2 tt k2 x2 => ?_) e1.1 e1.2.1 e1.2.2)
  · exact spliced_cons (nameL (hns.keeps k') b2 S.kind hfl (spliced_nil (q' _ _ (by rw [sizeLine_eq]; simp))) hdb)
  · show PySem.wpAt _ _ _ (execs _ _) _ _ _
    have hns2 : h2.Ns h0.objs.size (fun y => [(("self" : Str), Value.ref x), (f, v)].reverse.lookup y) := by
      obtain ⟨o, es, ep, ho, r⟩ := hns
      exact ⟨o, es, ep, k2 _ _ xL ho, r⟩
    have X2 : K.In h2 := (X.keeps kk1).but hnx k2
    refine wpAt_of_wpAny (wpAny_execs_cons (plainObj_wpAny_Assign_Attribute ?_))
    refine nameL hns2 b2 S.kind hfl (nameL hns2 b1 S.kind S.self ?_ (by decide)) hdb
    refine set_plain X2 (ox := excO C tt) (od := none) ⟨x2, rfl, rfl, trivial⟩ T.sa ?_
    refine exc_osa X2 x2 hcl (show refsVE (.ref C :: bm) = true from hbm) rfl hno fun h3 t3 dx k3 dn dne x3 n3 => ?_
    show wpAny _ _ (execs _ _) _ _ _
    refine wpAny_execs_nil (hq h3 t3 dx ⟨fun b o hb z => k3 b o hb (k2 b o hb (kk1 b o z)), ⟨tt, x3⟩, ?_, dne, _, n3, fun y => ?_⟩)
    · exact Nat.le_trans (Nat.le_of_lt hns2.lt) dn
    · rw [lookV]
      rfl
abbrev par2 (f g : Str) (a1 a2 a3 : Pos) : Arguments := { posonlyargs := [], args := [{ arg := "self", annotation := none, pos := a1 }, { arg := f, annotation := none, pos := a2 }, { arg := g, annotation := none, pos := a3 }], vararg := none, kwonlyargs := [], kw_defaults := [], kwarg := none, defaults := [] }
abbrev body2 (f g : Str) (p0 p1 p2 p3 p4 q0 r0 q1 q2 q3 q4 r1 r2 r3 r4 : Pos) : List Stmt := [superInit p0 p1 p2 p3 p4 [.Name f q0, .Name g r0], .Assign [.Attribute (.Name "self" q1) f q2] (.Name f q3) q4, .Assign [.Attribute (.Name "self" r1) g r2] (.Name g r3) r4]
theorem init2 {f g' : Str} {a1 a2 a3 p0 p1 p2 p3 p4 q0 r0 q1 q2 q3 q4 r1 r2 r3 r4 : Pos} {x t0 : Addr} {v u : Value} {args : Args} {s : Shared}
    (T : ErrTxt prog K C fI cc cda) (S : IScope scope [f, g']) (lk : K.lookup fI = some ⟨oc, od, .func (initFn qual (par2 f g' a1 a2 a3) (body2 f g' p0 p1 p2 p3 p4 q0 r0 q1 q2 q3 q4 r1 r2 r3 r4) scope kV doc pm an cda ct cc), osl⟩) (hcd : codeIn K (.ref cda) qual = true)
    (ev : SupEv qual scope fI cda cc p0 p1 p2 p3 p4 [.Name f q0, .Name g' r0]) (hf : f ≠ "self") (hg : g' ≠ "self") (hfg : f ≠ g') (hdb : (f == ("__debug__" : Str)) = false) (hdg : (g' == ("__debug__" : Str)) = false) (hno : findIn K (.ref C) f = some none) (hng : findIn K (.ref C) g' = some none)
    (X : K.In s.heap) (hlim : s.heap.NoLimit) (SO : SupOk s.heap) (hx : s.heap.get? x = some (excO C t0)) (hnx : K.lookup x = none) (hroom : A.depth < recursionLimit)
    (hbind : BindsTo s (initFn qual (par2 f g' a1 a2 a3) (body2 f g' p0 p1 p2 p3 p4 q0 r0 q1 q2 q3 q4 r1 r2 r3 r4) scope kV doc pm an cda ct cc) args [("self", .ref x), (f, v), (g', u)])
    (hq : ∀ h' tk dx, InitEnd s.heap h' x C dx [(f, v), (g', u)] → R (.ok (.ret .none)) { s with heap := h', toks := tk }) :
    codeAny (model prog w) A (.call (.ref fI) args) R s := by
  obtain ⟨nm, q, N, bs, bm, sn, sub, ab, col, dd, k0, k1, k2, k3, k5, hC, hbm⟩ := T.cls
  have hcl : clsIn K C = some { name := nm, bases := bs, mro := .ref C :: bm, ns := N, qualname := q, hasDict := true, slotNames := sn, subclasses := sub, abstract := ab, collection := col, hasDel := false } := by
    unfold clsIn
    rw [hC] <;> rfl
  obtain ⟨pl, ev⟩ := ev
  have b1 : [(("self" : Str), Value.ref x), (f, v), (g', u)].reverse.lookup ("self" : Str) = some (.ref x) := by
    show [(g', u), (f, v), (("self" : Str), Value.ref x)].lookup ("self" : Str) = some (.ref x)
    rw [lookV, if_neg (Ne.symm hg), lookV, if_neg (Ne.symm hf), lookV, if_pos rfl]
  have b2 : [(("self" : Str), Value.ref x), (f, v), (g', u)].reverse.lookup f = some v := by
    show [(g', u), (f, v), (("self" : Str), Value.ref x)].lookup f = some v
    rw [lookV, if_neg hfg, lookV, if_pos rfl]
  have b3 : [(("self" : Str), Value.ref x), (f, v), (g', u)].reverse.lookup g' = some u := by
    show [(g', u), (f, v), (("self" : Str), Value.ref x)].lookup g' = some u
    rw [lookV, if_pos rfl]
  have hfl : scope.names.lookup f = some .local := S.loc f (by simp)
  have hgl : scope.names.lookup g' = some .local := S.loc g' (by simp)
  obtain ⟨h0, g, d, t, os⟩ := s
  refine ks_codeAny_call_defAt (fd := initFn qual (par2 f g' a1 a2 a3) (body2 f g' p0 p1 p2 p3 p4 q0 r0 q1 q2 q3 q4 r1 r2 r3 r4) scope kV doc pm an cda ct cc) (body := body2 f g' p0 p1 p2 p3 p4 q0 r0 q1 q2 q3 q4 r1 r2 r3 r4) hroom (X _ _ lk) rfl hlim (codeRec_of X hcd) rfl hbind S.cell (fun y hy => ?_) (fun h1 hns kk1 => ?_) S.co S.gen S.kind
  · rcases List.mem_cons.mp hy with rfl | hy
    · exact S.self
    · rcases List.mem_cons.mp hy with rfl | hy
      · exact hfl
      · rcases List.mem_cons.mp hy with rfl | hy
        · exact hgl
        · cases hy
  have e1 := ev h0.objs.size
  have xL : h0.objs.size ≠ x := Nat.ne_of_gt (Heap.lt_size hx)
  refine ks_wpAt_execs_cons (super_stmt (fs := [f, g']) T S lk rfl rfl (X.keeps kk1) (SO.keeps kk1) hns b1 (kk1 _ _ hx) (fun h' t' E' Q' k' q' => ?_) rfl rfl (fun h2 t2 tt k2 x2 => ?_) e1.1 e1.2.1 e1.2.2)
  · exact spliced_cons (nameL (hns.keeps k') b2 S.kind hfl (spliced_cons (nameL (hns.keeps k') b3 S.kind hgl (spliced_nil (q' _ _ (by rw [sizeLine_eq]; simp))) hdg)) hdb)
  · show PySem.wpAt _ _ _ (execs _ _) _ _ _
    have hns2 : h2.Ns h0.objs.size (fun y => [(("self" : Str), Value.ref x), (f, v), (g', u)].reverse.lookup y) := by
      obtain ⟨o, es, ep, ho, r⟩ := hns
      exact ⟨o, es, ep, k2 _ _ xL ho, r⟩
    have X2 : K.In h2 := (X.keeps kk1).but hnx k2
    refine wpAt_of_wpAny (wpAny_execs_cons (plainObj_wpAny_Assign_Attribute ?_))
    refine nameL hns2 b2 S.kind hfl (nameL hns2 b1 S.kind S.self ?_ (by decide)) hdb
    refine set_plain X2 (ox := excO C tt) (od := none) ⟨x2, rfl, rfl, trivial⟩ T.sa ?_
    refine exc_osa X2 x2 hcl (show refsVE (.ref C :: bm) = true from hbm) rfl hno fun h3 t3 dx k3 dn dne x3 n3 => ?_
    show wpAny _ _ (execs _ _) _ _ _
    have X3 : K.In h3 := X2.but hnx k3
    have hns3 : h3.Ns h0.objs.size (fun y => [(("self" : Str), Value.ref x), (f, v), (g', u)].reverse.lookup y) := by
      obtain ⟨o, es, ep, ho, r⟩ := hns2
      exact ⟨o, es, ep, k3 _ _ xL ho, r⟩
    have hL3 : h0.objs.size < dx := Nat.lt_of_lt_of_le hns2.lt dn
    have hw : Within (fun y => if y = f then some v else none) [f] := Within.cons f v Within.nil
    obtain ⟨oD, _, _, hoD, _, _⟩ := n3.count hw
    refine wpAny_execs_cons (plainObj_wpAny_Assign_Attribute ?_)
    refine nameL hns3 b3 S.kind hgl (nameL hns3 b1 S.kind S.self ?_ (by decide)) hdg
    refine set_plain X3 (ox := { cls := .ref C, dict := some dx, data := .fields #[.ref tt, .none, .none, .none, .bool false, .none] }) (od := some oD) ⟨x3, rfl, rfl, hoD⟩ T.sa ?_
    refine PySem.OEX.osa_old X3 x3 n3 hw (by simp) hcl (show refsVE (.ref C :: bm) = true from hbm) rfl hng fun h4 t4 k4 n4 => ?_
    show wpAny _ _ (execs _ _) _ _ _
    have nd : ∀ b o, h0.get? b = some o → b ≠ dx := fun b o z => Nat.ne_of_lt (Nat.lt_trans (Heap.lt_size z) hL3)
    refine wpAny_execs_nil (hq h4 t4 dx ⟨fun b o hb z => k4 b o (nd b o z) (k3 b o hb (k2 b o hb (kk1 b o z))), ⟨tt, k4 _ _ (Ne.symm dne) x3⟩, Nat.le_of_lt hL3, dne, _, n4, fun y => ?_⟩)
    rw [lookV, lookV]
    by_cases h5 : y = f
    · rw [if_pos h5, if_pos h5, if_neg (fun z => hfg (h5.symm.trans z))]
    · rw [if_neg h5, if_neg h5]
      rfl
end
end Erx
end PySem
set_option Elab.async false
set_option linter.all false
set_option maxRecDepth 100000
set_option maxHeartbeats 4000000
namespace PySem
namespace Erx
open PySem.W PySem.Calls PyProof.Rows PySem.HandSPX
section
variable {prog : Program} {w : World} {A : Around} {R : Result → Shared → Prop} {K : Frag} {C fI cc cda : Addr} {qual : Str} {scope : Scope} {kV doc pm ct oc : Value} {an od : Option Addr} {osl : Array (Option Value)}
abbrev par0 (a1 : Pos) : Arguments := { posonlyargs := [], args := [{ arg := "self", annotation := none, pos := a1 }], vararg := none, kwonlyargs := [], kw_defaults := [], kwarg := none, defaults := [] }
abbrev body0 (z : Str) (i : Nat) (p0 p1 p2 p3 p4 q0 : Pos) : List Stmt := [superInit p0 p1 p2 p3 p4 [.Constant (.str z) i q0]]
/-- an own __init__ without fields, that hands a written text on -/
theorem init0 {z : Str} {i : Nat} {a1 p0 p1 p2 p3 p4 q0 : Pos} {x t0 : Addr} {args : Args} {s : Shared}
    (T : ErrTxt prog K C fI cc cda) (S : IScope scope []) (lk : K.lookup fI = some ⟨oc, od, .func (initFn qual (par0 a1) (body0 z i p0 p1 p2 p3 p4 q0) scope kV doc pm an cda ct cc), osl⟩) (hcd : codeIn K (.ref cda) qual = true)
    (ev : SupEv qual scope fI cda cc p0 p1 p2 p3 p4 [.Constant (.str z) i q0])
    (X : K.In s.heap) (hlim : s.heap.NoLimit) (SO : SupOk s.heap) (hx : s.heap.get? x = some (excO C t0)) (hnx : K.lookup x = none) (hroom : A.depth < recursionLimit)
    (hbind : BindsTo s (initFn qual (par0 a1) (body0 z i p0 p1 p2 p3 p4 q0) scope kV doc pm an cda ct cc) args [("self", .ref x)])
    (hq : ∀ h' tk t1, (∀ b o, b ≠ x → s.heap.get? b = some o → h'.get? b = some o) → h'.get? x = some (excO C t1) → R (.ok (.ret .none)) { s with heap := h', toks := tk }) :
    codeAny (model prog w) A (.call (.ref fI) args) R s := by
  obtain ⟨pl, ev⟩ := ev
  have b1 : [(("self" : Str), Value.ref x)].reverse.lookup ("self" : Str) = some (.ref x) := by
    show [(("self" : Str), Value.ref x)].lookup ("self" : Str) = some (.ref x)
    rw [lookV, if_pos rfl]
  obtain ⟨h0, g, d, t, os⟩ := s
  refine ks_codeAny_call_defAt (fd := initFn qual (par0 a1) (body0 z i p0 p1 p2 p3 p4 q0) scope kV doc pm an cda ct cc) (body := body0 z i p0 p1 p2 p3 p4 q0) hroom (X _ _ lk) rfl hlim (codeRec_of X hcd) rfl hbind S.cell (fun y hy => ?_) (fun h1 hns kk1 => ?_) S.co S.gen S.kind
  · rcases List.mem_cons.mp hy with rfl | hy
    · exact S.self
    · cases hy
  have e1 := ev h0.objs.size
  refine ks_wpAt_execs_cons (super_stmt (fs := []) T S lk rfl rfl (X.keeps kk1) (SO.keeps kk1) hns b1 (kk1 _ _ hx) (fun h' t' E' Q' k' q' => ?_) rfl rfl (fun h2 t2 tt k2 x2 => ?_) e1.1 e1.2.1 e1.2.2)
  · exact spliced_cons (wpAny_Constant_str (k := i) (pos := q0) (spliced_nil (q' _ _ (by rw [sizeLine_eq]; simp))))
  · show PySem.wpAt _ _ _ (execs _ _) _ _ _
    exact wpAt_of_wpAny (wpAny_execs_nil (hq h2 t2 tt (fun b o hb y => k2 b o hb (kk1 b o y)) x2))
end
/-- the class at C makes errors with these fields -/
def MakesE (P : Program) (K : Frag) (C : Addr) (names : List Str) : Prop :=
  ∀ (w : World) (A : Around) (R : Result → Shared → Prop) (s : Shared) (us : List Value) (kw : List (Str × Value)) (vs : List Value), vs.length = names.length → ((us = vs ∧ kw = []) ∨ (us = [] ∧ kw = (names.zip vs).reverse)) →
    K.In s.heap → s.heap.NoLimit → SupOk s.heap → A.depth + 1 < recursionLimit →
    (∀ h' tk e d, MadeE s.heap h' e C d (names.zip vs) → R (.ok (.ret (.ref e))) { s with heap := h', toks := tk }) → codeAny (model P w) A (.call (.ref C) ⟨us, kw⟩) R s
section
variable {prog : Program} {K : Frag} {C fI cc cda : Addr} {qual : Str} {scope : Scope} {kV doc pm ct oc : Value} {an od : Option Addr} {osl : Array (Option Value)}
theorem push_none {K : Frag} {h : Heap} (X : K.In h) : K.lookup (h.objs.size + 1) = none := by
  cases e : K.lookup (h.objs.size + 1) with
  | none => rfl
  | some o =>
    have z : h.get? (h.objs.size + 1) = some o := X _ _ e
    exact absurd (Nat.lt_of_succ_lt (Heap.lt_size z)) (Nat.lt_irrefl _)
theorem made_of {h h' : Heap} {us : List Value} {dx : Addr} {fs : List (Str × Value)} (I : InitEnd ((h.push (kdv_tup us)).push (excO C h.objs.size)) h' (h.objs.size + 1) C dx fs) : MadeE h h' (h.objs.size + 1) C dx fs := by
  obtain ⟨k, o, b, n, s⟩ := I
  have kk : ∀ b o, h.get? b = some o → ((h.push (kdv_tup us)).push (excO C h.objs.size)).get? b = some o := fun b o e =>
    Heap.get?_push_of_some _ (Heap.get?_push_of_some _ e)
  refine ⟨fun a u z => k a u (Nat.ne_of_lt (Nat.lt_succ_of_lt (Heap.lt_size z))) (kk a u z), Nat.le_succ _, o, ?_, n, s⟩
  have q := b
  rw [Heap.size_push, Heap.size_push] at q
  exact Nat.le_trans (Nat.le_trans (Nat.le_succ _) (Nat.le_succ _)) q
theorem makes1 {f : Str} {a1 a2 p0 p1 p2 p3 p4 q0 q1 q2 q3 q4 : Pos} (T : ErrTxt prog K C fI cc cda) (S : IScope scope [f])
    (lk : K.lookup fI = some ⟨oc, od, .func (initFn qual (par1 f a1 a2) (body1 f p0 p1 p2 p3 p4 q0 q1 q2 q3 q4) scope kV doc pm an cda ct cc), osl⟩) (hcd : codeIn K (.ref cda) qual = true)
    (ev : SupEv qual scope fI cda cc p0 p1 p2 p3 p4 [.Name f q0]) (hf : f ≠ "self") (hdb : (f == ("__debug__" : Str)) = false) (hno : findIn K (.ref C) f = some none)
    (bp : ∀ (s : Shared) (x v : Value), BindsTo s (initFn qual (par1 f a1 a2) (body1 f p0 p1 p2 p3 p4 q0 q1 q2 q3 q4) scope kV doc pm an cda ct cc) ⟨[x, v], []⟩ [("self", x), (f, v)])
    (bk : ∀ (s : Shared) (x v : Value), BindsTo s (initFn qual (par1 f a1 a2) (body1 f p0 p1 p2 p3 p4 q0 q1 q2 q3 q4) scope kV doc pm an cda ct cc) ⟨[x], [(f, v)]⟩ [("self", x), (f, v)]) : MakesE prog K C [f] := by
  intro w A R s us kw vs hl hb X hlim SO hroom hq
  obtain ⟨nm, q, N, bs, bm, sn, sub, ab, col, dd, k0, k1, k2, k3, k5, hC, hbm⟩ := T.cls
  match vs, hl with
  | [v], _ =>
    obtain ⟨h, g, d, t, os⟩ := s
    have kk : ∀ us : List Value, ∀ b o, h.get? b = some o → ((h.push (kdv_tup us)).push (excO C h.objs.size)).get? b = some o := fun us b o e =>
      Heap.get?_push_of_some _ (Heap.get?_push_of_some _ e)
    have gx : ∀ us : List Value, ((h.push (kdv_tup us)).push (excO C h.objs.size)).get? (h.objs.size + 1) = some (excO C h.objs.size) := fun us => by heap_get
    rcases hb with ⟨rfl, rfl⟩ | ⟨rfl, rfl⟩
    · refine call_kw F.excBase_ValueError (fun Y => refsVE_contains Y bm hbm) (X _ _ hC) (looks_findIn X T.iC) (fun self => bind_fn X self T.tI) (by rw [sizeLine_eq]; simp) ?_
      exact init1 T S lk hcd ev hf hdb hno (X.keeps (kk _)) (hlim.keeps (kk _)) (SO.keeps (kk _)) (gx _) (push_none X) hroom (bp _ _ _) fun h' tk dx I => ⟨rfl, hq h' tk _ dx (made_of I)⟩
    · refine call_kw F.excBase_ValueError (fun Y => refsVE_contains Y bm hbm) (X _ _ hC) (looks_findIn X T.iC) (fun self => bind_fn X self T.tI) (by rw [sizeLine_eq]; simp) ?_
      exact init1 T S lk hcd ev hf hdb hno (X.keeps (kk _)) (hlim.keeps (kk _)) (SO.keeps (kk _)) (gx _) (push_none X) hroom (bk _ _ _) fun h' tk dx I => ⟨rfl, hq h' tk _ dx (made_of I)⟩
theorem makes2 {f g' : Str} {a1 a2 a3 p0 p1 p2 p3 p4 q0 r0 q1 q2 q3 q4 r1 r2 r3 r4 : Pos} (T : ErrTxt prog K C fI cc cda) (S : IScope scope [f, g'])
    (lk : K.lookup fI = some ⟨oc, od, .func (initFn qual (par2 f g' a1 a2 a3) (body2 f g' p0 p1 p2 p3 p4 q0 r0 q1 q2 q3 q4 r1 r2 r3 r4) scope kV doc pm an cda ct cc), osl⟩) (hcd : codeIn K (.ref cda) qual = true)
    (ev : SupEv qual scope fI cda cc p0 p1 p2 p3 p4 [.Name f q0, .Name g' r0]) (hf : f ≠ "self") (hg : g' ≠ "self") (hfg : f ≠ g') (hdb : (f == ("__debug__" : Str)) = false) (hdg : (g' == ("__debug__" : Str)) = false) (hno : findIn K (.ref C) f = some none) (hng : findIn K (.ref C) g' = some none)
    (bp : ∀ (s : Shared) (x v u : Value), BindsTo s (initFn qual (par2 f g' a1 a2 a3) (body2 f g' p0 p1 p2 p3 p4 q0 r0 q1 q2 q3 q4 r1 r2 r3 r4) scope kV doc pm an cda ct cc) ⟨[x, v, u], []⟩ [("self", x), (f, v), (g', u)])
    (bk : ∀ (s : Shared) (x v u : Value), BindsTo s (initFn qual (par2 f g' a1 a2 a3) (body2 f g' p0 p1 p2 p3 p4 q0 r0 q1 q2 q3 q4 r1 r2 r3 r4) scope kV doc pm an cda ct cc) ⟨[x], [(g', u), (f, v)]⟩ [("self", x), (f, v), (g', u)]) : MakesE prog K C [f, g'] := by
  intro w A R s us kw vs hl hb X hlim SO hroom hq
  obtain ⟨nm, q, N, bs, bm, sn, sub, ab, col, dd, k0, k1, k2, k3, k5, hC, hbm⟩ := T.cls
  match vs, hl with
  | [v, u], _ =>
    obtain ⟨h, g, d, t, os⟩ := s
    have kk : ∀ us : List Value, ∀ b o, h.get? b = some o → ((h.push (kdv_tup us)).push (excO C h.objs.size)).get? b = some o := fun us b o e =>
      Heap.get?_push_of_some _ (Heap.get?_push_of_some _ e)
    have gx : ∀ us : List Value, ((h.push (kdv_tup us)).push (excO C h.objs.size)).get? (h.objs.size + 1) = some (excO C h.objs.size) := fun us => by heap_get
    rcases hb with ⟨rfl, rfl⟩ | ⟨rfl, rfl⟩
    · refine call_kw F.excBase_ValueError (fun Y => refsVE_contains Y bm hbm) (X _ _ hC) (looks_findIn X T.iC) (fun self => bind_fn X self T.tI) (by rw [sizeLine_eq]; simp) ?_
      exact init2 T S lk hcd ev hf hg hfg hdb hdg hno hng (X.keeps (kk _)) (hlim.keeps (kk _)) (SO.keeps (kk _)) (gx _) (push_none X) hroom (bp _ _ _ _) fun h' tk dx I => ⟨rfl, hq h' tk _ dx (made_of I)⟩
    · refine call_kw F.excBase_ValueError (fun Y => refsVE_contains Y bm hbm) (X _ _ hC) (looks_findIn X T.iC) (fun self => bind_fn X self T.tI) (by rw [sizeLine_eq]; simp) ?_
      exact init2 T S lk hcd ev hf hg hfg hdb hdg hno hng (X.keeps (kk _)) (hlim.keeps (kk _)) (SO.keeps (kk _)) (gx _) (push_none X) hroom (bk _ _ _ _) fun h' tk dx I => ⟨rfl, hq h' tk _ dx (made_of I)⟩
/-- the class at C makes errors without fields -/
def MakesE0 (P : Program) (K : Frag) (C : Addr) : Prop :=
  ∀ (w : World) (A : Around) (R : Result → Shared → Prop) (s : Shared), K.In s.heap → s.heap.NoLimit → SupOk s.heap → A.depth + 1 < recursionLimit →
    (∀ h' tk e t1, (∀ b o, s.heap.get? b = some o → h'.get? b = some o) → s.heap.objs.size ≤ e → h'.get? e = some (excO C t1) → R (.ok (.ret (.ref e))) { s with heap := h', toks := tk }) → codeAny (model P w) A (.call (.ref C) ⟨[], []⟩) R s
theorem makes0 {z : Str} {i : Nat} {a1 p0 p1 p2 p3 p4 q0 : Pos} (T : ErrTxt prog K C fI cc cda) (S : IScope scope [])
    (lk : K.lookup fI = some ⟨oc, od, .func (initFn qual (par0 a1) (body0 z i p0 p1 p2 p3 p4 q0) scope kV doc pm an cda ct cc), osl⟩) (hcd : codeIn K (.ref cda) qual = true)
    (ev : SupEv qual scope fI cda cc p0 p1 p2 p3 p4 [.Constant (.str z) i q0])
    (bp : ∀ (s : Shared) (x : Value), BindsTo s (initFn qual (par0 a1) (body0 z i p0 p1 p2 p3 p4 q0) scope kV doc pm an cda ct cc) ⟨[x], []⟩ [("self", x)]) : MakesE0 prog K C := by
  intro w A R s X hlim SO hroom hq
  obtain ⟨nm, q, N, bs, bm, sn, sub, ab, col, dd, k0, k1, k2, k3, k5, hC, hbm⟩ := T.cls
  obtain ⟨h, g, d, t, os⟩ := s
  have kk : ∀ us : List Value, ∀ b o, h.get? b = some o → ((h.push (kdv_tup us)).push (excO C h.objs.size)).get? b = some o := fun us b o e =>
    Heap.get?_push_of_some _ (Heap.get?_push_of_some _ e)
  have gx : ∀ us : List Value, ((h.push (kdv_tup us)).push (excO C h.objs.size)).get? (h.objs.size + 1) = some (excO C h.objs.size) := fun us => by heap_get
  refine call_kw F.excBase_ValueError (fun Y => refsVE_contains Y bm hbm) (X _ _ hC) (looks_findIn X T.iC) (fun self => bind_fn X self T.tI) (by rw [sizeLine_eq]; simp) ?_
  exact init0 T S lk hcd ev (X.keeps (kk _)) (hlim.keeps (kk _)) (SO.keeps (kk _)) (gx _) (push_none X) hroom (bp _ _) fun h' tk t1 k' e' => ⟨rfl, hq h' tk _ t1 (fun b o y => k' b o (Nat.ne_of_lt (Nat.lt_succ_of_lt (Heap.lt_size y))) (kk _ b o y)) (Nat.le_succ _) e'⟩
end
end Erx
end PySem
set_option Elab.async false
set_option linter.all false
set_option maxRecDepth 100000
set_option maxHeartbeats 4000000
namespace Erl
open PySem PySem.Spec PyProof.Rows L2 PySem.Erx
/-- what the written part says of an own error class, as far as its errors are read -/
structure ECls (K : PySem.W.Frag) (C : Addr) : Prop where
  kC : PySem.W.keepIn K (.ref C) = true
  exC : PySem.W.subIn K (.ref C) (.type "BaseException") = some true
  tyC : PySem.W.typeIn K (.ref C) = some (.type "type")
  ga : PySem.W.findIn K (.ref C) "__getattribute__" = some (some (.builtin "BaseException.__getattribute__"))
  gg : PySem.W.findIn K (.ref C) "__getattr__" = some none
  hdC : PySem.W.hasDictIn K C = true
  cl : (PySem.W.clsIn K C).isSome = true
  cA : PySem.W.findIn K (.ref C) "__class__" = some (some (.builtin "object.__class__"))
  cN : PySem.W.specialIn K (.builtin "object.__class__") "__get__" = some (some (.builtin "getset_descriptor.__get__"))
  cT : PySem.W.takesIn K (.builtin "object.__class__") = some true
  cM : PySem.W.mroIn K C (.type "object") = some true
/-- at a stands an error of the class at C -/
def ErrAt (H : Hp) (a C : Addr) : Prop := H a = some (exo a C none) ∨ ∃ d fs, H a = some (exo a C (some d)) ∧ H d = some (.xd fs)
section
variable {X : Cx} {pins : List (Addr × Obj)} {σ : L2.St} {H : Hp} {s : Shared}
theorem err_inst {a C : Addr} (I : Inv X pins σ H s) (h : ErrAt H a C) : ∃ ox od, PySem.W.InstAt s.heap a ox C od := by
  rcases h with h | ⟨d, fs, h, hd⟩
  · obtain ⟨t1, ho⟩ := exo_at I.hok h
    exact ⟨_, none, ho, rfl, rfl, trivial⟩
  · obtain ⟨t1, ho⟩ := exo_at I.hok h
    obtain ⟨mA, ⟨o, es, ep, e, _⟩, _⟩ := (show ObjOk X.prog X.w H s.heap d (.xd fs) from I.hok d _ hd)
    exact ⟨_, some o, ho, rfl, rfl, e⟩
/-- isinstance(x, c), x an error -/
def rIsiE (K : PySem.W.Frag) : List V → Hp → VK → Prop := fun xs H Q => ∃ (a C : Addr) (c : V) (u : Value) (b : Bool), xs = [.ref a, c] ∧ ErrAt H a C ∧ ECls K C ∧ ClsV c u ∧ PySem.W.kitOne K (.ref C) u = some b ∧ Q (.bl b) H
theorem call_isiE : CallR X (.builtin "isinstance") (rIsiE X.K) := by
  intro pins s σ H xs us Q I r h
  obtain ⟨a, C, c, u, b, rfl, ha, E, k, e, q⟩ := h
  obtain ⟨u1, u2, rfl, r1, r2⟩ := vals2 r
  have e2 := k.eq r2
  subst e2
  cases (show u1 = Value.ref a from r1)
  obtain ⟨ox, od, J⟩ := err_inst I ha
  exact PySem.W.kia_one (PySem.W.kitx_exc E.cl E.ga E.gg E.exC E.cA E.cN E.cT E.cM) I.kIn J e (fun z => nomatch z) fun tk => ⟨.bl b, H, I.tok tk, rfl, q⟩
/-- e.f, e an error value -/
def tErrF (K : PySem.W.Frag) (te : TE) (f : Str) : TE := fun σ H Q => te σ H fun x H1 => ∃ (a C d : Addr) (fs : List (Str × V)) (v : V), x = .ref a ∧ H1 a = some (exo a C (some d)) ∧ H1 d = some (.xd fs) ∧ ECls K C ∧ PySem.W.findIn K (.ref C) f = some none ∧ fs.lookup f = some v ∧ Q v H1
theorem pe_errF {e : Expr} {te : TE} {f : Str} {pos : Pos} (he : PE X e te) (hb : attributeBase e f X.env (eval e X.env) = eval e X.env := by rfl) : PE X (.Attribute e f pos) (tErrF X.K te f) := by
  refine ⟨fun pins s σ H Q I h => ?_⟩
  refine attr_of hb (thn (he.run pins s σ H _ I h) fun u s1 hh => ?_)
  obtain ⟨x, H1, I1, rx, a, C, d, fs, v, ex, ea, ed, E, hno, hl, q⟩ := hh
  subst ex
  obtain rfl : u = Value.ref a := rx
  obtain ⟨t1, ho⟩ := exo_at I1.hok ea
  obtain ⟨mA, hns, hr⟩ := (show ObjOk X.prog X.w H1 s1.heap d (.xd fs) from I1.hok d _ ed)
  obtain ⟨od, ho2, hl2⟩ := lookIn_ns hns
  obtain ⟨u, hu, ru⟩ := RelO.some_of (v := v) (o := mA f) (by rw [← hl]; exact hr f)
  have J : PySem.W.InstAt s1.heap a _ C (some od) := ⟨ho, rfl, rfl, ho2⟩
  exact HandSPX.exc_get I1.kIn J E.ga E.gg E.exC (PySem.W.findObj_own E.hdC hno rfl (by rw [hl2, hu])) (handed_of ru) ⟨v, H1, I1.tok _, ru, q⟩
theorem sup_ok (I : Inv X pins σ H s) (hm : X.mg "super" = none) : SupOk s.heap := by
  obtain ⟨mb, h1, h2⟩ := I.mod.blt
  exact ⟨⟨X.mg, I.mod.glob.keeps I.bk, hm⟩, mb, h1.keeps I.bk, (h2 "super" (by decide)).trans (by first | rfl | decide +kernel | kernel_rfl)⟩
theorem relO_zip : ∀ (names : List Str) (vs : List V) (us : List Value), Vals vs us → ∀ f, RelO ((names.zip vs).lookup f) ((names.zip us).lookup f)
  | [], _, _, _, _ => trivial
  | _ :: _, _, _, .nil, _ => trivial
  | n :: ns, _, _, .cons r t, f => by
    rw [List.zip_cons_cons, List.zip_cons_cons, lookup_put, lookV]
    by_cases h : f = n
    · rw [if_pos h, if_pos h]
      exact r
    · rw [if_neg h, if_neg h]
      exact relO_zip ns _ _ t f
/-- behind the making of an error: it stands at e, its fields at d -/
theorem inv_made {hp h' : Heap} {g : Array GenState} {dr : Drawn} {tk tk' : Nat} {os : OsState} {e C d : Addr} {names : List Str} {vs : List V} {us : List Value} (I : Inv X pins σ H ⟨hp, g, dr, tk, os⟩) (M : MadeE hp h' e C d (names.zip us)) (r : Vals vs us) :
    H e = none ∧ H d = none ∧ Inv X pins σ (upd (upd H d (.xd (names.zip vs))) e (exo e C (some d))) ⟨h', g, dr, tk', os⟩ := by
  obtain ⟨t1, hoe⟩ := M.obj
  obtain ⟨mA, hns, hmA⟩ := M.ns
  have ne : H e = none := I.hok.fresh M.new
  have nd : H d = none := I.hok.fresh M.big
  refine ⟨ne, nd, ?_⟩
  obtain ⟨G, g1, g2⟩ := restrict h' fun b => decide (b ≠ e)
  have gk : ∀ b, b ≠ e → G.get? b = h'.get? b := fun b hb => g1 b (decide_eq_true hb)
  have ge : G.get? e = none := g2 e (by simp)
  have old : ∀ b o, hp.get? b = some o → G.get? b = some o := fun b o z => (gk b (Nat.ne_of_lt (Nat.lt_of_lt_of_le (Heap.lt_size z) M.new))).trans (M.keep b o z)
  have rel : ∀ f, RelO ((names.zip vs).lookup f) (mA f) := fun f => by
    rw [hmA f]
    exact relO_zip names vs us r f
  have ob : ObjOk X.prog X.w (upd H d (.xd (names.zip vs))) G d (.xd (names.zip vs)) := ⟨mA, hns.at (fun o z => (gk d M.ne).trans z), rel⟩
  have J : Inv X pins σ (upd H d (.xd (names.zip vs))) ⟨G, g, dr, tk', os⟩ := I.laid (t' := tk') old M.big ob
  have back : ∀ b u, G.get? b = some u → h'.get? b = some u := fun b u z => by
    by_cases hb : b = e
    · rw [hb, ge] at z
      cases z
    · exact (gk b hb).symm.trans z
  exact J.laidN (t' := tk') (a := e) (o := exo e C (some d)) back ge (by rw [upd_ne (Ne.symm M.ne)]; exact ne) (exo_ok hoe)
/-- C(e, ..) as a value -/
def tMkV (C : Addr) (names : List Str) (ta : TA) : TE := fun σ H Q => ta σ H fun vs H1 => vs.length = names.length ∧ ∀ a d, H1 a = none → H1 d = none → d ≠ a → Q (.ref a) (upd (upd H1 d (.xd (names.zip vs))) a (exo a C (some d)))
theorem run_mkV {us : List Value} {kw : List (Str × Value)} {C : Addr} {names : List Str} {vs : List V} {ws : List Value} {Q : VK} {k : Nat} (M : MakesE X.prog X.K C names) (hr : Room k X.A) (sup : X.mg "super" = none) (I : Inv X pins σ H s) (r : Vals vs ws)
    (hl : vs.length = names.length) (hb : (us = ws ∧ kw = []) ∨ (us = [] ∧ kw = (names.zip ws).reverse)) (h : ∀ a d, H a = none → H d = none → d ≠ a → Q (.ref a) (upd (upd H d (.xd (names.zip vs))) a (exo a C (some d)))) :
    wpAny (model X.prog X.w) X.A (call (.ref C) us kw) (EP X pins σ Q) X.xe s := by
  obtain ⟨hp, g, dr, tk, os⟩ := s
  refine wpAny_call (M X.w X.A _ ⟨hp, g, dr, tk, os⟩ us kw ws (r.length.symm.trans hl) hb I.kIn I.nolimit (sup_ok I sup) (by have := hr.dp; omega) fun h' tk' e d Md => ?_)
  obtain ⟨ne, nd, J⟩ := inv_made (tk' := tk') I Md r
  exact ⟨.ref e, _, J, rfl, h e d ne nd Md.ne⟩
theorem pe_mkV {x : Str} {C : Addr} {names : List Str} {e : Expr} {es : List Expr} {ta : TA} {p pos : Pos} {k : Nat} (M : MakesE X.prog X.K C names) (E : ECls X.K C) (gC : X.mg x = some (.ref C)) (sup : X.mg "super" = none) (hr : Room k X.A) (ha : PA X (e :: es) ta) (hg : Gl X x)
    (hd : (x == ("__debug__" : Str)) = false := by decide) (he : starEach (e :: es) X.env = (false, eval e X.env) :: starEach es X.env := by rfl) (hpl : (backTo pos (starEach es X.env)).any (·.1) = false := by rfl) :
    PE X (.Call (.Name x p) (e :: es) [] pos) (tMkV C names ta) := by
  refine ⟨fun pins s σ H Q I h => ?_⟩
  refine wpAny_Call_Name_kw (ld_glob I hg gC ?_ hd)
  refine PySem.W.callWith_K (h₀ := X.base) I.ok.mod.kin E.kC (thn (ha.run pos pins s σ H _ I h) fun us s1 ⟨vs, H1, I1, r, hl, q⟩ => ⟨I1.kIn, ?_⟩) he hpl
  exact run_mkV M hr sup I1 r hl (.inl ⟨rfl, rfl⟩) q
theorem zip_rev {names : List Str} {us : List Value} (h : us.length = names.length) : names.reverse.zip us = (names.zip us.reverse).reverse := by
  rw [List.zip_eq_zipWith, List.zip_eq_zipWith, List.reverse_zipWith (by simp [h]), List.reverse_reverse]
theorem vals_rev {vs : List V} {us : List Value} (r : Vals vs us) : Vals vs.reverse us.reverse := by
  have key : ∀ {vs : List V} {us : List Value}, Vals vs us → ∀ {a : List V} {b : List Value}, Vals a b → Vals (vs.reverseAux a) (us.reverseAux b) := by
    intro vs
    induction vs with
    | nil =>
      intro us r a b q
      cases r
      exact q
    | cons v vs ih =>
      intro us r a b q
      cases r with
      | cons rv rt => exact ih rt (.cons rv q)
  have z := key r (a := []) (b := []) .nil
  exact z
/-- C(f = e, ..): by keywords, the last field first -/
def tMkK (C : Addr) (names : List Str) (tk : TA) : TE := fun σ H Q => tk σ H fun vs H1 => vs.length = names.length ∧ ∀ a d, H1 a = none → H1 d = none → d ≠ a → Q (.ref a) (upd (upd H1 d (.xd (names.zip vs.reverse))) a (exo a C (some d)))
theorem pe_mkK {x : Str} {C : Addr} {names : List Str} {kws : List Keyword} {tk : TA} {p pos : Pos} {k : Nat} (M : MakesE X.prog X.K C names) (E : ECls X.K C) (gC : X.mg x = some (.ref C)) (sup : X.mg "super" = none) (hr : Room k X.A) (hkw : PK X kws tk) (hg : Gl X x)
    (hall : (backToKw pos (keywordEach kws X.env)).all (·.1.isSome) = true := by rfl) (hks : (backToKw pos (keywordEach kws X.env)).filterMap (·.1) = names.reverse := by rfl) (hd : (x == ("__debug__" : Str)) = false := by decide)
    (hpl : ((backTo pos (starEach [] X.env)).any (·.1) || (backToKw pos (keywordEach kws X.env)).any (·.1.isNone)) = false := by rfl) : PE X (.Call (.Name x p) [] kws pos) (tMkK C names tk) := by
  refine ⟨fun pins s σ H Q I h => ?_⟩
  refine wpAny_Call_Name_kw (ld_glob I hg gC ?_ hd)
  refine PySem.W.callWith_KW0 (h₀ := X.base) I.ok.mod.kin E.kC hall ?_ hpl
  refine thn (hkw.run pos pins s σ H _ I h) fun ws s2 ⟨zs, H2, I2, rz, hl, q2⟩ => ⟨I2.kIn, ?_⟩
  rw [hks]
  have hlw : ws.length = names.length := rz.length.symm.trans hl
  refine run_mkV (us := []) M hr sup I2 (vals_rev rz) (by rw [List.length_reverse]; exact hl) (.inr ⟨rfl, ?_⟩) q2
  exact zip_rev hlw
/-- C() as a value, no fields -/
def tMk0 (C : Addr) : TE := fun σ H Q => ∀ a, H a = none → Q (.ref a) (upd H a (exo a C none))
theorem pe_mk0 {x : Str} {C : Addr} {p pos : Pos} {k : Nat} (M : MakesE0 X.prog X.K C) (E : ECls X.K C) (gC : X.mg x = some (.ref C)) (sup : X.mg "super" = none) (hr : Room k X.A) (hg : Gl X x) (hd : (x == ("__debug__" : Str)) = false := by decide) : PE X (.Call (.Name x p) [] [] pos) (tMk0 C) := by
  refine ⟨fun pins s σ H Q I h => ?_⟩
  refine wpAny_Call_Name_kw (ld_glob I hg gC ?_ hd)
  refine PySem.W.callWith_K0 I.kIn E.kC ?_
  show wpAny _ _ (call (.ref C) []) _ _ _
  obtain ⟨hp, g, dr, tk, os⟩ := s
  refine wpAny_call (M X.w X.A _ ⟨hp, g, dr, tk, os⟩ I.kIn I.nolimit (sup_ok I sup) (by have := hr.dp; omega) fun h' tk' e t1 kk hz he => ?_)
  exact ⟨.ref e, _, I.laid (t' := tk') kk hz (exo_ok he), rfl, h e (I.hok.fresh hz)⟩
end
end Erl
set_option Elab.async false
set_option linter.all false
set_option maxRecDepth 100000
set_option maxHeartbeats 4000000
namespace Gd
open PySem PySem.Spec PyProof.Rows L2
/-! ### defs that are called where no repr is under way: A.guards = some [] -/
structure FnG (P : Program) (w : World) (K : PySem.W.Frag) (mg : Str → Option Value) (base : Heap) (CX : CXT) (k : Nat) (f : Addr) (fd : FuncData) (ps : List Str) (sp : Sp) : Prop where
  len : ∀ vs H Q E, sp vs H Q E → vs.length = ps.length
  run : ∀ (A : Around) (outer : List Env) (s : Shared) (H : Hp) (args : Args) (us : List Value) (vs : List V) (Q : VK) (E : XK), Room k A → A.guards = some [] → Env0 P w K mg base A outer s H → BindsTo s fd args (ps.zip us) → Vals vs us → sp vs H Q E →
    codeAny (model P w) A (.call (.ref f) args) (CR CX outer P w H s Q E) s
theorem fnG_of {CX : CXT} {P : Program} {w : World} {K : PySem.W.Frag} {mg : Str → Option Value} {base : Heap} {k : Nat} {f : Addr} {name qual : Str} {params : Arguments} {body : List Stmt} {scope : Scope} {dV kV doc pm cdv ct oc : Value} {an od : Option Addr}
    {osl : Array (Option Value)} {N ps : List Str} {sp : Sp} (lk : K.lookup f = some ⟨oc, od, .func (PySem.W.fnOf name qual params body scope dV kV doc pm an cdv ct), osl⟩) (hcd : PySem.W.codeIn K cdv qual = true) (S : FnScope N ps scope)
    (len : ∀ vs H Q E, sp vs H Q E → vs.length = ps.length)
    (hbody : ∀ (A : Around) (outer : List Env) (s : Shared) (H : Hp) (vs : List V) (Q : VK) (E : XK), Room k (A.deeper (envOfC qual scope s.heap.objs.size f cdv)) → A.guards = some [] → sp vs H Q E →
      ∃ t, PSs (cxOf CX P w K mg base N qual scope f cdv A outer s H E) body t ∧ t { nx := fun _ H' => Q .non H', rt := Q } (start N vs) H) :
    FnG P w K mg base CX (k + 1) f (PySem.W.fnOf name qual params body scope dV kV doc pm an cdv ct) ps sp := by
  refine ⟨len, fun A outer s H args us vs Q E hr hgd e0 hb r hsp => ?_⟩
  have hl := len _ _ _ _ hsp
  have KX : K.In s.heap := e0.mod.kin.keeps fun b o e => (e0.bs b o e).1
  have lim : s.heap.NoLimit := e0.mod.nolimit.keeps fun b o e => (e0.bs b o e).1
  have knd : ∀ y ∈ ps.zip us, scope.names.lookup y.1 = some .local ∨ (scope.names.lookup y.1 = some .cell ∧ ((cellsFrom (s.heap.objs.size + 1) scope.names []).lookup y.1).isSome = true) := fun ⟨n, v⟩ hy => by
    rcases S.par n (List.of_mem_zip hy).1 with q | q
    · exact .inl q
    · exact .inr ⟨q, PySem.W.cellsFrom_some _ _ _ (.inl q)⟩
  refine codeAny_call_function hr.depth (KX _ _ lk) rfl S.co S.gen rfl (PySem.W.codeRec_of KX hcd) (hb _ _ _ _ ?_)
  refine wpAny_newFunctionEnv_cells S.kind knd fun env he s1 x => ?_
  subst he
  refine ⟨lim.keeps x.toInCall.keep, codeAny_func ?_⟩
  obtain ⟨t, ht, hq⟩ := hbody A outer s H vs Q E (hr.deeper _) hgd hsp
  have I : Inv (cxOf CX P w K mg base N qual scope f cdv A outer s H E) [] (start N vs) H s1 := inv_start S hr.hd e0 hl r x
  refine wpAny_mono (ht.run [] s1 (start N vs) H _ I hq) (fun fl s' hs => ?_) fun e s' hs => hs
  have fin : ∀ {σ' : L2.St} {H' : Hp} {v : V} {u : Value}, Inv (cxOf CX P w K mg base N qual scope f cdv A outer s H E) [] σ' H' s' → RelV v u → Q v H' → CE outer P w H s Q u s' :=
    fun {σ' H' v u} J rv q => ⟨v, H', J.os, J.bare, J.base, J.hok, rv, q⟩
  cases fl with
  | ret u =>
    obtain ⟨v, σ', H', J, rv, q⟩ := hs
    exact fin J rv q
  | next =>
    obtain ⟨σ', H', J, q⟩ := hs
    exact fin (v := V.non) (u := Value.none) J rfl q
  | brk =>
    obtain ⟨_, _, _, q⟩ := hs
    exact False.elim q
  | cont =>
    obtain ⟨_, _, _, q⟩ := hs
    exact False.elim q
theorem okG {CX : CXT} {P : Program} {w : World} {K : PySem.W.Frag} {mg : Str → Option Value} {base : Heap} {x qual : Str} {params : Arguments} {body : List Stmt} {scope : Scope} {dvs : List V} {kws : List (Str × V)} {f : Addr} {fd : FuncData} {N ps : List Str} {k : Nat} {sp : Sp}
    (F : FunD K x qual params body scope dvs kws f fd) (S : FnScope N ps scope) (len : ∀ vs H Q E, sp vs H Q E → vs.length = ps.length)
    (hbody : ∀ (cdv : Value) (A : Around) (outer : List Env) (s : Shared) (H : Hp) (vs : List V) (Q : VK) (E : XK), Room k (A.deeper (envOfC qual scope s.heap.objs.size f cdv)) → A.guards = some [] → sp vs H Q E →
      ∃ t, PSs (cxOf CX P w K mg base N qual scope f cdv A outer s H E) body t ∧ t { nx := fun _ H' => Q .non H', rt := Q } (start N vs) H) : FnG P w K mg base CX (k + 1) f fd ps sp := by
  obtain ⟨oc, od, dV, kV, doc, pm, an, cdv, ct, osl, rfl, lk, hcd, _, _⟩ := F.ex
  exact fnG_of lk hcd S len fun A outer s H vs Q E hr hg hsp => hbody cdv A outer s H vs Q E hr hg hsp
theorem FnG.of {P : Program} {w : World} {K : PySem.W.Frag} {mg : Str → Option Value} {base : Heap} {CX : CXT} {k : Nat} {f : Addr} {fd : FuncData} {ps : List Str} {sp : Sp} (F : FnOk P w K mg base CX k f fd ps sp) : FnG P w K mg base CX k f fd ps sp :=
  ⟨F.len, fun A outer s H args us vs Q E hr _ e0 hb r h => F.run A outer s H args us vs Q E hr e0 hb r h⟩
/-- a call of such a def -/
theorem pe_callG {X : Cx} {CX : CXT} {k : Nat} {f : Addr} {fd : FuncData} {ps : List Str} {sp : Sp} {E : XK} {x : Str} {p pos : Pos} {e : Expr} {es : List Expr} {t : TA} {ds : List Value} {dvs : List V} (F : FnG X.prog X.w X.K X.mg X.base CX k f fd ps sp) (hgd : X.A.guards = some []) (hr : Room k X.A) (hg : Gl X x) (hm : X.mg x = some (.ref f)) (hk : PySem.W.keepIn X.K (.ref f) = true) (hb : Binds X.K fd ps ds) (hd : Vals dvs ds) (hx : Passes CX X E)
    (ha : PA X (e :: es) t) (hdb : (x == ("__debug__" : Str)) = false := by decide) (he : starEach (e :: es) X.env = (false, eval e X.env) :: starEach es X.env := by rfl) (hpl : (backTo pos (starEach es X.env)).any (·.1) = false := by rfl) :
    PE X (.Call (.Name x p) (e :: es) [] pos) (tCall sp dvs E t) := by
  refine ⟨fun pins s σ H Q I h => ?_⟩
  refine wpAny_Call_Name_kw (ld_glob I hg hm ?_ hdb)
  refine PySem.W.callWith_K (h₀ := X.base) I.ok.mod.kin hk (thn (ha.run pos pins s σ H _ I h) fun us s1 ⟨vs, H1, I1, r, q⟩ => ⟨I1.kIn, ?_⟩) he hpl
  have r2 : Vals (vs ++ dvs) (us ++ ds) := r.append hd
  have hl : (us ++ ds).length = ps.length := by
    rw [← r2.length]
    exact F.len _ _ _ _ q
  refine wpAny_call (codeAny_mono (F.run X.A X.stack s1 H1 ⟨us, []⟩ (us ++ ds) (vs ++ dvs) _ _ hr hgd I1.env0 (hb s1 us I1.kIn hl) r2 q) fun r s' hq => ?_)
  cases r with
  | error er => exact hx pins σ H1 s1 er s' I1 hq
  | ok fl =>
    cases fl with
    | ret u => exact I1.after hq
    | next => exact False.elim hq
    | brk => exact False.elim hq
    | cont => exact False.elim hq
/-- the law's call at its end, the law's def being such a one -/
theorem lawG {P : Program} {w : World} {K : PySem.W.Frag} {mg mb : Str → Option Value} {CX : CXT} {k : Nat} {fa a : Addr} {fd : FuncData} {x : Str} {sp : Sp} {s1 : Shared} {vs : List Value} {ns : List Int}
    (KX : K.In s1.heap) (hns : s1.heap.Ns mainGlobals mg) (hb : s1.heap.Ns builtinsNs mb) (hbb : ∀ x : Str, x ≠ "__name__" → mb x = bootBuiltins x) (hlim : s1.heap.NoLimit) (hg : s1.gens = #[])
    (ha : s1.heap.get? a = some { cls := .type "list", data := .seq vs.toArray }) (hi : IntsAre vs ns) (hl : ns.length ≤ sizeLine) (hr : Room k callerA)
    (F : ∀ base : Heap, K.In base → base.Ns mainGlobals mg → FnG P w K mg base CX k fa fd [x] sp) (hbind : ∀ (s : Shared) (u : Value), BindsTo s fd ⟨[u], []⟩ [(x, u)])
    (hsp : ∀ H : Hp, Only H → SqL K H a (ns.map V.int) → sp [.ref a] H (fun v _ => v = .bl true) fun _ _ _ => False)
    (hCX : ∀ H e s', CX [] H s1 (fun _ _ _ => False) e s' → False) :
    codeAny (model P w) callerA (.call (.ref fa) ⟨[.ref a], []⟩) (fun r s' => r = .ok (.ret (.bool true)) ∧ OldK s1.heap s'.heap ∧ s'.os = s1.os ∧ AllBare s'.gens) s1 := by
  have wrap : ∀ base : Heap, K.In base → base.Ns mainGlobals mg → ∀ (outer : List Env) (s : Shared) (H : Hp) (args : Args) (us : List Value) (zs : List V) (Q : VK) (E : XK), Env0 P w K mg base callerA outer s H → BindsTo s fd args ([x].zip us) → Vals zs us → sp zs H Q E →
      codeAny (model P w) callerA (.call (.ref fa) args) (CR CX outer P w H s Q E) s := fun base h1 h2 outer s H args us zs Q E => (F base h1 h2).run callerA outer s H args us zs Q E hr rfl
  have rv := vals_ints hi
  have lenV := hi.length
  have core : ∀ H : Hp, Only H → SqL K H a (ns.map V.int) → HOk P w H s1.heap → (∀ b, H b ≠ none → b = a) → (H a ≠ none → K.lookup a = none) →
      codeAny (model P w) callerA (.call (.ref fa) ⟨[.ref a], []⟩) (fun r s' => r = .ok (.ret (.bool true)) ∧ OldK s1.heap s'.heap ∧ s'.os = s1.os ∧ AllBare s'.gens) s1 := by
    intro H hO hS hok hA hK
    have kept : ∀ {b : Addr} {o : Obj}, s1.heap.get? b = some o → H b = none → (hidT s1.heap H).get? b = some o := fun e n => hidT_get e n
    have noA : ∀ {b : Addr} {o : Obj} {es : Array DictEntry} {ep : Nat}, s1.heap.get? b = some o → o.data = .dict es ep → H b = none := fun {b o es ep} e d => by
      cases q : H b with
      | none => rfl
      | some u =>
        have e' : b = a := hA b (by rw [q]; simp)
        subst e'
        rw [ha] at e
        cases e
        exact nomatch (show Data.seq vs.toArray _ = Data.dict es ep from d)
    have nsK : ∀ {b : Addr} {m : Str → Option Value}, s1.heap.Ns b m → (hidT s1.heap H).Ns b m := fun {b m} ⟨o, es, ep, e, d, r⟩ => ⟨o, es, ep, kept e (noA e d), d, r⟩
    have hKb : K.In (hidT s1.heap H) := fun b o e => kept (KX b o e) (by
      cases q : H b with
      | none => rfl
      | some u =>
        have e' : b = a := hA b (by rw [q]; simp)
        subst e'
        rw [hK (by rw [q]; simp)] at e
        cases e)
    have hM : Mod K mg (hidT s1.heap H) := ⟨hKb, nsK hns, ⟨mb, nsK hb, hbb⟩, let ⟨mc, h1, h2⟩ := hlim; ⟨mc, nsK h1, h2⟩⟩
    have e0 : Env0 P w K mg (hidT s1.heap H) callerA [] s1 H := ⟨rfl, hM, fun b o e => of_hidT e, Nat.le_of_eq (hidT_size _ _), trivial, fun b hb => absurd (show b ∈ ([] : List Addr) from hb) (by simp), hok, .of_eq hg⟩
    refine codeAny_mono (wrap _ hKb (nsK hns) [] s1 H ⟨[.ref a], []⟩ [.ref a] [.ref a] _ _ e0 (hbind s1 (.ref a)) (.cons rfl .nil) (hsp H hO hS)) fun r s' h => ?_
    cases r with
    | error e => exact (hCX H e s' h).elim
    | ok fl =>
      cases fl with
      | next => exact False.elim h
      | brk => exact False.elim h
      | cont => exact False.elim h
      | ret u =>
        obtain ⟨v, H', os, bare, un, hok', r', q⟩ := h
        have q' : v = .bl true := q
        subst q'
        obtain rfl : u = Value.bool true := r'
        refine ⟨rfl, OldK.of_keep fun b o e => ?_, os, bare⟩
        cases q : H b with
        | none => exact un.keep b o e q (by intro z; exact absurd (show b ∈ ([] : List Addr) from z) (by simp)) (by simp)
        | some u =>
          rcases hO b with z | ⟨ob, xs, z⟩
          · rw [q] at z
            cases z
          · have z2 := un.frzs b ob _ z
            obtain ⟨e1, _⟩ := hok b _ z
            obtain ⟨e2, _⟩ := hok' b _ z2
            rw [e] at e1
            cases e1
            exact e2
  cases hk : K.lookup a with
  | some o =>
    have e := KX a o hk
    rw [ha] at e
    cases e
    refine core (fun _ => none) (fun _ => .inl rfl) (.inr ⟨_, vs.toArray, _, hk, rfl, rfl, rfl, by rw [List.size_toArray, lenV]; exact hl, by simpa using rv⟩) (fun b u z => by have z' : (none : Option HO) = some u := z; cases z') (fun b z => absurd rfl z) fun z => absurd rfl z
  | none =>
    refine core (fun b => if b = a then some (.frz { cls := .type "list", data := .seq vs.toArray } (.lst (ns.map V.int))) else none) (fun b => ?_) (.inl (.inr ⟨{ cls := .type "list", data := .seq vs.toArray }, if_pos rfl⟩)) (fun b u z => ?_) (fun b z => ?_) fun _ => hk
    · by_cases hb : b = a
      · exact .inr ⟨_, _, if_pos hb⟩
      · exact .inl (if_neg hb)
    · by_cases hb : b = a
      · have z' := (if_pos hb).symm.trans z
        cases z'
        subst hb
        exact ⟨ha, by rw [List.length_map]; exact hl, vs, _, rv, ha⟩
      · have z' := (if_neg hb).symm.trans z
        cases z'
    · by_cases hb : b = a
      · exact hb
      · exact absurd (if_neg hb) z
/-- the goal that the head leaves, from the law's promise -/
theorem walkG {l : PySem.W.OpenLaw} {n k : Nat} {q : Program} {loose : List Str} {XP : (Str → Option Value) → Heap → Prop} {YP : World → Heap → Prop} {d : DefRec} {CX : World → CXT} {x : Str}
    (hn : l.most = some n) (hn2 : n ≤ sizeLine) (hdf : d.params.defaults = []) (hr : Room k callerA)
    (F : ∀ (w : World) (mg : Str → Option Value) (fa : Addr) (h : Heap), YP w h → h.Ns mainGlobals mg → mg d.name = some (.ref fa) →
      ∃ (K : PySem.W.Frag) (fd : FuncData) (sp : Sp), K.In h ∧ (∀ (s : Shared) (u : Value), BindsTo s fd ⟨[u], []⟩ [(x, u)]) ∧
        (∀ (H : Hp) (a : Addr) (ns : List Int), ns.length ≤ n → Only H → SqL K H a (ns.map V.int) → sp [.ref a] H (fun v _ => v = .bl true) fun _ _ _ => False) ∧
        ∀ base : Heap, K.In base → base.Ns mainGlobals mg → FnG l.prog w K mg base (CX w) k fa fd [x] sp)
    (hCX : ∀ (w : World) (H : Hp) (s : Shared) (e : Value) (s' : Shared), CX w [] H s (fun _ _ _ => False) e s' → False) :
    PySem.W.WalkO q loose XP YP l.row.toRowW d [] (fun f vs => PySem.call f vs) := by
  refine Att.attach_call hn hdf fun w s0 s1 mg mb fa o pm cd doc a vs ns G Y ho hd hcd hmg hobj hints hlen hg => ?_
  obtain ⟨K, fd, sp, KX, hb, hsp, hF⟩ := F w mg fa _ Y G.T.g hmg
  exact lawG KX G.T.g G.T.b G.T.builtins G.T.nolimit hg hobj hints (Nat.le_trans hlen hn2) hr hF hb (fun H hO hS => hsp H a ns hlen hO hS) fun H e s' => hCX w H s1 e s'
/-! ### repr of a list of data, empty dicts among them -/
inductive Dx (K : PySem.W.Frag) (H : Hp) : V → PyData → Prop where
  | base {v : V} {d : PyData} (h : Dp K H v d) (n : d.hasDict = false) : Dx K H v d
  | ed {a : Addr} (h : H a = some (.dK [])) : Dx K H (.ref a) (.dict [])
inductive DxAll (K : PySem.W.Frag) (H : Hp) : List V → List PyData → Prop where
  | nil : DxAll K H [] []
  | cons {v : V} {vs : List V} {d : PyData} {ds : List PyData} (h : Dx K H v d) (t : DxAll K H vs ds) : DxAll K H (v :: vs) (d :: ds)
section
variable {X : Cx} {pins : List (Addr × Obj)} {σ : L2.St} {H : Hp} {s : Shared}
theorem Dx.shows (I : Inv X pins σ H s) {v : V} {d : PyData} {u : Value} (h : Dx X.K H v d) (r : RelV v u) (hs : d.showable = true) (hz : d.shown.length ≤ sizeLine) :
    (∃ as, Reads s.heap u d as) ∧ ∃ bs, ReadAtMost s.heap d.depth bs ∧ ReprK X.prog X.w bs s.heap d.depth u d.shown := by
  cases h with
  | base h n =>
    obtain ⟨as, q⟩ := Dp.reads I d v u h r
    exact ⟨⟨as, q⟩, ReprK.of_reads q hs (fun z => by rw [n] at z; cases z) hz⟩
  | @ed a h =>
    cases (show u = Value.ref a from r)
    obtain ⟨_, hsys, vs, kv, o, es, ep, h1, h2, h3, h4⟩ := (show ObjOk X.prog X.w H s.heap a (.dK []) from I.hok a _ h)
    cases kv
    have e0 : es.toList = [] := by
      have z := h4.2.1
      generalize es.toList = l at z
      cases z
      rfl
    have rd : Reads s.heap (.ref a) (.dict []) ([a] ++ [] ++ []) := by
      refine Reads.dict (kvs := []) h1 h2.1 h3 ?_ ?_
      · rw [e0]
        exact ReadsAll.nil
      · rw [e0]
        exact ReadsAll.nil
    refine ⟨⟨_, rd⟩, [a], fun b hb => ?_, ?_⟩
    · rcases List.mem_singleton.mp hb with rfl
      exact ⟨_, _, rd, Nat.le_refl _⟩
    · have q := ReprK.dict (prog := X.prog) (w := X.w) (as := []) (d := 0) (ps := []) h1 h2.1 h3 hsys (by simp) (by rw [e0]; exact .nil)
      exact q
theorem DxAll.shows (I : Inv X pins σ H s) : ∀ {vs : List V} {ds : List PyData} {us : List Value}, DxAll X.K H vs ds → Vals vs us → PyData.showableAll ds = true → (∀ t ∈ PyData.shownAll ds, t.length ≤ sizeLine) →
    (∃ as, ReadsAll s.heap us ds as) ∧ ∃ bs, ReadAtMost s.heap (PyData.depthAll ds) bs ∧ ReprAllK X.prog X.w bs s.heap (PyData.depthAll ds) us (PyData.shownAll ds)
  | _, _, _, .nil, .nil, _, _ => ⟨⟨_, ReadsAll.nil⟩, [], ⟨fun _ z => (by cases z), ReprAllK.nil⟩⟩
  | _, _, _, .cons (d := d) (ds := ds) h t, .cons r q, hs, hz => by
    simp only [PyData.showableAll, Bool.and_eq_true] at hs
    simp only [PyData.shownAll] at hz ⊢
    obtain ⟨⟨a1, r1⟩, b1, m1, k1⟩ := h.shows I r hs.1 (hz _ (List.mem_cons_self ..))
    obtain ⟨⟨a2, r2⟩, b2, m2, k2⟩ := DxAll.shows I t q hs.2 fun z y => hz z (List.mem_cons_of_mem _ y)
    have l1 : PyData.depth d ≤ PyData.depthAll (d :: ds) := by
      simp only [PyData.depthAll]
      omega
    have l2 : PyData.depthAll ds ≤ PyData.depthAll (d :: ds) := by
      simp only [PyData.depthAll]
      omega
    refine ⟨⟨_, ReadsAll.cons r1 r2⟩, b1 ++ b2, (m1.mono l1).append (m2.mono l2), ?_⟩
    have z1 : ReprAllK X.prog X.w b1 s.heap (PyData.depth d) [_] [d.shown] := .cons k1 .nil
    have z2 := z1.more_le (as' := b1 ++ b2) (d' := PyData.depthAll (d :: ds)) (fun b hb => List.mem_append_left _ hb) l1
    have z3 := k2.more_le (as' := b1 ++ b2) (d' := PyData.depthAll (d :: ds)) (fun b hb => List.mem_append_right _ hb) l2
    cases z2 with
    | cons y1 y2 => exact .cons y1 z3
/-- repr(xs), xs a list of data -/
def rReprL (K : PySem.W.Frag) : List V → Hp → VK → Prop := fun xs H Q => ∃ (p : Addr) (vs : List V) (ds : List PyData), xs = [.ref p] ∧ SqL K H p vs ∧ DxAll K H vs ds ∧ PyData.showableAll ds = true ∧ (listText (PyData.shownAll ds)).length ≤ sizeLine ∧ PyData.depthAll ds ≤ 20 ∧ Q (.str (listText (PyData.shownAll ds))) H
theorem call_reprL (hgd : X.A.guards = some []) (hu : X.A.units + 64 < cLine) : CallR X (.builtin "repr") (rReprL X.K) := by
  intro pins s σ H xs us Q I r h
  obtain ⟨p, vs, ds, rfl, hl, hd, hs, hz, hdep, q⟩ := h
  obtain ⟨u, rfl, rx⟩ := vals1 r
  cases (show u = Value.ref p from rx)
  obtain ⟨its, rv, ⟨o, n, ho, hc, hsl, hda⟩, _⟩ := I.list hl
  obtain ⟨⟨as, ra⟩, bs, mb, hk⟩ := hd.shows I rv hs fun t ht => Nat.le_trans (listText_mem_le ht) hz
  have done : ∀ h' t tk, (∀ b o, s.heap.get? b = some o → h'.get? b = some o) → EP X pins σ Q (.str (listText (PyData.shownAll ds)) t) { s with heap := h', toks := tk } := fun h' t tk k =>
    ⟨.str _, H, I.un (t' := tk) (Un.kept k) (I.hok.kept k), ⟨t, rfl⟩, q⟩
  refine call_repr_slot (T := "list") (idr := "list.__repr__") (by omega) ⟨o, ho, hc⟩ F.slot_list_repr.toG ?_
  have rd : Reads s.heap (.ref p) (.list ds) (p :: as) := Reads.list ho hc hda (by simpa using ra)
  cases its with
  | nil =>
    cases ra
    refine call_list_repr_empty ⟨o, ho, hc⟩ ho hda ⟨_, _, rfl, ?_⟩
    have e : listText (PyData.shownAll []) = ("[]" : Str) := by
      simp only [PyData.shownAll]
      exact listText_nil
    have z := done s.heap s.toks (s.toks + 1) fun _ _ y => y
    rw [e] at z
    exact z
  | cons x l =>
    have hna : p ∉ bs := not_mem_of_deeper rd (by simp only [PyData.depth]; omega) mb
    exact call_list_reprK ho hc hda hna (by simpa using hk.length_eq) (fun i y e => hk.item i y (by simpa using e)) (g := []) hgd (fun b _ => Clear.nil b) (by show X.A.units + 1 + (PyData.depthAll ds + 1) < cLine; omega) (fun _ _ y => y)
      (fun h' t tk k => ⟨_, _, rfl, done h' t tk k⟩) hz
end
end Gd
set_option Elab.async false
set_option linter.all false
set_option maxRecDepth 100000
set_option maxHeartbeats 4000000
namespace Hz
open PySem PySem.Spec PyProof.Rows L2 PySem.Erx Erl He
/-! ### the head's facts of own error classes -/
def cellA (K : PySem.W.Frag) (f : Addr) : Addr := match K.lookup f with
  | some ⟨_, _, .func fd, _⟩ => (match fd.closure with | [(_, c)] => c | _ => 0)
  | _ => 0
def codeA (K : PySem.W.Frag) (f : Addr) : Addr := match K.lookup f with
  | some ⟨_, _, .func fd, _⟩ => (match fd.code with | .ref c => c | _ => 0)
  | _ => 0
def shapeB (K : PySem.W.Frag) (C : Addr) : Bool := match K.lookup C with
  | some ⟨.type "type", _, .cls cd, sl⟩ => (match cd.mro, sl.toList with
    | .ref C' :: bm, [_, _, _, _, some (.builtin n), _] => C' == C && n == "ValueError.__new__" && !cd.hasDel && cd.hasDict && PySem.HandSPX.refsVE bm
    | _, _ => false)
  | _ => false
theorem shapeB_ok {K : PySem.W.Frag} {C : Addr} (q : shapeB K C = true) : ∃ nm q N bs bm sn sub ab col dd k0 k1 k2 k3 k5, K.lookup C = some (excClassObj nm q C N bs bm true sn sub ab col dd k0 k1 k2 k3 k5 "ValueError.__new__") ∧ PySem.HandSPX.refsVE bm = true := by
  unfold shapeB at q
  split at q
  · rename_i dd cd sl ho
    split at q
    · rename_i C' bm k0 k1 k2 k3 n k5 hm hs
      simp only [Bool.and_eq_true, beq_iff_eq, Bool.not_eq_true'] at q
      obtain ⟨⟨⟨⟨rfl, rfl⟩, hdel⟩, hdct⟩, ht⟩ := q
      obtain ⟨nm, bs, mro, ns, qn, hd, sn, sub, ab, col, del⟩ := cd
      dsimp only at hm hdel hdct
      subst hm hdel hdct
      have hsl : sl = #[k0, k1, k2, k3, some (.builtin "ValueError.__new__"), k5] := by
        obtain ⟨l⟩ := sl
        dsimp only at hs
        rw [hs]
      subst hsl
      exact ⟨nm, qn, ns, bs, bm, sn, sub, ab, col, dd, k0, k1, k2, k3, k5, ho, ht⟩
    · cases q
  · cases q
def cellB (K : PySem.W.Frag) (c C : Addr) : Bool := match K.lookup c with
  | some ⟨_, _, .cell (some (.ref D)), _⟩ => D == C
  | _ => false
theorem cellB_ok {K : PySem.W.Frag} {c C : Addr} (h : cellB K c C = true) : ∃ cl cld csl, K.lookup c = some ⟨cl, cld, .cell (some (.ref C)), csl⟩ := by
  unfold cellB at h
  split at h
  · rename_i a b D d e
    rw [beq_iff_eq] at h
    subst h
    exact ⟨_, _, _, e⟩
  · cases h
def fileB (file : Str) (K : PySem.W.Frag) (a : Addr) : Bool := match K.lookup a with
  | some ⟨_, _, .fields vs, _⟩ => (match (vs[2]? : Option Value) with | some (.str z _) => file == z | _ => false)
  | _ => false
theorem fileB_ok {file : Str} {K : PySem.W.Frag} {a : Addr} (h : fileB file K a = true) : ∃ ccl cdd vs ccs z tf, K.lookup a = some ⟨ccl, cdd, .fields vs, ccs⟩ ∧ vs[2]? = some (.str z tf) ∧ (file == z) = true := by
  unfold fileB at h
  split at h
  · rename_i a1 a2 vs a3 e
    split at h
    · rename_i z t e2
      exact ⟨_, _, _, _, _, _, e, e2, h⟩
    · cases h
  · cases h
def isT (o : Option Bool) : Bool := match o with | some true => true | _ => false
theorem isT_ok {o : Option Bool} (h : isT o = true) : o = some true := by
  cases o with
  | none => cases h
  | some b =>
    cases b with
    | true => rfl
    | false => cases h
def isTy (o : Option Value) (n : String) : Bool := match o with | some (.type m) => m == n | _ => false
theorem isTy_ok {o : Option Value} {n : String} (h : isTy o n = true) : o = some (.type n) := by
  unfold isTy at h
  split at h
  · rw [beq_iff_eq] at h
    rw [h]
  · cases h
/-- what is asked of the class x for its errors to be made -/
def txtB (file : Str) (K : PySem.W.Frag) (x : Str) : Bool :=
  shapeB K (ga K x) && (eqO (PySem.W.findIn K (.ref (ga K x)) "__setattr__") (some (some (.builtin "object.__setattr__"))) && (eqO (PySem.W.findIn K (.ref (ga K x)) "__init__") (some (some (.ref (ma K (ga K x) "__init__")))) && (isTy (PySem.W.typeIn K (.ref (ma K (ga K x) "__init__"))) "function" &&
  (eqO (PySem.W.ks_superIn K (ga K x) (ga K x) "__init__") (some (some (.builtin "ValueError.__init__"))) && (isT (PySem.W.subIn K (.ref (ga K x)) (.type "ValueError")) && (isT (PySem.W.mroIn K (ga K x) (.ref (ga K x))) &&
  (cellB K (cellA K (ma K (ga K x) "__init__")) (ga K x) && (fileB file K (codeA K (ma K (ga K x) "__init__")) && eqO (PySem.W.nsIn K cStatics "thirdparty.any") (some none)))))))))
theorem txtB_ok {P : Program} {file : Str} {K : PySem.W.Frag} {x : Str} (h : txtB file K x = true) (hf : (P.main.file : Str) = file) (top : (P.main.scope.names.lookup ("super" : Str)).isSome = false) :
    ErrTxt P K (ga K x) (ma K (ga K x) "__init__") (cellA K (ma K (ga K x) "__init__")) (codeA K (ma K (ga K x) "__init__")) := by
  obtain ⟨h1, h⟩ := ba h
  obtain ⟨h2, h⟩ := ba h
  obtain ⟨h3, h⟩ := ba h
  obtain ⟨h4, h⟩ := ba h
  obtain ⟨h5, h⟩ := ba h
  obtain ⟨h6, h⟩ := ba h
  obtain ⟨h7, h⟩ := ba h
  obtain ⟨h8, h⟩ := ba h
  obtain ⟨h9, h10⟩ := ba h
  exact { cls := shapeB_ok h1, sa := eqO_ok h2, iC := eqO_ok h3, tI := isTy_ok h4, sup := eqO_ok h5, ve := isT_ok h6, own := isT_ok h7, cell := cellB_ok h8, code := by rw [hf]; exact fileB_ok h9, tpa := eqO_ok h10, top := top }
/-- what is asked for its errors to be read -/
def clsB (K : PySem.W.Frag) (C : Addr) : Bool :=
  PySem.W.keepIn K (.ref C) && (isT (PySem.W.subIn K (.ref C) (.type "BaseException")) && (isTy (PySem.W.typeIn K (.ref C)) "type" && (eqO (PySem.W.findIn K (.ref C) "__getattribute__") (some (some (.builtin "BaseException.__getattribute__"))) &&
  (eqO (PySem.W.findIn K (.ref C) "__getattr__") (some none) && (PySem.W.hasDictIn K C && ((PySem.W.clsIn K C).isSome && (eqO (PySem.W.findIn K (.ref C) "__class__") (some (some (.builtin "object.__class__"))) &&
  (eqO (PySem.W.specialIn K (.builtin "object.__class__") "__get__") (some (some (.builtin "getset_descriptor.__get__"))) && (isT (PySem.W.takesIn K (.builtin "object.__class__")) && isT (PySem.W.mroIn K C (.type "object"))))))))))) 
theorem clsB_ok {K : PySem.W.Frag} {C : Addr} (h : clsB K C = true) : ECls K C := by
  obtain ⟨h1, h⟩ := ba h
  obtain ⟨h2, h⟩ := ba h
  obtain ⟨h3, h⟩ := ba h
  obtain ⟨h4, h⟩ := ba h
  obtain ⟨h5, h⟩ := ba h
  obtain ⟨h6, h⟩ := ba h
  obtain ⟨h7, h⟩ := ba h
  obtain ⟨h8, h⟩ := ba h
  obtain ⟨h9, h⟩ := ba h
  obtain ⟨h10, h11⟩ := ba h
  exact ⟨h1, isT_ok h2, isTy_ok h3, eqO_ok h4, eqO_ok h5, h6, h7, eqO_ok h8, eqO_ok h9, isT_ok h10, isT_ok h11⟩
/-! ### the own __init__ as it stands in the text -/
abbrev InW : Type := Option (Str × Str × Arguments × FuncBody × Scope × Addr × List Str × Addr × Value)
def inW (K : PySem.W.Frag) (f : Addr) : InW := match K.lookup f with
  | some ⟨_, _, .func fd, _⟩ => some (fd.name, fd.qualname, fd.params, fd.body, fd.scope, fd.globals, fd.closure.map (·.1), fd.builtins, fd.defaults)
  | _ => none
def initB (K : PySem.W.Frag) (f : Addr) : Bool := match K.lookup f with
  | some ⟨_, _, .func fd, _⟩ => PySem.W.codeIn K fd.code fd.qualname
  | _ => false
structure InitD where
  cls : Str
  qual : Str
  params : Arguments
  body : List Stmt
  scope : Scope
def InitD.val (i : InitD) : InW := some ("__init__", i.qual, i.params, .stmts i.body, i.scope, mainGlobals, ["__class__"], builtinsNs, .none)
def InitD.at_ (K : PySem.W.Frag) (i : InitD) : Addr := ma K (ga K i.cls) "__init__"
theorem init_lk {K : PySem.W.Frag} {i : InitD} (e : inW K (i.at_ K) = i.val) (c : initB K (i.at_ K) = true) :
    ∃ oc od osl kV doc pm an ct, K.lookup (i.at_ K) = some ⟨oc, od, .func (initFn i.qual i.params i.body i.scope kV doc pm an (codeA K (i.at_ K)) ct (cellA K (i.at_ K))), osl⟩ ∧ PySem.W.codeIn K (.ref (codeA K (i.at_ K))) i.qual = true := by
  unfold inW at e
  unfold initB at c
  unfold codeA cellA
  cases h : K.lookup (i.at_ K) with
  | none =>
    rw [h] at e
    cases e
  | some o =>
    obtain ⟨oc, od, dt, osl⟩ := o
    rw [h] at e c
    cases dt with
    | func fd =>
      obtain ⟨n1, n2, pa, bo, sc, gl, clo, df, kd, dc, pm, an, cd, ct, bu⟩ := fd
      dsimp only at e c ⊢
      have e2 := Option.some.inj e
      simp only [Prod.mk.injEq] at e2
      obtain ⟨e1, e2, e3, e4, e5, e6, e7, e8, e9⟩ := e2
      subst e1 e2 e3 e4 e5 e6 e8 e9
      obtain ⟨c0, rfl⟩ := codeIn_ref c
      match clo, e7 with
      | [(a, b)], e7 =>
        have ea : a = "__class__" := by simpa using e7
        subst ea
        exact ⟨oc, od, osl, kd, dc, pm, an, ct, rfl, c⟩
    | _ => cases e
/-! ### the Hook -/
def asZ (g : Addr → Option Obj) : Nat → List Addr
  | 0 => [mainGlobals, cStatics]
  | n + 1 => growD g (asZ g n)
abbrev AlZ : Type := AlD × List InW × Bool
def obsK (fa : List Fa) (fn : List DefD) (is : List InitD) (ex : PySem.W.Frag → Bool) (K : PySem.W.Frag) : AlZ := (obsD fa fn K, is.map (fun i => inW K (i.at_ K)), (is.all fun i => initB K (i.at_ K)) && ex K)
def valZ (fn : List DefD) (is : List InitD) : AlZ := (valD fn, is.map InitD.val, true)
def SaysZ (fa : List Fa) (fn : List DefD) (is : List InitD) (ex : PySem.W.Frag → Bool) (K : PySem.W.Frag) : Prop := obsK fa fn is ex K = valZ fn is
def obsZ (n : Nat) (fa : List Fa) (fn : List DefD) (is : List InitD) (ex : PySem.W.Frag → Bool) (g : Addr → Option Obj) : AlZ := obsK fa fn is ex (frG g (asZ g n))
def hookZ (n : Nat) (fa : List Fa) (fn : List DefD) (is : List InitD) (ex : PySem.W.Frag → Bool) : PySem.W.Hook where
  α := AlZ
  obs := fun s => obsZ n fa fn is ex s.heap.get?
  val := fun _ => valZ fn is
  says := fun _ h => ∃ K : PySem.W.Frag, K.In h ∧ SaysZ fa fn is ex K
  of := fun _ _ e => ⟨_, frG_in, e⟩
  keeps := fun _ _ _ ⟨K, hK, c⟩ k => ⟨K, PySem.W.Frag.In.keeps hK k, c⟩
theorem obsZ_eq {n : Nat} {fa : List Fa} {fn : List DefD} {is : List InitD} {ex : PySem.W.Frag → Bool} {g : Addr → Option Obj} {s : Shared} (h : ∀ a, g a = s.heap.get? a) : obsZ n fa fn is ex g = (hookZ n fa fn is ex).obs s := by
  have e : g = s.heap.get? := funext h
  rw [e] <;> rfl
section
variable {fa : List Fa} {fn : List DefD} {is : List InitD} {ex : PySem.W.Frag → Bool} {K : PySem.W.Frag}
theorem SaysZ.d (c : SaysZ fa fn is ex K) : SaysD fa fn K := congrArg (fun z : AlZ => z.1) c
theorem SaysZ.more (c : SaysZ fa fn is ex K) : ex K = true := (ba (show ((is.all fun i => initB K (i.at_ K)) && ex K) = true from congrArg (fun z : AlZ => z.2.2) c)).2
theorem SaysZ.init (c : SaysZ fa fn is ex K) (j : Nat) {i : InitD} (h : is[j]? = some i := by rfl) :
    ∃ oc od osl kV doc pm an ct, K.lookup (i.at_ K) = some ⟨oc, od, .func (initFn i.qual i.params i.body i.scope kV doc pm an (codeA K (i.at_ K)) ct (cellA K (i.at_ K))), osl⟩ ∧ PySem.W.codeIn K (.ref (codeA K (i.at_ K))) i.qual = true := by
  have c2 := (ba (show ((is.all fun i => initB K (i.at_ K)) && ex K) = true from congrArg (fun z : AlZ => z.2.2) c)).1
  have e : is.map (fun i => inW K (i.at_ K)) = is.map InitD.val := congrArg (fun z : AlZ => z.2.1) c
  have e2 : (is.map fun i => inW K (i.at_ K))[j]? = (is.map InitD.val)[j]? := by rw [e]
  rw [List.getElem?_map, List.getElem?_map, h] at e2
  exact init_lk (Option.some.inj e2) (List.all_eq_true.mp c2 i (List.mem_of_getElem? h))
end
end Hz
set_option Elab.async false
set_option linter.all false
set_option maxRecDepth 100000
set_option maxHeartbeats 4000000
namespace K01
open PySem PySem.Spec PyProof.Rows L2 Gd Erl
theorem ifT {c : Bool} {A B : Prop} (hc : c = true) (h : A) : if c = true then A else B := by
  rw [if_pos hc]
  exact h
theorem ifF {c : Bool} {A B : Prop} (hc : c = false) (h : B) : if c = true then A else B := by
  rw [hc, if_neg Bool.false_ne_true]
  exact h
def top (i : Nat) : Stmt := PySem.Challenge.pw_flagfree_k01_errors_and_their_fields.main.body.getD i (.Pass ⟨0, 0, 0, 0⟩)
abbrev FnP (K : PySem.W.Frag) (x : Str) (st : Stmt) (f : Addr) (fd : FuncData) : Prop := FunD K x x (defArgs st) (defBody st) (defScope st) [] [] f fd
/-- the built-in names that the law's own helpers ask -/
structure Blt (mg : Str → Option Value) : Prop where
  int : mg "int" = none
  len : mg "len" = none
  abs : mg "abs" = none
  list : mg "list" = none
  range : mg "range" = none
  repr : mg "repr" = none
  isi : mg "isinstance" = none
  sup : mg "super" = none
  ve : mg "ValueError" = none
  lo : mg "LookupError" = none
  te : mg "TypeError" = none
  ar : mg "ArithmeticError" = none
/-- a pen: the cells at q, the next place, what is left of a great cell -/
structure Pen (H : Hp) (p q : Addr) (cs : List Int) (n r : Int) : Prop where
  at_ : H p = some (.lst [.ref q, .int n, .int r])
  cells : H q = some (.lst (cs.map V.int))
  lo : 0 ≤ n
  hi : n ≤ 100000
theorem Pen.ne {H : Hp} {p q : Addr} {cs : List Int} {n r : Int} (P : Pen H p q cs n r) : q ≠ p := fun e => by
  have h := P.cells
  rw [e, P.at_] at h
  cases cs with
  | nil => cases h
  | cons c cs => cases h
theorem Pen.put {H : Hp} {p q : Addr} {cs : List Int} {n r : Int} (P : Pen H p q cs n r) {m s : Int} (h0 : 0 ≤ m) (h1 : m ≤ 100000) : Pen (upd H p (.lst [.ref q, .int m, .int s])) p q cs m s :=
  ⟨upd_same, by rw [upd_ne P.ne]; exact P.cells, h0, h1⟩
theorem dp_ints {K : PySem.W.Frag} {H : Hp} : ∀ cs : List Int, DpAll K H (cs.map V.int) (cs.map PyData.int)
  | [] => .nil
  | c :: cs => .cons (.int c) (dp_ints cs)
theorem lay_ints (cs : List Int) : PyData.canLayAll0 (cs.map PyData.int) = true := by
  induction cs with
  | nil => rfl
  | cons c cs ih => simpa [PyData.canLayAll0, PyData.canLay0] using ih
theorem deep_ints (cs : List Int) : PyData.depthAll (cs.map PyData.int) = 0 := by
  induction cs with
  | nil => rfl
  | cons c cs ih => simp [PyData.depthAll, PyData.depth, ih]
theorem shaped_ints (cs : List Int) : SeqAt.shaped (.list (cs.map PyData.int)) = true := by
  simp [SeqAt.shaped, PyData.canLay0, PyData.depth, lay_ints, deep_ints]
theorem at_ints {cs : List Int} {i : Int} (h0 : 0 ≤ i) (h1 : i < cs.length) : ∃ c, atI (cs.map V.int) i = some (V.int c) := by
  have h2 : i.toNat < cs.length := by omega
  refine ⟨cs[i.toNat], ?_⟩
  unfold atI ixN
  rw [if_pos h0, if_pos (by rw [List.length_map]; exact h1)]
  simp [h2]
/-- behind an if that may store an int in slot i -/
theorem join {b : Bool} {ta : TS} {D : L2.Ends} {σ : L2.St} {H : Hp} (i : Nat) (rest : ∀ z : Int, D.nx (σ.set i (some (.int z))) H) (h1 : b = true → (∀ z : Int, D.nx (σ.set i (some (.int z))) H) → ta D σ H)
    (h2 : b = false → (∀ z : Int, D.nx (σ.set i (some (.int z))) H) → D.nx σ H) : if b = true then ta D σ H else tNext D σ H := by
  cases b with
  | true => exact ifT rfl (h1 rfl rest)
  | false => exact ifF rfl (h2 rfl rest)
theorem two64 : (2 : Int) ^ 64 = 18446744073709551616 := by decide
theorem cmul_of {i j : Int} (h0 : -1000000000000 ≤ i) (h1 : i ≤ 1000000000000) : CMul i j := .inl ⟨by rw [two64]; omega, by rw [two64]; omega⟩
theorem cpow_of {i j : Int} (h0 : 0 ≤ i) (h1 : i < 18446744073709551616) (h2 : 0 ≤ j) (h3 : j ≤ 1000000) : CPow i j := ⟨h2, h3, by
  have e : (2 : Nat) ^ 64 = 18446744073709551616 := by decide
  rw [e]
  omega⟩
theorem mixed {m n : Int} (h0 : 0 ≤ m) (h1 : m < 2147483648) (h2 : 0 ≤ n) (h3 : n ≤ 100000) : 0 ≤ m * (2 * n + 333) + 45991 * n * n + 912 ∧ m * (2 * n + 333) + 45991 * n * n + 912 < 18446744073709551616 := by
  have a : m * (2 * n + 333) ≤ 2147483648 * 200333 := Int.mul_le_mul (by omega) (by omega) (by omega) (by decide)
  have b : 45991 * n * n ≤ 4599100000 * 100000 := Int.mul_le_mul (by omega) h3 h2 (by decide)
  have a0 : 0 ≤ m * (2 * n + 333) := Int.mul_nonneg h0 (by omega)
  have b0 : 0 ≤ 45991 * n * n := Int.mul_nonneg (by omega) h2
  omega
/-! ### the draw -/
abbrev sDraw : Stmt := top 31
theorem scD : FnScope ["_law_pen_here", "_law_many", "_law_digit", "_law_spot", "_law_cell", "_law_great", "_law_mixed"] ["_law_pen_here", "_law_many"] (defScope sDraw) := ⟨rfl, rfl, rfl, by decide +kernel, rfl, by decide +kernel, by decide +kernel⟩
/-- a number below many; the pen goes on by one place at most -/
def spDraw : Sp := fun vs H Q _ => ∃ (p q : Addr) (cs : List Int) (n r many : Int), vs = [.ref p, .int many] ∧ 0 < many ∧ many ≤ 1000 ∧ n < 100000 ∧ Pen H p q cs n r ∧
  ∀ d n' r' H', 0 ≤ d → d < many → n' ≤ n + 1 → (∀ b o, b ≠ p → H b = some o → H' b = some o) → Pen H' p q cs n' r' → Q (.int d) H'
section
variable {P : Program} {w : World} {K : PySem.W.Frag} {mg : Str → Option Value} {base : Heap} {f : Addr} {fd : FuncData}
theorem ok_draw (F : FnP K "_law_draw" sDraw f fd) (T : Blt mg) : FnOk P w K mg base CX0 1 f fd ["_law_pen_here", "_law_many"] spDraw := by
  refine F.ok scD (fun vs H Q E h => ?_) (fun cdv A outer s H vs Q E hr h => ?_)
  · obtain ⟨p, q, cs, n, r, many, rfl, _⟩ := h
    rfl
  · obtain ⟨p, q, cs, n, r, many, rfl, h0, h1, hn, PN, k⟩ := h
    have hp := PN.at_
    refine ⟨_, PSs.nox
      (pss_cons (ps_if (pt_cmpR op_gt (pe_ix ix_list (pv 0) pe_int (fun _ _ => rfl)) pe_int (nomark _))
            (pss_cons (ps_set (i := 2) scD.nd rfl (Or.inl rfl) (pe_op op_mod (pe_callTy call_int1 (by rfl) T.int boot_int (pa_cons (pe_ix ix_list (pv 0) pe_int (fun _ _ => rfl)) pa_nil)) (pv 1)))
            (pss_cons (ps_asg (pe_op op_fdivW (pe_callTy call_int1 (by rfl) T.int boot_int (pa_cons (pe_ix ix_list (pv 0) pe_int (fun _ _ => rfl)) pa_nil)) (pv 1)) (pg_sub (pv 0) pe_int set_list))
            (pss_one (ps_ret (pv 2))))) pss_nil)
            (pss_cons (ps_set (i := 3) scD.nd rfl (Or.inl rfl) (pe_ix ix_list (pv 0) pe_int (fun _ _ => rfl)))
            (pss_cons (ps_asg (pe_op op_add (pv 3) pe_int) (pg_sub (pv 0) pe_int set_list))
            (pss_cons (ps_set (i := 4) scD.nd rfl (Or.inl rfl) (pe_op op_add (pe_op op_mul pe_int (pv 3)) pe_int))
            (pss_cons (ps_if (pt_cmpR (op_neD hr.units) (pe_ix ix_list (pv 0) pe_int (fun _ _ => rfl)) (pe_lst pa_nil) (nomark _)) (pss_one (ps_set (i := 4) scD.nd rfl (Or.inl rfl) (pe_ix ix_list (pe_ix ix_list (pv 0) pe_int (fun _ _ => rfl)) (pe_op op_mod (pe_callTy call_int1 (by rfl) T.int boot_int (pa_cons (pv 3) pa_nil)) (pe_callB call_len_seq (by rfl) T.len PySem.boot_len (pa_cons (pe_ix ix_list (pv 0) pe_int (fun _ _ => rfl)) pa_nil))) (fun _ _ => rfl)))) pss_nil)
            (pss_cons (ps_if (PW.pt (pw_and (pt_cmpR op_lt (pv 3) (pe_callB call_len_seq (by rfl) T.len PySem.boot_len (pa_cons (pe_ix ix_list (pv 0) pe_int (fun _ _ => rfl)) pa_nil)) (nomark _)) (pw_and1 (pt_cmpR op_ge (pe_callB call_abs (by rfl) T.abs (by decide +kernel) (pa_cons (pv 4) pa_nil)) (pe_op op_pow pe_int pe_int) (nomark _)))))
            (pss_cons (ps_set (i := 5) scD.nd rfl (Or.inl rfl) (pe_op op_add (pe_op op_mul pe_int (pe_op op_sub (pe_callB call_abs (by rfl) T.abs (by decide +kernel) (pa_cons (pv 4) pa_nil)) (pe_op op_pow pe_int pe_int))) (pe_callTy call_int1 (by rfl) T.int boot_int (pa_cons (pe_cmpR op_lt (pv 4) pe_int (nomark _)) pa_nil))))
            (pss_cons (ps_asg (pe_op op_fdivW (pe_callTy call_int1 (by rfl) T.int boot_int (pa_cons (pv 5) pa_nil)) (pv 1)) (pg_sub (pv 0) pe_int set_list))
            (pss_one (ps_ret (pe_op op_mod (pe_callTy call_int1 (by rfl) T.int boot_int (pa_cons (pv 5) pa_nil)) (pv 1)))))) pss_nil)
            (pss_cons (ps_set (i := 6) scD.nd rfl (Or.inl rfl) (pe_op op_mod (pe_callTy call_int1 (by rfl) T.int boot_int (pa_cons (pe_op op_pow (pe_op op_add (pe_op op_add (pe_op op_mod (pe_callTy call_int1 (by rfl) T.int boot_int (pa_cons (pv 4) pa_nil)) pe_int) (pe_op op_mul pe_int (pv 3))) pe_int) pe_int) pa_nil)) pe_int))
            (pss_cons (ps_set (i := 6) scD.nd rfl (Or.inl rfl) (pe_op op_mod (pe_callTy call_int1 (by rfl) T.int boot_int (pa_cons (pe_op op_pow (pe_op op_add (pe_op op_add (pe_op op_mul (pv 6) (pe_op op_add (pe_op op_mul pe_int (pv 3)) pe_int)) (pe_op op_mul (pe_op op_mul pe_int (pv 3)) (pv 3))) pe_int) pe_int) pa_nil)) pe_int))
            (pss_one (ps_ret (pe_op op_mod (pe_callTy call_int1 (by rfl) T.int boot_int (pa_cons (pe_op op_fdivW (pv 6) pe_int) pa_nil)) (pv 1))))))))))))
    , ?_⟩
    have hm : CDivW r many := wide_div (b := 10) h0 (by omega) (by decide) (by decide)
    refine ⟨_, rfl, p, _, 2, _, rfl, rfl, SqL.of hp, rfl, _, _, rfl, rfl, _, rfl, ?_⟩
    by_cases c : 0 < r
    · refine ifT (decide_eq_true c) ?_
      refine ⟨_, rfl, p, _, 2, _, rfl, rfl, SqL.of hp, rfl, .inl ⟨_, rfl, _, rfl, _, _, rfl, rfl, h0, ?_⟩⟩
      refine ⟨_, rfl, p, _, 2, _, rfl, rfl, SqL.of hp, rfl, .inl ⟨_, rfl, _, rfl, _, _, rfl, rfl, hm, ?_⟩⟩
      refine ⟨_, rfl, p, _, 2, 2, rfl, rfl, hp, rfl, _, rfl, ?_⟩
      exact k _ n (r / many) _ (Int.emod_nonneg _ (by omega)) (Int.emod_lt_of_pos _ h0) (by omega) (fun b o hb z => by rw [upd_ne hb]; exact z) (PN.put PN.lo PN.hi)
    · refine ifF (decide_eq_false c) ?_
      refine ⟨_, rfl, p, _, 1, _, rfl, rfl, SqL.of hp, rfl, ?_⟩
      refine ⟨_, rfl, _, _, rfl, rfl, _, rfl, p, _, 1, 1, rfl, rfl, hp, rfl, ?_⟩
      have PN1 : Pen (upd H p (.lst [.ref q, .int (n + 1), .int r])) p q cs (n + 1) r := PN.put (by have := PN.lo; omega) (by omega)
      refine ⟨_, rfl, _, _, rfl, rfl, .inl ⟨by decide, by decide⟩, _, _, rfl, rfl, ?_⟩
      refine ⟨_, rfl, p, _, 0, _, rfl, rfl, SqL.of PN1.at_, rfl, (by show 0 ≤ sizeLine; exact Nat.zero_le _), fun l hl => ?_⟩
      have PN2 : Pen (upd (upd H p (.lst [.ref q, .int (n + 1), .int r])) l (.lst [])) p q cs (n + 1) r :=
        ⟨by rw [upd_ne (ne_of_none PN1.at_ hl)]; exact PN1.at_, by rw [upd_ne (ne_of_none PN1.cells hl)]; exact PN1.cells, PN1.lo, PN1.hi⟩
      have keep : ∀ b o, b ≠ p → H b = some o → (upd (upd H p (.lst [.ref q, .int (n + 1), .int r])) l (.lst [])) b = some o := fun b o hb z => by
        have z1 : (upd H p (.lst [.ref q, .int (n + 1), .int r])) b = some o := by
          rw [upd_ne hb]
          exact z
        rw [upd_ne (ne_of_none z1 hl)]
        exact z1
      refine ⟨.list (cs.map PyData.int), .list [], .lst (SqL.of PN2.cells) (dp_ints cs), .lst (SqL.of upd_same) .nil, shaped_ints cs, rfl, _, rfl, ?_⟩
      have n0 := PN.lo
      refine join 4 (fun z => ?_) (fun hb rest => ?_) (fun hb rest => rest _)
      · refine ⟨_, rfl, _, rfl, p, _, 0, _, rfl, rfl, SqL.of PN2.at_, rfl, q, _, rfl, .inl (SqL.of PN2.cells), _, _, rfl, rfl, _, rfl, ?_⟩
        have pow1 : ∀ z : Int, CPow (z % 2147483629 + 71295 * n + 3325) 5 := fun z => by
          have a0 := Int.emod_nonneg z (show (2147483629 : Int) ≠ 0 by decide)
          have a1 := Int.emod_lt_of_pos z (show (0 : Int) < 2147483629 by decide)
          exact cpow_of (by omega) (by omega) (by decide) (by decide)
        have mod1 : ∀ z : Int, 0 ≤ z % 2147483587 ∧ z % 2147483587 < 2147483587 := fun z => ⟨Int.emod_nonneg z (by decide), Int.emod_lt_of_pos z (by decide)⟩
        have p18 : CPow 10 18 := cpow_of (by decide) (by decide) (by decide) (by decide)
        by_cases c1 : n < (((cs.map V.int).length : Nat) : Int)
        · refine ifT (decide_eq_true c1) ?_
          refine ⟨_, rfl, _, rfl, _, _, rfl, rfl, p18, _, _, rfl, rfl, _, rfl, ?_⟩
          by_cases c2 : (10 : Int) ^ (18 : Int).toNat ≤ (if z < 0 then -z else z)
          · refine ifT (decide_eq_true c2) ?_
            refine ⟨_, rfl, _, rfl, _, _, rfl, rfl, p18, _, _, rfl, rfl, _, _, rfl, rfl, cmul_of (by decide) (by decide), _, rfl, _, _, rfl, rfl, .inr ⟨_, rfl, _, _, rfl, rfl, ?_⟩⟩
            refine ⟨_, rfl, .inl ⟨_, rfl, _, rfl, _, _, rfl, rfl, wide_div (b := 10) h0 (by omega) (by decide) (by decide), ?_⟩⟩
            refine ⟨_, rfl, p, _, 2, 2, rfl, rfl, PN2.at_, rfl, ?_⟩
            refine ⟨_, rfl, .inl ⟨_, rfl, _, rfl, _, _, rfl, rfl, h0, ?_⟩⟩
            refine k _ (n + 1) _ _ (Int.emod_nonneg _ (by omega)) (Int.emod_lt_of_pos _ h0) (by omega) (fun b o hb y => ?_) (PN2.put PN2.lo PN2.hi)
            rw [upd_ne hb]
            exact keep b o hb y
          · refine ifF (decide_eq_false c2) ?_
            refine ⟨_, rfl, .inl ⟨_, rfl, _, _, rfl, rfl, (show (0 : Int) < 2147483629 by decide), _, rfl, _, _, rfl, rfl, cmul_of (by decide) (by decide), _, _, rfl, rfl, _, _, rfl, rfl, _, _, rfl, rfl, pow1 z, .inl ⟨_, rfl, _, _, rfl, rfl, (show (0 : Int) < 2147483587 by decide), ?_⟩⟩⟩
            obtain ⟨m0, m1⟩ := mod1 ((z % 2147483629 + 71295 * n + 3325) ^ (5 : Int).toNat)
            refine ⟨_, rfl, _, rfl, _, _, rfl, rfl, cmul_of (by decide) (by decide), _, _, rfl, rfl, _, _, rfl, rfl, cmul_of (by omega) (by omega), _, rfl, _, _, rfl, rfl, cmul_of (by decide) (by decide), _, rfl, _, _, rfl, rfl, cmul_of (by omega) (by omega), _, _, rfl, rfl, _, _, rfl, rfl, _, _, rfl, rfl, ?_, .inl ⟨_, rfl, _, _, rfl, rfl, (show (0 : Int) < 2147483563 by decide), ?_⟩⟩
            · obtain ⟨x0, x1⟩ := mixed m0 (by omega) n0 (by omega)
              exact cpow_of x0 x1 (by decide) (by decide)
            · refine ⟨_, rfl, _, _, rfl, rfl, wide_div (b := 10) (by decide) (by decide) (by decide) (by decide), .inl ⟨_, rfl, _, rfl, _, _, rfl, rfl, h0, ?_⟩⟩
              exact k _ (n + 1) r _ (Int.emod_nonneg _ (by omega)) (Int.emod_lt_of_pos _ h0) (by omega) keep PN2
        · refine ifF (decide_eq_false c1) ?_
          refine ifF rfl ?_
          refine ⟨_, rfl, .inl ⟨_, rfl, _, _, rfl, rfl, (show (0 : Int) < 2147483629 by decide), _, rfl, _, _, rfl, rfl, cmul_of (by decide) (by decide), _, _, rfl, rfl, _, _, rfl, rfl, _, _, rfl, rfl, pow1 z, .inl ⟨_, rfl, _, _, rfl, rfl, (show (0 : Int) < 2147483587 by decide), ?_⟩⟩⟩
          obtain ⟨m0, m1⟩ := mod1 ((z % 2147483629 + 71295 * n + 3325) ^ (5 : Int).toNat)
          refine ⟨_, rfl, _, rfl, _, _, rfl, rfl, cmul_of (by decide) (by decide), _, _, rfl, rfl, _, _, rfl, rfl, cmul_of (by omega) (by omega), _, rfl, _, _, rfl, rfl, cmul_of (by decide) (by decide), _, rfl, _, _, rfl, rfl, cmul_of (by omega) (by omega), _, _, rfl, rfl, _, _, rfl, rfl, _, _, rfl, rfl, ?_, .inl ⟨_, rfl, _, _, rfl, rfl, (show (0 : Int) < 2147483563 by decide), ?_⟩⟩
          · obtain ⟨x0, x1⟩ := mixed m0 (by omega) n0 (by omega)
            exact cpow_of x0 x1 (by decide) (by decide)
          · refine ⟨_, rfl, _, _, rfl, rfl, wide_div (b := 10) (by decide) (by decide) (by decide) (by decide), .inl ⟨_, rfl, _, rfl, _, _, rfl, rfl, h0, ?_⟩⟩
            exact k _ (n + 1) r _ (Int.emod_nonneg _ (by omega)) (Int.emod_lt_of_pos _ h0) (by omega) keep PN2
      · cases cs with
        | nil => cases hb
        | cons c0 cs =>
          have hl0 : (0 : Int) < (((c0 :: cs).map V.int).length : Int) := by
            rw [List.length_map, List.length_cons]
            omega
          obtain ⟨c1, hc1⟩ := at_ints (cs := c0 :: cs) (i := n % (((c0 :: cs).map V.int).length : Int)) (Int.emod_nonneg _ (by omega)) (by have := Int.emod_lt_of_pos n hl0; rw [List.length_map] at this ⊢; exact this)
          exact ⟨_, rfl, p, _, 0, _, rfl, rfl, SqL.of PN2.at_, rfl, _, rfl, .inl ⟨_, rfl, _, rfl, p, _, 0, _, rfl, rfl, SqL.of PN2.at_, rfl, q, _, rfl, .inl (SqL.of PN2.cells), _, _, rfl, rfl, hl0, q, _, _, _, rfl, rfl, SqL.of PN2.cells, hc1, rest c1⟩⟩
end
end K01
set_option Elab.async false
set_option linter.all false
set_option maxRecDepth 100000
set_option maxHeartbeats 4000000
namespace K01
open PySem PySem.Spec PyProof.Rows L2 Gd Erl
theorem same_upd {H : Hp} {a : Addr} {o : HO} (h : H a = none) : Same H (upd H a o) := fun b u z => by
  rw [upd_ne (ne_of_none z h)]
  exact z
/-- all but what stands at p is kept -/
def KeepB (p : Addr) (H H' : Hp) : Prop := ∀ b o, b ≠ p → H b = some o → H' b = some o
theorem KeepB.trans {p : Addr} {H H1 H2 : Hp} (a : KeepB p H H1) (b : KeepB p H1 H2) : KeepB p H H2 := fun c o hc z => b c o hc (a c o hc z)
theorem KeepB.of {p : Addr} {H H1 : Hp} (s : Same H H1) : KeepB p H H1 := fun c o _ z => s c o z
theorem Pen.same {H H' : Hp} {p q : Addr} {cs : List Int} {n r : Int} (P : Pen H p q cs n r) (s : Same H H') : Pen H' p q cs n r := ⟨s _ _ P.at_, s _ _ P.cells, P.lo, P.hi⟩
/-! ### a pen made -/
abbrev sPen : Stmt := top 30
theorem scP : FnScope ["_law_script"] ["_law_script"] (defScope sPen) := ⟨rfl, rfl, rfl, by decide +kernel, rfl, by decide +kernel, by decide +kernel⟩
def spPen (K : PySem.W.Frag) : Sp := fun vs H Q _ => ∃ (a : Addr) (ns : List Int), vs = [.ref a] ∧ SqL K H a (ns.map V.int) ∧ ∀ p q cs H', Pen H' p q cs 0 0 → Q (.ref p) H'
theorem cut_ints (ns : List Int) (lo hi : Option Int) : ∃ cs : List Int, cutV (ns.map V.int) lo hi = cs.map V.int := by
  unfold cutV
  exact ⟨_, by rw [← List.map_drop, ← List.map_take]⟩
section
variable {P : Program} {w : World} {K : PySem.W.Frag} {mg : Str → Option Value} {base : Heap} {f : Addr} {fd : FuncData}
theorem ok_pen (F : FnP K "_law_pen" sPen f fd) (T : Blt mg) : FnOk P w K mg base CX0 1 f fd ["_law_script"] (spPen K) := by
  refine F.ok scP (fun vs H Q E h => ?_) (fun cdv A outer s H vs Q E hr h => ?_)
  · obtain ⟨a, ns, rfl, _⟩ := h
    rfl
  · obtain ⟨a, ns, rfl, hS, k⟩ := h
    refine ⟨_, PSs.nox (pss_one (ps_ret (pe_lst (pa_cons (pe_callTy call_list_of (by rfl) T.list boot_list (pa_cons (pe_slice sl_list (pv 0) po_none (po_some pe_int)) pa_nil)) (pa_cons pe_int (pa_cons pe_int pa_nil)))))), ?_⟩
    obtain ⟨cs, hcs⟩ := cut_ints ns none (some 60)
    refine ⟨.ref a, rfl, 60, rfl, a, ns.map V.int, rfl, hS, fun c nc => ?_⟩
    rw [hcs]
    refine ⟨c, _, rfl, .inl (SqL.of upd_same), fun q nq => ?_⟩
    refine ⟨(by show 3 ≤ sizeLine; rw [sizeLine_eq]; decide), fun p np => ?_⟩
    refine k p q cs _ ⟨upd_same, ?_, by decide, by decide⟩
    rw [upd_ne (fun e => by rw [← e, upd_same] at np; cases np)]
    exact upd_same
end
/-! ### one of some things -/
abbrev sPick : Stmt := top 32
theorem scK : FnScope ["_law_pen_here", "_law_some"] ["_law_pen_here", "_law_some"] (defScope sPick) := ⟨rfl, rfl, rfl, by decide +kernel, rfl, by decide +kernel, by decide +kernel⟩
def spPick : Sp := fun vs H Q _ => ∃ (p q l : Addr) (cs : List Int) (n r : Int) (xs : List V), vs = [.ref p, .ref l] ∧ H l = some (.lst xs) ∧ l ≠ p ∧ 0 < xs.length ∧ xs.length ≤ 1000 ∧ n < 100000 ∧ Pen H p q cs n r ∧
  ∀ v n' r' H', v ∈ xs → n' ≤ n + 1 → KeepB p H H' → Pen H' p q cs n' r' → Q v H'
theorem at_mem {xs : List V} {i : Int} (h0 : 0 ≤ i) (h1 : i < xs.length) : ∃ v, atI xs i = some v ∧ v ∈ xs := by
  have h2 : i.toNat < xs.length := by omega
  refine ⟨xs[i.toNat], ?_, List.getElem_mem h2⟩
  unfold atI ixN
  rw [if_pos h0, if_pos h1]
  simp [h2]
section
variable {P : Program} {w : World} {K : PySem.W.Frag} {mg : Str → Option Value} {base : Heap} {f fD : Addr} {fd fdD : FuncData}
theorem ok_pick (F : FnP K "_law_pick" sPick f fd) (T : Blt mg) (FD : FnP K "_law_draw" sDraw fD fdD) (gD : mg "_law_draw" = some (.ref fD)) : FnOk P w K mg base CX0 2 f fd ["_law_pen_here", "_law_some"] spPick := by
  have GD : FnOk P w K mg base CX0 1 fD fdD ["_law_pen_here", "_law_many"] spDraw := ok_draw FD T
  have bD : Binds K fdD ["_law_pen_here", "_law_many"] [] := FD.bindsN fun _ _ _ _ _ _ us hl => match us, hl with | [_, _], _ => rfl
  refine F.ok scK (fun vs H Q E h => ?_) (fun cdv A outer s H vs Q E hr h => ?_)
  · obtain ⟨p, q, l, cs, n, r, xs, rfl, _⟩ := h
    rfl
  · obtain ⟨p, q, l, cs, n, r, xs, rfl, hl, lp, h0, h1, hn, PN, k⟩ := h
    refine ⟨_, PSs.nox (pss_one (ps_ret (pe_ix ix_list (pv 1) (pe_call GD hr rfl gD FD.kp bD .nil pass0 (pa_cons (pv 0) (pa_cons (pe_callB call_len_seq (by rfl) T.len PySem.boot_len (pa_cons (pv 1) pa_nil)) pa_nil))) (fun _ _ => rfl)))), ?_⟩
    refine ⟨_, rfl, _, rfl, _, rfl, l, _, rfl, .inl (SqL.of hl), p, q, cs, n, r, _, rfl, by omega, by omega, hn, PN, fun d n' r' H' d0 d1 hn' kp PN' => ?_⟩
    obtain ⟨v, hv, hm⟩ := at_mem d0 d1
    exact ⟨l, xs, d, v, rfl, rfl, SqL.of (kp l _ lp hl), hv, k v n' r' H' hm hn' kp PN'⟩
end
/-! ### a drawn value -/
/-- a value of a kind, as it stands and as data -/
inductive Val (H : Hp) : V → PyData → Prop where
  | non : Val H .non .none
  | bl (b : Bool) : Val H (.bl b) (.bool b)
  | int (i : Int) (h : i = 0 ∨ i = -1 ∨ i = 10 ^ 39) : Val H (.int i) (.int i)
  | str (z : Str) (h : z = "" ∨ z = "a" ∨ z = "two words") : Val H (.str z) (.str z)
  | tup0 {a : Addr} (h : H a = some (.tup [])) : Val H (.ref a) (.tuple [])
  | tup2 {a : Addr} (h : H a = some (.tup [.str "a", .int 1])) : Val H (.ref a) (.tuple [.str "a", .int 1])
  | lst {a : Addr} (h : H a = some (.lst [])) : Val H (.ref a) (.list [])
  | dct {a : Addr} (h : H a = some (.dK [])) : Val H (.ref a) (.dict [])
theorem Val.keep {H H' : Hp} {p q : Addr} {n r : Int} {v : V} {d : PyData} (h : Val H v d) (hp : H p = some (.lst [.ref q, .int n, .int r])) (k : KeepB p H H') : Val H' v d := by
  cases h with
  | non => exact .non
  | bl b => exact .bl b
  | int i h => exact .int i h
  | str z h => exact .str z h
  | tup0 h => exact .tup0 (k _ _ (fun e => by rw [e, hp] at h; cases h) h)
  | tup2 h => exact .tup2 (k _ _ (fun e => by rw [e, hp] at h; cases h) h)
  | lst h => exact .lst (k _ _ (fun e => by rw [e, hp] at h; cases h) h)
  | dct h => exact .dct (k _ _ (fun e => by rw [e, hp] at h; cases h) h)
theorem Val.same {H H' : Hp} {v : V} {d : PyData} (h : Val H v d) (k : Same H H') : Val H' v d := by
  cases h with
  | non => exact .non
  | bl b => exact .bl b
  | int i h => exact .int i h
  | str z h => exact .str z h
  | tup0 h => exact .tup0 (k _ _ h)
  | tup2 h => exact .tup2 (k _ _ h)
  | lst h => exact .lst (k _ _ h)
  | dct h => exact .dct (k _ _ h)
abbrev sVal : Stmt := top 33
theorem scV : FnScope ["_law_pen_here"] ["_law_pen_here"] (defScope sVal) := ⟨rfl, rfl, rfl, by decide +kernel, rfl, by decide +kernel, by decide +kernel⟩
def spVal : Sp := fun vs H Q _ => ∃ (p q : Addr) (cs : List Int) (n r : Int), vs = [.ref p] ∧ n < 100000 ∧ Pen H p q cs n r ∧
  ∀ v d n' r' H', Val H' v d → n' ≤ n + 1 → KeepB p H H' → Pen H' p q cs n' r' → Q v H'
section
variable {P : Program} {w : World} {K : PySem.W.Frag} {mg : Str → Option Value} {base : Heap} {f fD fK : Addr} {fd fdD fdK : FuncData}
theorem ok_val (F : FnP K "_law_value" sVal f fd) (T : Blt mg) (FD : FnP K "_law_draw" sDraw fD fdD) (gD : mg "_law_draw" = some (.ref fD)) (FK : FnP K "_law_pick" sPick fK fdK) (gK : mg "_law_pick" = some (.ref fK)) : FnOk P w K mg base CX0 3 f fd ["_law_pen_here"] spVal := by
  have GK : FnOk P w K mg base CX0 2 fK fdK ["_law_pen_here", "_law_some"] spPick := ok_pick FK T FD gD
  have bK : Binds K fdK ["_law_pen_here", "_law_some"] [] := FK.bindsN fun _ _ _ _ _ _ us hl => match us, hl with | [_, _], _ => rfl
  refine F.ok scV (fun vs H Q E h => ?_) (fun cdv A outer s H vs Q E hr h => ?_)
  · obtain ⟨p, q, cs, n, r, rfl, _⟩ := h
    rfl
  · obtain ⟨p, q, cs, n, r, rfl, hn, PN, k⟩ := h
    refine ⟨_, PSs.nox (pss_one (ps_ret (pe_call GK hr rfl gK FK.kp bK .nil pass0 (pa_cons (pv 0) (pa_cons (pe_lst
      (pa_cons pe_non (pa_cons pe_bl (pa_cons pe_int (pa_cons (pe_un un_neg pe_int) (pa_cons (pe_op op_pow pe_int pe_int) (pa_cons pe_str (pa_cons pe_str (pa_cons pe_str (pa_cons (pe_tup pa_nil) (pa_cons (pe_tup (pa_cons pe_str (pa_cons pe_int pa_nil))) (pa_cons (pe_lst pa_nil) (pa_cons pe_dnewK (pa_cons pe_bl pa_nil)))))))))))))) pa_nil))))), ?_⟩
    refine ⟨_, rfl, _, rfl, _, _, rfl, rfl, cpow_of (by decide) (by decide) (by decide) (by decide), (by show 0 ≤ sizeLine; exact Nat.zero_le _), fun t1 n1 => ?_⟩
    refine ⟨(by show 2 ≤ sizeLine; rw [sizeLine_eq]; decide), fun t2 n2 => ?_⟩
    refine ⟨(by show 0 ≤ sizeLine; exact Nat.zero_le _), fun t3 n3 => ?_⟩
    intro t4 n4
    refine ⟨(by show 13 ≤ sizeLine; rw [sizeLine_eq]; decide), fun l nl => ?_⟩
    have s1 := same_upd (o := .tup []) n1
    have s2 := same_upd (o := .tup [.str "a", .int 1]) n2
    have s3 := same_upd (o := .lst []) n3
    have s4 := same_upd (o := .dK []) n4
    have s5 := same_upd (o := HO.lst [.non, .bl true, .int 0, .int (-1), .int (10 ^ (39 : Int).toNat), .str "", .str "a", .str "two words", .ref t1, .ref t2, .ref t3, .ref t4, .bl false]) nl
    have e1 := s5 _ _ (s4 _ _ (s3 _ _ (s2 _ _ (upd_same (H := H) (a := t1) (o := .tup [])))))
    have e2 := s5 _ _ (s4 _ _ (s3 _ _ (upd_same (H := (upd H t1 (.tup []))) (a := t2) (o := .tup [.str "a", .int 1]))))
    have e3 := s5 _ _ (s4 _ _ (upd_same (H := (upd (upd H t1 (.tup [])) t2 (.tup [.str "a", .int 1]))) (a := t3) (o := .lst [])))
    have e4 := s5 _ _ (upd_same (H := (upd (upd (upd H t1 (.tup [])) t2 (.tup [.str "a", .int 1])) t3 (.lst []))) (a := t4) (o := .dK []))
    have sm : Same H _ := fun b o z => s5 b o (s4 b o (s3 b o (s2 b o (s1 b o z))))
    have PN5 := PN.same sm
    refine ⟨p, q, l, cs, n, r, _, rfl, upd_same, (fun e => by rw [e] at nl; rw [(PN.same (fun b o z => s4 b o (s3 b o (s2 b o (s1 b o z))))).at_] at nl; cases nl), (by simp), (by simp), hn, PN5, fun v n' r' H' hm hn' kp PN' => ?_⟩
    have all : ∃ d, Val H' v d := by
      have nt : ∀ {a : Addr} {o : HO}, _ → (∀ xs, o ≠ .lst (.ref q :: xs)) → H' a = some o := fun {a o} z ne => kp a o (fun e => by
        have y := PN5.at_
        rw [← e] at y
        rw [z] at y
        exact ne _ (Option.some.inj y)) z
      simp only [List.mem_cons, List.not_mem_nil, or_false] at hm
      rcases hm with rfl | rfl | rfl | rfl | rfl | rfl | rfl | rfl | rfl | rfl | rfl | rfl | rfl
      · exact ⟨_, .non⟩
      · exact ⟨_, .bl true⟩
      · exact ⟨_, .int 0 (.inl rfl)⟩
      · exact ⟨_, .int (-1) (.inr (.inl rfl))⟩
      · exact ⟨_, .int _ (.inr (.inr (by decide)))⟩
      · exact ⟨_, .str _ (.inl rfl)⟩
      · exact ⟨_, .str _ (.inr (.inl rfl))⟩
      · exact ⟨_, .str _ (.inr (.inr rfl))⟩
      · exact ⟨_, .tup0 (nt e1 fun xs z => by cases z)⟩
      · exact ⟨_, .tup2 (nt e2 fun xs z => by cases z)⟩
      · exact ⟨_, .lst (nt e3 fun xs z => by cases z)⟩
      · exact ⟨_, .dct (nt e4 fun xs z => by cases z)⟩
      · exact ⟨_, .bl false⟩
    obtain ⟨d, hv⟩ := all
    exact k v d n' r' H' hv hn' (KeepB.trans (KeepB.of sm) kp) PN'
end
end K01
set_option Elab.async false
set_option linter.all false
set_option maxRecDepth 100000
set_option maxHeartbeats 4000000
namespace K01
open PySem PySem.Spec PyProof.Rows L2 Gd Erl He PySem.Erx
/-! ### the classes by their places -/
def clsL0 : List Str := ["BadSigns", "BadWord", "BadBars", "BadSign", "BadText", "BadSent", "BadEnd", "BadMove", "BadMenu"]
def clsL1 : List Str := ["BadPrice", "BadSetting", "BadRate", "BadRule", "BadTable", "BadContent", "BadNumber", "BadLog", "BadLayer"]
def clsL2 : List Str := ["BadLink", "BadLine", "NoEnd", "TooMany", "NoWay", "NoRound", "Stuck", "Refused", "NoChange"]
def clsL : List Str := clsL0 ++ clsL1 ++ clsL2
def fldL0 : List (List Str) := [["value"], ["value"], ["part"], ["value"], ["line", "word"], ["value"], ["value"], ["part"], ["part"]]
def fldL1 : List (List Str) := [["value"], ["part"], ["part"], ["part"], ["part"], ["value"], ["value"], ["part"], ["part"]]
def fldL2 : List (List Str) := [["part"], ["word"], ["end"], ["what", "most"], ["end"], ["most"], ["end"], ["at"], []]
def fldL : List (List Str) := fldL0 ++ fldL1 ++ fldL2
def nmL0 : List Str := ["value", "value", "part", "value", "line word", "value", "value", "part", "part"]
def nmL1 : List Str := ["value", "part", "part", "part", "part", "value", "value", "part", "part"]
def nmL2 : List Str := ["part", "word", "end", "what most", "end", "most", "end", "at", ""]
def nmL : List Str := nmL0 ++ nmL1 ++ nmL2
def cls (i : Nat) : Str := clsL.getD i ""
def flds (i : Nat) : List Str := fldL.getD i []
def nm (i : Nat) : Str := nmL.getD i ""
def vals (i : Nat) (one two : V) : List V := match flds i with
  | [] => []
  | [_] => [one]
  | _ => [one, two]
abbrev cA (K : PySem.W.Frag) (i : Nat) : Addr := ga K (cls i)
/-- what the head tells of the classes -/
structure Cf (P : Program) (K : PySem.W.Frag) (mg : Str → Option Value) : Prop where
  mkr : ∀ i, i < 26 → MakesE P K (cA K i) (flds i)
  mk0 : MakesE0 P K (cA K 26)
  ec : ∀ i, i < 27 → ECls K (cA K i)
  g : ∀ i, i < 27 → mg (cls i) = some (.ref (cA K i))
  no : ∀ i, i < 27 → ∀ f ∈ flds i, PySem.W.findIn K (.ref (cA K i)) f = some none
  kit : ∀ i j, i < 27 → j < 27 → PySem.W.kitOne K (.ref (cA K i)) (.ref (cA K j)) = some (decide (i = j))
  gF : mg "FlagError" = some (.ref (ga K "FlagError"))
  ecF : ECls K (ga K "FlagError")
  xF : PySem.W.excIn K (ga K "FlagError") veBase "ValueError.__new__" = true
  kF : ∀ i, i < 27 → PySem.W.kitOne K (.ref (cA K i)) (.ref (ga K "FlagError")) = some true
  kV : ∀ i, i < 27 → PySem.W.kitOne K (.ref (cA K i)) (.type "ValueError") = some true
  kL : ∀ i, i < 27 → PySem.W.kitOne K (.ref (cA K i)) (.type "LookupError") = some false
  kT : ∀ i, i < 27 → PySem.W.kitOne K (.ref (cA K i)) (.type "TypeError") = some false
  kA : ∀ i, i < 27 → PySem.W.kitOne K (.ref (cA K i)) (.type "ArithmeticError") = some false
  kFS : PySem.W.kitOne K (.ref (ga K "FlagError")) (.ref (cA K 3)) = some false
  kFV : PySem.W.kitOne K (.ref (ga K "FlagError")) (.type "ValueError") = some true
/-- at e stands the i-th error, made of these values -/
def Err (K : PySem.W.Frag) (H : Hp) (one two : V) (i : Nat) (e : Addr) : Prop := (flds i = [] ∧ H e = some (exo e (cA K i) none)) ∨ ∃ d, H e = some (exo e (cA K i) (some d)) ∧ H d = some (.xd ((flds i).zip (vals i one two)))
theorem Err.same {K : PySem.W.Frag} {H H' : Hp} {one two : V} {i : Nat} {e : Addr} (h : Err K H one two i e) (s : Same H H') : Err K H' one two i e := by
  rcases h with ⟨h1, h2⟩ | ⟨d, h1, h2⟩
  · exact .inl ⟨h1, s _ _ h2⟩
  · exact .inr ⟨d, s _ _ h1, s _ _ h2⟩
theorem Err.at_ {K : PySem.W.Frag} {H : Hp} {one two : V} {i : Nat} {e : Addr} (h : Err K H one two i e) : ErrAt H e (cA K i) := by
  rcases h with ⟨h1, h2⟩ | ⟨d, h1, h2⟩
  · exact .inl h2
  · exact .inr ⟨d, _, h1, h2⟩
/-- at t stands the i-th row: the error, the names, the values of its fields -/
def MadeT (K : PySem.W.Frag) (H : Hp) (one two : V) (i : Nat) (t : Addr) : Prop := ∃ e l, H t = some (.tup [.ref e, .str (nm i), .ref l]) ∧ Err K H one two i e ∧ H l = some (.lst (vals i one two))
theorem MadeT.same {K : PySem.W.Frag} {H H' : Hp} {one two : V} {i : Nat} {e : Addr} (h : MadeT K H one two i e) (s : Same H H') : MadeT K H' one two i e := by
  obtain ⟨a, l, h1, h2, h3⟩ := h
  exact ⟨a, l, s _ _ h1, h2.same s, s _ _ h3⟩
abbrev Pd : Type := Hp → V → V → Nat → Addr → Prop
abbrev Mono (D : Pd) : Prop := ∀ {H H' : Hp} {one two : V} {i : Nat} {t : Addr}, D H one two i t → Same H H' → D H' one two i t
theorem same_trans {H H1 H2 : Hp} (a : Same H H1) (b : Same H1 H2) : Same H H2 := fun c o z => b c o (a c o z)
/-- one such item | some, one behind another -/
def tEl (D : Pd) (i : Nat) : TE := fun σ H Q => ∃ one two, σ[0]? = some (some one) ∧ σ[1]? = some (some two) ∧ ∀ t H', Same H H' → D H' one two i t → Q (.ref t) H'
def tEls (D : Pd) (m c : Nat) : TA := fun σ H Q => ∃ one two, σ[0]? = some (some one) ∧ σ[1]? = some (some two) ∧ ∀ ts : List Addr, ∀ H', Same H H' → ts.length = c → (∀ i, i < c → ∃ t, ts[i]? = some t ∧ D H' one two (m + i) t) → Q (ts.map V.ref) H'
/-- a list of the first m ones -/
def Row (D : Pd) (H : Hp) (one two : V) (m : Nat) (L : Addr) : Prop := ∃ ts : List Addr, H L = some (.lst (ts.map V.ref)) ∧ ts.length = m ∧ ∀ i, i < m → ∃ t, ts[i]? = some t ∧ D H one two i t
section
variable {X : Cx} {e : Expr} {es : List Expr}
theorem pe_imp {t t' : TE} (h : PE X e t) (k : ∀ σ H Q, t' σ H Q → t σ H Q) : PE X e t' := ⟨fun pins s σ H Q I q => h.run pins s σ H Q I (k _ _ _ q)⟩
theorem pa_imp {t t' : TA} (h : PA X es t) (k : ∀ σ H Q, t' σ H Q → t σ H Q) : PA X es t' := ⟨fun pos pins s σ H Q I q => h.run pos pins s σ H Q I (k _ _ _ q)⟩
theorem els_nil {D : Pd} {m : Nat} : PA X [] (tEls D m 0) := pa_imp pa_nil fun σ H Q ⟨one, two, h0, h1, k⟩ => k [] H (fun _ _ z => z) rfl fun i hi => absurd hi (Nat.not_lt_zero _)
theorem els_cons {D : Pd} {m c : Nat} (mo : Mono D) (he : PE X e (tEl D m)) (hs : PA X es (tEls D (m + 1) c)) (hst : starEach (e :: es) X.env = (false, eval e X.env) :: starEach es X.env := by rfl) : PA X (e :: es) (tEls D m (c + 1)) :=
  pa_imp (pa_cons he hs hst) fun σ H Q ⟨one, two, h0, h1, k⟩ => ⟨one, two, h0, h1, fun t H1 s1 d1 => ⟨one, two, h0, h1, fun ts H2 s2 l2 d2 => k (t :: ts) H2 (same_trans s1 s2) (by rw [List.length_cons, l2]) fun i hi => by
    cases i with
    | zero => exact ⟨t, rfl, mo d1 s2⟩
    | succ i =>
      obtain ⟨u, h3, h4⟩ := d2 i (by omega)
      exact ⟨u, h3, by rw [show m + (i + 1) = m + 1 + i by omega]; exact h4⟩⟩⟩
end
theorem seq_set {te : TE} {i : Nat} {u : TS} {D : L2.Ends} {σ : L2.St} {H : Hp} (h : te σ H fun x H1 => u D (σ.set i (some x)) H1) : tSeq (tAsg te (gName i)) u D σ H := h
theorem ret_in {te : TE} {D : L2.Ends} {σ : L2.St} {H : Hp} (h : te σ H D.rt) : tRet te D σ H := h
theorem row_first {D : Pd} (mo : Mono D) {one two : V} {c : Nat} {σ : L2.St} {H : Hp} {Q : VK} (h0 : σ[0]? = some (some one)) (h1 : σ[1]? = some (some two)) (hc : c ≤ 100) (k : ∀ L H', Same H H' → Row D H' one two c L → Q (.ref L) H') : tLst (tEls D 0 c) σ H Q := by
  refine ⟨one, two, h0, h1, fun ts H1 s1 l1 d1 => ⟨by rw [List.length_map, l1, sizeLine_eq]; omega, fun p np => ?_⟩⟩
  have s2 := same_upd (o := .lst (ts.map V.ref)) np
  refine k p _ (same_trans s1 s2) ⟨ts, upd_same, l1, fun i hi => ?_⟩
  obtain ⟨t, h2, h3⟩ := d1 i hi
  rw [Nat.zero_add] at h3
  exact ⟨t, h2, mo h3 s2⟩
theorem row_cat {D : Pd} (mo : Mono D) {one two : V} {m c : Nat} {L : Addr} {σ : L2.St} {H : Hp} {Q : VK} (h0 : σ[0]? = some (some one)) (h1 : σ[1]? = some (some two)) (h2 : σ[2]? = some (some (.ref L))) (R : Row D H one two m L) (hc : m + c ≤ 100)
    (k : ∀ L H', Same H H' → Row D H' one two (m + c) L → Q (.ref L) H') : tOp rCat (tVar 2) (tLst (tEls D m c)) σ H Q := by
  obtain ⟨us, r1, r2, r3⟩ := R
  refine ⟨_, h2, one, two, h0, h1, fun ts H1 s1 l1 d1 => ⟨by rw [List.length_map, l1, sizeLine_eq]; omega, fun p np => ?_⟩⟩
  have s2 := same_upd (o := .lst (ts.map V.ref)) np
  refine ⟨L, p, us.map V.ref, ts.map V.ref, rfl, rfl, s2 _ _ (s1 _ _ r1), upd_same, by rw [List.length_map, List.length_map, l1, r2, sizeLine_eq]; omega, fun q nq => ?_⟩
  have s3 := same_upd (o := .lst (us.map V.ref ++ ts.map V.ref)) nq
  have s := same_trans s1 (same_trans s2 s3)
  refine k q _ s ⟨us ++ ts, by rw [List.map_append]; exact upd_same, by rw [List.length_append, r2, l1], fun i hi => ?_⟩
  by_cases h : i < m
  · obtain ⟨t, h3, h4⟩ := r3 i h
    exact ⟨t, by rw [List.getElem?_append_left (by omega)]; exact h3, mo h4 s⟩
  · obtain ⟨t, h3, h4⟩ := d1 (i - m) (by omega)
    refine ⟨t, by rw [List.getElem?_append_right (by omega), r2]; exact h3, ?_⟩
    have e : m + (i - m) = i := by omega
    rw [e] at h4
    exact mo (mo h4 s2) s3
section
variable {X : Cx} {mg : Str → Option Value} {p r u v pos s j : Pos} {x1 x2 : Nat} {x f f2 z n1 n2 : Str}
/-- (C(one), names, [one]) -/
theorem el1 {i : Nat} (Z : Cf X.prog X.K X.mg) (T : Blt X.mg) (hr : Room 0 X.A) (hi : i < 26) (hx : cls i = x) (hf : flds i = [f]) (hz : nm i = z) (hg : Gl X x) (v0 : PE X (.Name n1 r) (tVar 0)) (v1 : PE X (.Name n1 u) (tVar 0)) (hd : (x == ("__debug__" : Str)) = false) :
    PE X (.Tuple [.Call (.Name x p) [.Name n1 r] [] s, .Constant (.str z) x2 j, .List [.Name n1 u] v] x1 pos) (tEl (MadeT X.K) i) := by
  have M := Z.mkr i hi
  have e1 := Z.g i (by omega)
  rw [hf] at M
  rw [hx] at e1
  refine pe_imp (pe_tup (pa_cons (pe_mkV M (Z.ec i (by omega)) e1 T.sup hr (pa_cons v0 pa_nil) hg hd) (pa_cons pe_str (pa_cons (pe_lst (pa_cons v1 pa_nil)) pa_nil)))) fun σ H Q ⟨one, two, h0, h1, k⟩ => ?_
  refine ⟨one, h0, rfl, fun e d ne nd dne => ?_⟩
  have vv : vals i one two = [one] := by
    unfold vals
    rw [hf]
  have s1 : Same H (upd (upd H d (.xd ([f].zip [one]))) e (exo e (cA X.K i) (some d))) := same_trans (same_upd nd) (same_upd (by rw [upd_ne (Ne.symm dne)]; exact ne))
  refine ⟨one, h0, by show 1 ≤ sizeLine; rw [sizeLine_eq]; decide, fun l nl => ?_⟩
  have s2 := same_upd (o := .lst [one]) nl
  refine ⟨by show 3 ≤ sizeLine; rw [sizeLine_eq]; decide, fun t nt => ?_⟩
  have s3 := same_upd (o := .tup [.ref e, .str z, .ref l]) nt
  refine k t _ (same_trans s1 (same_trans s2 s3)) ⟨e, l, by rw [hz]; exact upd_same, .inr ⟨d, s3 _ _ (s2 _ _ upd_same), s3 _ _ (s2 _ _ ?_)⟩, by rw [vv]; exact s3 _ _ upd_same⟩
  rw [hf, vv, upd_ne dne]
  exact upd_same
/-- (C(one, two), names, [one, two]) -/
theorem el2 {r2 u2 : Pos} {i : Nat} (Z : Cf X.prog X.K X.mg) (T : Blt X.mg) (hr : Room 0 X.A) (hi : i < 26) (hx : cls i = x) (hf : flds i = [f, f2]) (hz : nm i = z) (hg : Gl X x) (v0 : PE X (.Name n1 r) (tVar 0)) (v1 : PE X (.Name n1 u) (tVar 0)) (w0 : PE X (.Name n2 r2) (tVar 1)) (w1 : PE X (.Name n2 u2) (tVar 1)) (hd : (x == ("__debug__" : Str)) = false) :
    PE X (.Tuple [.Call (.Name x p) [.Name n1 r, .Name n2 r2] [] s, .Constant (.str z) x2 j, .List [.Name n1 u, .Name n2 u2] v] x1 pos) (tEl (MadeT X.K) i) := by
  have M := Z.mkr i hi
  have e1 := Z.g i (by omega)
  rw [hf] at M
  rw [hx] at e1
  refine pe_imp (pe_tup (pa_cons (pe_mkV M (Z.ec i (by omega)) e1 T.sup hr (pa_cons v0 (pa_cons w0 pa_nil)) hg hd) (pa_cons pe_str (pa_cons (pe_lst (pa_cons v1 (pa_cons w1 pa_nil))) pa_nil)))) fun σ H Q ⟨one, two, h0, h1, k⟩ => ?_
  refine ⟨one, h0, two, h1, rfl, fun e d ne nd dne => ?_⟩
  have vv : vals i one two = [one, two] := by
    unfold vals
    rw [hf]
  have s1 : Same H (upd (upd H d (.xd ([f, f2].zip [one, two]))) e (exo e (cA X.K i) (some d))) := same_trans (same_upd nd) (same_upd (by rw [upd_ne (Ne.symm dne)]; exact ne))
  refine ⟨one, h0, two, h1, by show 2 ≤ sizeLine; rw [sizeLine_eq]; decide, fun l nl => ?_⟩
  have s2 := same_upd (o := .lst [one, two]) nl
  refine ⟨by show 3 ≤ sizeLine; rw [sizeLine_eq]; decide, fun t nt => ?_⟩
  have s3 := same_upd (o := .tup [.ref e, .str z, .ref l]) nt
  refine k t _ (same_trans s1 (same_trans s2 s3)) ⟨e, l, by rw [hz]; exact upd_same, .inr ⟨d, s3 _ _ (s2 _ _ upd_same), s3 _ _ (s2 _ _ ?_)⟩, by rw [vv]; exact s3 _ _ upd_same⟩
  rw [hf, vv, upd_ne dne]
  exact upd_same
/-- (NoChange(), '', []) -/
theorem el0 (Z : Cf X.prog X.K X.mg) (T : Blt X.mg) (hr : Room 0 X.A) (hx : cls 26 = x) (hz : nm 26 = z) (hg : Gl X x) (hd : (x == ("__debug__" : Str)) = false) :
    PE X (.Tuple [.Call (.Name x p) [] [] s, .Constant (.str z) x2 j, .List [] v] x1 pos) (tEl (MadeT X.K) 26) := by
  have e1 := Z.g 26 (by omega)
  rw [hx] at e1
  refine pe_imp (pe_tup (pa_cons (pe_mk0 Z.mk0 (Z.ec 26 (by omega)) e1 T.sup hr hg hd) (pa_cons pe_str (pa_cons (pe_lst pa_nil) pa_nil)))) fun σ H Q ⟨one, two, h0, h1, k⟩ => ?_
  intro e ne
  have s1 : Same H (upd H e (exo e (cA X.K 26) none)) := same_upd ne
  refine ⟨Nat.zero_le _, fun l nl => ?_⟩
  have s2 := same_upd (o := .lst []) nl
  refine ⟨by show 3 ≤ sizeLine; rw [sizeLine_eq]; decide, fun t nt => ?_⟩
  have s3 := same_upd (o := .tup [.ref e, .str z, .ref l]) nt
  exact k t _ (same_trans s1 (same_trans s2 s3)) ⟨e, l, by rw [hz]; exact upd_same, .inl ⟨rfl, s3 _ _ (s2 _ _ upd_same)⟩, s3 _ _ upd_same⟩
/-- C(f = one) -/
theorem kw1 {kp : Pos} {i : Nat} (Z : Cf X.prog X.K X.mg) (T : Blt X.mg) (hr : Room 0 X.A) (hi : i < 26) (hx : cls i = x) (hf : flds i = [f]) (hg : Gl X x) (v0 : PE X (.Name n1 r) (tVar 0)) (hd : (x == ("__debug__" : Str)) = false) :
    PE X (.Call (.Name x p) [] [⟨some f, .Name n1 r, kp⟩] s) (tEl (Err X.K) i) := by
  have M := Z.mkr i hi
  have e1 := Z.g i (by omega)
  rw [hf] at M
  rw [hx] at e1
  refine pe_imp (pe_mkK M (Z.ec i (by omega)) e1 T.sup hr (pk_cons v0 pk_nil) hg rfl rfl hd) fun σ H Q ⟨one, two, h0, h1, k⟩ => ?_
  refine ⟨one, h0, rfl, fun e d ne nd dne => ?_⟩
  have vv : vals i one two = [one] := by
    unfold vals
    rw [hf]
  refine k e _ (same_trans (same_upd nd) (same_upd (by rw [upd_ne (Ne.symm dne)]; exact ne))) (.inr ⟨d, upd_same, ?_⟩)
  rw [hf, vv, upd_ne dne]
  exact upd_same
/-- C(g = two, f = one) -/
theorem kw2 {kp kq r2 : Pos} {i : Nat} (Z : Cf X.prog X.K X.mg) (T : Blt X.mg) (hr : Room 0 X.A) (hi : i < 26) (hx : cls i = x) (hf : flds i = [f, f2]) (hg : Gl X x) (v0 : PE X (.Name n1 r) (tVar 0)) (w0 : PE X (.Name n2 r2) (tVar 1)) (hd : (x == ("__debug__" : Str)) = false) :
    PE X (.Call (.Name x p) [] [⟨some f2, .Name n2 r2, kp⟩, ⟨some f, .Name n1 r, kq⟩] s) (tEl (Err X.K) i) := by
  have M := Z.mkr i hi
  have e1 := Z.g i (by omega)
  rw [hf] at M
  rw [hx] at e1
  refine pe_imp (pe_mkK M (Z.ec i (by omega)) e1 T.sup hr (pk_cons w0 (pk_cons v0 pk_nil)) hg rfl rfl hd) fun σ H Q ⟨one, two, h0, h1, k⟩ => ?_
  refine ⟨two, h1, one, h0, rfl, fun e d ne nd dne => ?_⟩
  have vv : vals i one two = [one, two] := by
    unfold vals
    rw [hf]
  refine k e _ (same_trans (same_upd nd) (same_upd (by rw [upd_ne (Ne.symm dne)]; exact ne))) (.inr ⟨d, upd_same, ?_⟩)
  rw [hf, vv, upd_ne dne]
  exact upd_same
theorem kw0 (Z : Cf X.prog X.K X.mg) (T : Blt X.mg) (hr : Room 0 X.A) (hx : cls 26 = x) (hg : Gl X x) (hd : (x == ("__debug__" : Str)) = false) : PE X (.Call (.Name x p) [] [] s) (tEl (Err X.K) 26) := by
  have e1 := Z.g 26 (by omega)
  rw [hx] at e1
  refine pe_imp (pe_mk0 Z.mk0 (Z.ec 26 (by omega)) e1 T.sup hr hg hd) fun σ H Q ⟨one, two, h0, h1, k⟩ => ?_
  intro e ne
  exact k e _ (same_upd ne) (.inl ⟨rfl, upd_same⟩)
end
abbrev sMade : Stmt := top 34
theorem scM : FnScope ["_law_one", "_law_two", "_law_found"] ["_law_one", "_law_two"] (defScope sMade) := ⟨rfl, rfl, rfl, by decide +kernel, rfl, by decide +kernel, by decide +kernel⟩
abbrev sNamed : Stmt := top 35
theorem scN : FnScope ["_law_one", "_law_two", "_law_found"] ["_law_one", "_law_two"] (defScope sNamed) := ⟨rfl, rfl, rfl, by decide +kernel, rfl, by decide +kernel, by decide +kernel⟩
/-- a new list of the 27 ones -/
def spRow (D : Pd) : Sp := fun vs H Q _ => ∃ one two, vs = [one, two] ∧ ∀ L H', Same H H' → Row D H' one two 27 L → Q (.ref L) H'
section
variable {P : Program} {w : World} {K : PySem.W.Frag} {mg : Str → Option Value} {base : Heap} {f : Addr} {fd : FuncData}
theorem ok_made (F : FnP K "_law_made" sMade f fd) (T : Blt mg) (Z : Cf P K mg) : FnOk P w K mg base CX0 1 f fd ["_law_one", "_law_two"] (spRow (MadeT K)) := by
  have mo : Mono (MadeT K) := fun h s => h.same s
  refine F.ok scM (fun vs H Q E h => ?_) (fun cdv A outer s H vs Q E hr h => ?_)
  · obtain ⟨one, two, rfl, _⟩ := h
    rfl
  · obtain ⟨one, two, rfl, k⟩ := h
    refine ⟨(tSeq (tAsg (tLst (tEls (MadeT K) 0 3)) (gName 2)) (tSeq (tAsg (tOp rCat (tVar 2) (tLst (tEls (MadeT K) 3 2))) (gName 2)) (tSeq (tAsg (tOp rCat (tVar 2) (tLst (tEls (MadeT K) 5 3))) (gName 2)) (tSeq (tAsg (tOp rCat (tVar 2) (tLst (tEls (MadeT K) 8 3))) (gName 2)) (tSeq (tAsg (tOp rCat (tVar 2) (tLst (tEls (MadeT K) 11 3))) (gName 2)) (tSeq (tAsg (tOp rCat (tVar 2) (tLst (tEls (MadeT K) 14 3))) (gName 2)) (tSeq (tAsg (tOp rCat (tVar 2) (tLst (tEls (MadeT K) 17 1))) (gName 2)) (tSeq (tAsg (tOp rCat (tVar 2) (tLst (tEls (MadeT K) 18 3))) (gName 2)) (tSeq (tAsg (tOp rCat (tVar 2) (tLst (tEls (MadeT K) 21 3))) (gName 2)) (tRet (tOp rCat (tVar 2) (tLst (tEls (MadeT K) 24 3))))))))))))), PSs.nox ?_, ?_⟩
    · exact (pss_cons (ps_set (i := 2) scM.nd rfl (Or.inl rfl) (pe_lst (els_cons mo (by exact (el1 (i := 0) Z T hr (by decide) (by rfl) (by rfl) (by rfl) (by rfl) (pv 0) (pv 0) (by decide))) (els_cons mo (by exact (el1 (i := 1) Z T hr (by decide) (by rfl) (by rfl) (by rfl) (by rfl) (pv 0) (pv 0) (by decide))) (els_cons mo (by exact (el1 (i := 2) Z T hr (by decide) (by rfl) (by rfl) (by rfl) (by rfl) (pv 0) (pv 0) (by decide))) els_nil)))))
      (pss_cons (ps_set (i := 2) scM.nd rfl (Or.inl rfl) (pe_op op_cat (pv 2) (pe_lst (els_cons mo (by exact (el1 (i := 3) Z T hr (by decide) (by rfl) (by rfl) (by rfl) (by rfl) (pv 0) (pv 0) (by decide))) (els_cons mo (by exact (el2 (i := 4) Z T hr (by decide) (by rfl) (by rfl) (by rfl) (by rfl) (pv 0) (pv 0) (pv 1) (pv 1) (by decide))) els_nil)))))
      (pss_cons (ps_set (i := 2) scM.nd rfl (Or.inl rfl) (pe_op op_cat (pv 2) (pe_lst (els_cons mo (by exact (el1 (i := 5) Z T hr (by decide) (by rfl) (by rfl) (by rfl) (by rfl) (pv 0) (pv 0) (by decide))) (els_cons mo (by exact (el1 (i := 6) Z T hr (by decide) (by rfl) (by rfl) (by rfl) (by rfl) (pv 0) (pv 0) (by decide))) (els_cons mo (by exact (el1 (i := 7) Z T hr (by decide) (by rfl) (by rfl) (by rfl) (by rfl) (pv 0) (pv 0) (by decide))) els_nil))))))
      (pss_cons (ps_set (i := 2) scM.nd rfl (Or.inl rfl) (pe_op op_cat (pv 2) (pe_lst (els_cons mo (by exact (el1 (i := 8) Z T hr (by decide) (by rfl) (by rfl) (by rfl) (by rfl) (pv 0) (pv 0) (by decide))) (els_cons mo (by exact (el1 (i := 9) Z T hr (by decide) (by rfl) (by rfl) (by rfl) (by rfl) (pv 0) (pv 0) (by decide))) (els_cons mo (by exact (el1 (i := 10) Z T hr (by decide) (by rfl) (by rfl) (by rfl) (by rfl) (pv 0) (pv 0) (by decide))) els_nil))))))
      (pss_cons (ps_set (i := 2) scM.nd rfl (Or.inl rfl) (pe_op op_cat (pv 2) (pe_lst (els_cons mo (by exact (el1 (i := 11) Z T hr (by decide) (by rfl) (by rfl) (by rfl) (by rfl) (pv 0) (pv 0) (by decide))) (els_cons mo (by exact (el1 (i := 12) Z T hr (by decide) (by rfl) (by rfl) (by rfl) (by rfl) (pv 0) (pv 0) (by decide))) (els_cons mo (by exact (el1 (i := 13) Z T hr (by decide) (by rfl) (by rfl) (by rfl) (by rfl) (pv 0) (pv 0) (by decide))) els_nil))))))
      (pss_cons (ps_set (i := 2) scM.nd rfl (Or.inl rfl) (pe_op op_cat (pv 2) (pe_lst (els_cons mo (by exact (el1 (i := 14) Z T hr (by decide) (by rfl) (by rfl) (by rfl) (by rfl) (pv 0) (pv 0) (by decide))) (els_cons mo (by exact (el1 (i := 15) Z T hr (by decide) (by rfl) (by rfl) (by rfl) (by rfl) (pv 0) (pv 0) (by decide))) (els_cons mo (by exact (el1 (i := 16) Z T hr (by decide) (by rfl) (by rfl) (by rfl) (by rfl) (pv 0) (pv 0) (by decide))) els_nil))))))
      (pss_cons (ps_set (i := 2) scM.nd rfl (Or.inl rfl) (pe_op op_cat (pv 2) (pe_lst (els_cons mo (by exact (el1 (i := 17) Z T hr (by decide) (by rfl) (by rfl) (by rfl) (by rfl) (pv 0) (pv 0) (by decide))) els_nil))))
      (pss_cons (ps_set (i := 2) scM.nd rfl (Or.inl rfl) (pe_op op_cat (pv 2) (pe_lst (els_cons mo (by exact (el1 (i := 18) Z T hr (by decide) (by rfl) (by rfl) (by rfl) (by rfl) (pv 0) (pv 0) (by decide))) (els_cons mo (by exact (el1 (i := 19) Z T hr (by decide) (by rfl) (by rfl) (by rfl) (by rfl) (pv 0) (pv 0) (by decide))) (els_cons mo (by exact (el1 (i := 20) Z T hr (by decide) (by rfl) (by rfl) (by rfl) (by rfl) (pv 0) (pv 0) (by decide))) els_nil))))))
      (pss_cons (ps_set (i := 2) scM.nd rfl (Or.inl rfl) (pe_op op_cat (pv 2) (pe_lst (els_cons mo (by exact (el2 (i := 21) Z T hr (by decide) (by rfl) (by rfl) (by rfl) (by rfl) (pv 0) (pv 0) (pv 1) (pv 1) (by decide))) (els_cons mo (by exact (el1 (i := 22) Z T hr (by decide) (by rfl) (by rfl) (by rfl) (by rfl) (pv 0) (pv 0) (by decide))) (els_cons mo (by exact (el1 (i := 23) Z T hr (by decide) (by rfl) (by rfl) (by rfl) (by rfl) (pv 0) (pv 0) (by decide))) els_nil))))))
      (pss_one (ps_ret (pe_op op_cat (pv 2) (pe_lst (els_cons mo (by exact (el1 (i := 24) Z T hr (by decide) (by rfl) (by rfl) (by rfl) (by rfl) (pv 0) (pv 0) (by decide))) (els_cons mo (by exact (el1 (i := 25) Z T hr (by decide) (by rfl) (by rfl) (by rfl) (by rfl) (pv 0) (pv 0) (by decide))) (els_cons mo (by exact (el0 Z T hr (by rfl) (by rfl) (by rfl) (by decide))) els_nil))))))))))))))))
    refine seq_set (row_first (D := MadeT K) (one := one) (two := two) (c := 3) mo rfl rfl (by decide) fun L0 H0 s0 R0 => ?_)
    refine seq_set (row_cat (D := MadeT K) (one := one) (two := two) (m := 3) (c := 2) mo rfl rfl rfl R0 (by decide) fun L1 H1 s1 R1 => ?_)
    refine seq_set (row_cat (D := MadeT K) (one := one) (two := two) (m := 5) (c := 3) mo rfl rfl rfl R1 (by decide) fun L2 H2 s2 R2 => ?_)
    refine seq_set (row_cat (D := MadeT K) (one := one) (two := two) (m := 8) (c := 3) mo rfl rfl rfl R2 (by decide) fun L3 H3 s3 R3 => ?_)
    refine seq_set (row_cat (D := MadeT K) (one := one) (two := two) (m := 11) (c := 3) mo rfl rfl rfl R3 (by decide) fun L4 H4 s4 R4 => ?_)
    refine seq_set (row_cat (D := MadeT K) (one := one) (two := two) (m := 14) (c := 3) mo rfl rfl rfl R4 (by decide) fun L5 H5 s5 R5 => ?_)
    refine seq_set (row_cat (D := MadeT K) (one := one) (two := two) (m := 17) (c := 1) mo rfl rfl rfl R5 (by decide) fun L6 H6 s6 R6 => ?_)
    refine seq_set (row_cat (D := MadeT K) (one := one) (two := two) (m := 18) (c := 3) mo rfl rfl rfl R6 (by decide) fun L7 H7 s7 R7 => ?_)
    refine seq_set (row_cat (D := MadeT K) (one := one) (two := two) (m := 21) (c := 3) mo rfl rfl rfl R7 (by decide) fun L8 H8 s8 R8 => ?_)
    refine ret_in (row_cat (D := MadeT K) (one := one) (two := two) (m := 24) (c := 3) mo rfl rfl rfl R8 (by decide) fun L9 H9 s9 R9 => ?_)
    exact k L9 H9 (same_trans s0 (same_trans s1 (same_trans s2 (same_trans s3 (same_trans s4 (same_trans s5 (same_trans s6 (same_trans s7 (same_trans s8 s9))))))))) R9
theorem ok_named (F : FnP K "_law_named" sNamed f fd) (T : Blt mg) (Z : Cf P K mg) : FnOk P w K mg base CX0 1 f fd ["_law_one", "_law_two"] (spRow (Err K)) := by
  have mo : Mono (Err K) := fun h s => h.same s
  refine F.ok scN (fun vs H Q E h => ?_) (fun cdv A outer s H vs Q E hr h => ?_)
  · obtain ⟨one, two, rfl, _⟩ := h
    rfl
  · obtain ⟨one, two, rfl, k⟩ := h
    refine ⟨(tSeq (tAsg (tLst (tEls (Err K) 0 5)) (gName 2)) (tSeq (tAsg (tOp rCat (tVar 2) (tLst (tEls (Err K) 5 5))) (gName 2)) (tSeq (tAsg (tOp rCat (tVar 2) (tLst (tEls (Err K) 10 5))) (gName 2)) (tSeq (tAsg (tOp rCat (tVar 2) (tLst (tEls (Err K) 15 6))) (gName 2)) (tSeq (tAsg (tOp rCat (tVar 2) (tLst (tEls (Err K) 21 5))) (gName 2)) (tRet (tOp rCat (tVar 2) (tLst (tEls (Err K) 26 1))))))))), PSs.nox ?_, ?_⟩
    · exact (pss_cons (ps_set (i := 2) scN.nd rfl (Or.inl rfl) (pe_lst (els_cons mo (by exact (kw1 (i := 0) Z T hr (by decide) (by rfl) (by rfl) (by rfl) (pv 0) (by decide))) (els_cons mo (by exact (kw1 (i := 1) Z T hr (by decide) (by rfl) (by rfl) (by rfl) (pv 0) (by decide))) (els_cons mo (by exact (kw1 (i := 2) Z T hr (by decide) (by rfl) (by rfl) (by rfl) (pv 0) (by decide))) (els_cons mo (by exact (kw1 (i := 3) Z T hr (by decide) (by rfl) (by rfl) (by rfl) (pv 0) (by decide))) (els_cons mo (by exact (kw2 (i := 4) Z T hr (by decide) (by rfl) (by rfl) (by rfl) (pv 0) (pv 1) (by decide))) els_nil)))))))
      (pss_cons (ps_set (i := 2) scN.nd rfl (Or.inl rfl) (pe_op op_cat (pv 2) (pe_lst (els_cons mo (by exact (kw1 (i := 5) Z T hr (by decide) (by rfl) (by rfl) (by rfl) (pv 0) (by decide))) (els_cons mo (by exact (kw1 (i := 6) Z T hr (by decide) (by rfl) (by rfl) (by rfl) (pv 0) (by decide))) (els_cons mo (by exact (kw1 (i := 7) Z T hr (by decide) (by rfl) (by rfl) (by rfl) (pv 0) (by decide))) (els_cons mo (by exact (kw1 (i := 8) Z T hr (by decide) (by rfl) (by rfl) (by rfl) (pv 0) (by decide))) (els_cons mo (by exact (kw1 (i := 9) Z T hr (by decide) (by rfl) (by rfl) (by rfl) (pv 0) (by decide))) els_nil))))))))
      (pss_cons (ps_set (i := 2) scN.nd rfl (Or.inl rfl) (pe_op op_cat (pv 2) (pe_lst (els_cons mo (by exact (kw1 (i := 10) Z T hr (by decide) (by rfl) (by rfl) (by rfl) (pv 0) (by decide))) (els_cons mo (by exact (kw1 (i := 11) Z T hr (by decide) (by rfl) (by rfl) (by rfl) (pv 0) (by decide))) (els_cons mo (by exact (kw1 (i := 12) Z T hr (by decide) (by rfl) (by rfl) (by rfl) (pv 0) (by decide))) (els_cons mo (by exact (kw1 (i := 13) Z T hr (by decide) (by rfl) (by rfl) (by rfl) (pv 0) (by decide))) (els_cons mo (by exact (kw1 (i := 14) Z T hr (by decide) (by rfl) (by rfl) (by rfl) (pv 0) (by decide))) els_nil))))))))
      (pss_cons (ps_set (i := 2) scN.nd rfl (Or.inl rfl) (pe_op op_cat (pv 2) (pe_lst (els_cons mo (by exact (kw1 (i := 15) Z T hr (by decide) (by rfl) (by rfl) (by rfl) (pv 0) (by decide))) (els_cons mo (by exact (kw1 (i := 16) Z T hr (by decide) (by rfl) (by rfl) (by rfl) (pv 0) (by decide))) (els_cons mo (by exact (kw1 (i := 17) Z T hr (by decide) (by rfl) (by rfl) (by rfl) (pv 0) (by decide))) (els_cons mo (by exact (kw1 (i := 18) Z T hr (by decide) (by rfl) (by rfl) (by rfl) (pv 0) (by decide))) (els_cons mo (by exact (kw1 (i := 19) Z T hr (by decide) (by rfl) (by rfl) (by rfl) (pv 0) (by decide))) (els_cons mo (by exact (kw1 (i := 20) Z T hr (by decide) (by rfl) (by rfl) (by rfl) (pv 0) (by decide))) els_nil)))))))))
      (pss_cons (ps_set (i := 2) scN.nd rfl (Or.inl rfl) (pe_op op_cat (pv 2) (pe_lst (els_cons mo (by exact (kw2 (i := 21) Z T hr (by decide) (by rfl) (by rfl) (by rfl) (pv 0) (pv 1) (by decide))) (els_cons mo (by exact (kw1 (i := 22) Z T hr (by decide) (by rfl) (by rfl) (by rfl) (pv 0) (by decide))) (els_cons mo (by exact (kw1 (i := 23) Z T hr (by decide) (by rfl) (by rfl) (by rfl) (pv 0) (by decide))) (els_cons mo (by exact (kw1 (i := 24) Z T hr (by decide) (by rfl) (by rfl) (by rfl) (pv 0) (by decide))) (els_cons mo (by exact (kw1 (i := 25) Z T hr (by decide) (by rfl) (by rfl) (by rfl) (pv 0) (by decide))) els_nil))))))))
      (pss_one (ps_ret (pe_op op_cat (pv 2) (pe_lst (els_cons mo (by exact (kw0 Z T hr (by rfl) (by rfl) (by decide))) els_nil))))))))))
    refine seq_set (row_first (D := Err K) (one := one) (two := two) (c := 5) mo rfl rfl (by decide) fun L0 H0 s0 R0 => ?_)
    refine seq_set (row_cat (D := Err K) (one := one) (two := two) (m := 5) (c := 5) mo rfl rfl rfl R0 (by decide) fun L1 H1 s1 R1 => ?_)
    refine seq_set (row_cat (D := Err K) (one := one) (two := two) (m := 10) (c := 5) mo rfl rfl rfl R1 (by decide) fun L2 H2 s2 R2 => ?_)
    refine seq_set (row_cat (D := Err K) (one := one) (two := two) (m := 15) (c := 6) mo rfl rfl rfl R2 (by decide) fun L3 H3 s3 R3 => ?_)
    refine seq_set (row_cat (D := Err K) (one := one) (two := two) (m := 21) (c := 5) mo rfl rfl rfl R3 (by decide) fun L4 H4 s4 R4 => ?_)
    refine ret_in (row_cat (D := Err K) (one := one) (two := two) (m := 26) (c := 1) mo rfl rfl rfl R4 (by decide) fun L5 H5 s5 R5 => ?_)
    exact k L5 H5 (same_trans s0 (same_trans s1 (same_trans s2 (same_trans s3 (same_trans s4 s5))))) R5
end
end K01
set_option Elab.async false
set_option linter.all false
set_option maxRecDepth 100000
set_option maxHeartbeats 4000000
namespace K01
open PySem PySem.Spec PyProof.Rows L2 Gd Erl He PySem.Erx
/-! ### the fields read -/
section
variable {P : Program} {K : PySem.W.Frag} {mg : Str → Option Value} {one two : V} {i : Nat} {e : Addr} {σ : L2.St} {H : Hp} {Q : VK} {f g : Str}
theorem readF (Z : Cf P K mg) (hi : i < 27) (hf : flds i = [f]) (E : Err K H one two i e) (h0 : σ[0]? = some (some (.ref e))) (k : ∀ l, H l = none → Q (.ref l) (upd H l (.lst [one]))) : tLst (tCons (tErrF K (tVar 0) f) tNil) σ H Q := by
  rcases E with ⟨h1, _⟩ | ⟨d, h1, h2⟩
  · rw [hf] at h1
    cases h1
  · have vv : vals i one two = [one] := by
      unfold vals
      rw [hf]
    rw [hf, vv] at h2
    exact ⟨_, h0, e, cA K i, d, _, one, rfl, h1, h2, Z.ec i hi, Z.no i hi f (by rw [hf]; exact List.mem_cons_self ..), by simp [List.lookup], by show 1 ≤ sizeLine; rw [sizeLine_eq]; decide, fun l nl => k l nl⟩
theorem read2 (Z : Cf P K mg) (hi : i < 27) (hf : flds i = [f, g]) (hfg : (g == f) = false) (E : Err K H one two i e) (h0 : σ[0]? = some (some (.ref e))) (k : ∀ l, H l = none → Q (.ref l) (upd H l (.lst [one, two]))) : tLst (tCons (tErrF K (tVar 0) f) (tCons (tErrF K (tVar 0) g) tNil)) σ H Q := by
  rcases E with ⟨h1, _⟩ | ⟨d, h1, h2⟩
  · rw [hf] at h1
    cases h1
  · have vv : vals i one two = [one, two] := by
      unfold vals
      rw [hf]
    rw [hf, vv] at h2
    exact ⟨_, h0, e, cA K i, d, _, one, rfl, h1, h2, Z.ec i hi, Z.no i hi f (by rw [hf]; exact List.mem_cons_self ..), by simp [List.lookup], _, h0, e, cA K i, d, _, two, rfl, h1, h2, Z.ec i hi, Z.no i hi g (by rw [hf]; exact List.mem_cons_of_mem _ (List.mem_cons_self ..)), by simp [List.lookup, hfg], by show 2 ≤ sizeLine; rw [sizeLine_eq]; decide, fun l nl => k l nl⟩
end
abbrev sFields : Stmt := top 36
theorem scF : FnScope ["_law_error", "_law_names"] ["_law_error", "_law_names"] (defScope sFields) := ⟨rfl, rfl, rfl, by decide +kernel, rfl, by decide +kernel, by decide +kernel⟩
def spFields (K : PySem.W.Frag) : Sp := fun vs H Q _ => ∃ (e : Addr) (i : Nat) (one two : V), vs = [.ref e, .str (nm i)] ∧ i < 27 ∧ Err K H one two i e ∧ ∀ l H', Same H H' → H' l = some (.lst (vals i one two)) → Q (.ref l) H'
section
variable {P : Program} {w : World} {K : PySem.W.Frag} {mg : Str → Option Value} {base : Heap} {f : Addr} {fd : FuncData}
theorem ok_fields (F : FnP K "_law_fields" sFields f fd) (Z : Cf P K mg) : FnOk P w K mg base CX0 1 f fd ["_law_error", "_law_names"] (spFields K) := by
  refine F.ok scF (fun vs H Q E h => ?_) (fun cdv A outer s H vs Q E0 hr h => ?_)
  · obtain ⟨e, i, one, two, rfl, _⟩ := h
    rfl
  · obtain ⟨e, i, one, two, rfl, hi, E, k⟩ := h
    refine ⟨_, PSs.nox
      (pss_cons (ps_if (pt_cmpR op_eq (pv 1) pe_str (nomark _)) (pss_one (ps_ret (pe_lst (pa_cons (pe_errF (pv 0)) (pa_cons (pe_errF (pv 0)) pa_nil))))) pss_nil)
      (pss_cons (ps_if (pt_cmpR op_eq (pv 1) pe_str (nomark _)) (pss_one (ps_ret (pe_lst (pa_cons (pe_errF (pv 0)) (pa_cons (pe_errF (pv 0)) pa_nil))))) pss_nil)
      (pss_cons (ps_if (pt_cmpR op_in_seq (pv 1) (pe_tup (pa_cons pe_str (pa_cons pe_str pa_nil))) (by with_unfolding_all rfl)) (pss_one (ps_ret (pe_ifExp (pt_cmpR op_eq (pv 1) pe_str (nomark _)) (pe_lst (pa_cons (pe_errF (pv 0)) pa_nil)) (pe_lst (pa_cons (pe_errF (pv 0)) pa_nil))))) pss_nil)
      (pss_cons (ps_if (pt_cmpR op_in_seq (pv 1) (pe_tup (pa_cons pe_str (pa_cons pe_str pa_nil))) (by with_unfolding_all rfl)) (pss_one (ps_ret (pe_ifExp (pt_cmpR op_eq (pv 1) pe_str (nomark _)) (pe_lst (pa_cons (pe_errF (pv 0)) pa_nil)) (pe_lst (pa_cons (pe_errF (pv 0)) pa_nil))))) pss_nil)
      (pss_cons (ps_if (pt_cmpR op_in_seq (pv 1) (pe_tup (pa_cons pe_str (pa_cons pe_str pa_nil))) (by with_unfolding_all rfl)) (pss_one (ps_ret (pe_ifExp (pt_cmpR op_eq (pv 1) pe_str (nomark _)) (pe_lst (pa_cons (pe_errF (pv 0)) pa_nil)) (pe_lst (pa_cons (pe_errF (pv 0)) pa_nil))))) pss_nil)
      (pss_one (ps_ret (pe_lst pa_nil)))))))), ?_⟩
    have all : i = 0 ∨ i = 1 ∨ i = 2 ∨ i = 3 ∨ i = 4 ∨ i = 5 ∨ i = 6 ∨ i = 7 ∨ i = 8 ∨ i = 9 ∨ i = 10 ∨ i = 11 ∨ i = 12 ∨ i = 13 ∨ i = 14 ∨ i = 15 ∨ i = 16 ∨ i = 17 ∨ i = 18 ∨ i = 19 ∨ i = 20 ∨ i = 21 ∨ i = 22 ∨ i = 23 ∨ i = 24 ∨ i = 25 ∨ i = 26 := by omega
    rcases all with rfl | rfl | rfl | rfl | rfl | rfl | rfl | rfl | rfl | rfl | rfl | rfl | rfl | rfl | rfl | rfl | rfl | rfl | rfl | rfl | rfl | rfl | rfl | rfl | rfl | rfl | rfl
    · refine ⟨_, rfl, rfl, _, rfl, ifF (by decide) ?_⟩
      refine ⟨_, rfl, rfl, _, rfl, ifF (by decide) ?_⟩
      refine ⟨_, rfl, (by show 2 ≤ sizeLine; rw [sizeLine_eq]; decide), fun t0 n0 => ⟨t0, _, rfl, .inr (SqT.of upd_same), rfl, rfl, _, rfl, ifT (by decide) ?_⟩⟩
      have s0 := same_upd (o := .tup [.str "value", .str "part"]) n0
      refine ⟨_, rfl, rfl, _, rfl, ifT (by decide) ?_⟩
      exact readF Z (by decide) rfl (E.same s0) rfl fun l nl => k l _ (same_trans s0 (same_upd nl)) upd_same
    · refine ⟨_, rfl, rfl, _, rfl, ifF (by decide) ?_⟩
      refine ⟨_, rfl, rfl, _, rfl, ifF (by decide) ?_⟩
      refine ⟨_, rfl, (by show 2 ≤ sizeLine; rw [sizeLine_eq]; decide), fun t0 n0 => ⟨t0, _, rfl, .inr (SqT.of upd_same), rfl, rfl, _, rfl, ifT (by decide) ?_⟩⟩
      have s0 := same_upd (o := .tup [.str "value", .str "part"]) n0
      refine ⟨_, rfl, rfl, _, rfl, ifT (by decide) ?_⟩
      exact readF Z (by decide) rfl (E.same s0) rfl fun l nl => k l _ (same_trans s0 (same_upd nl)) upd_same
    · refine ⟨_, rfl, rfl, _, rfl, ifF (by decide) ?_⟩
      refine ⟨_, rfl, rfl, _, rfl, ifF (by decide) ?_⟩
      refine ⟨_, rfl, (by show 2 ≤ sizeLine; rw [sizeLine_eq]; decide), fun t0 n0 => ⟨t0, _, rfl, .inr (SqT.of upd_same), rfl, rfl, _, rfl, ifT (by decide) ?_⟩⟩
      have s0 := same_upd (o := .tup [.str "value", .str "part"]) n0
      refine ⟨_, rfl, rfl, _, rfl, ifF (by decide) ?_⟩
      exact readF Z (by decide) rfl (E.same s0) rfl fun l nl => k l _ (same_trans s0 (same_upd nl)) upd_same
    · refine ⟨_, rfl, rfl, _, rfl, ifF (by decide) ?_⟩
      refine ⟨_, rfl, rfl, _, rfl, ifF (by decide) ?_⟩
      refine ⟨_, rfl, (by show 2 ≤ sizeLine; rw [sizeLine_eq]; decide), fun t0 n0 => ⟨t0, _, rfl, .inr (SqT.of upd_same), rfl, rfl, _, rfl, ifT (by decide) ?_⟩⟩
      have s0 := same_upd (o := .tup [.str "value", .str "part"]) n0
      refine ⟨_, rfl, rfl, _, rfl, ifT (by decide) ?_⟩
      exact readF Z (by decide) rfl (E.same s0) rfl fun l nl => k l _ (same_trans s0 (same_upd nl)) upd_same
    · refine ⟨_, rfl, rfl, _, rfl, ifT (by decide) ?_⟩
      exact read2 Z (by decide) rfl (by decide) E rfl fun l nl => k l _ (same_upd nl) upd_same
    · refine ⟨_, rfl, rfl, _, rfl, ifF (by decide) ?_⟩
      refine ⟨_, rfl, rfl, _, rfl, ifF (by decide) ?_⟩
      refine ⟨_, rfl, (by show 2 ≤ sizeLine; rw [sizeLine_eq]; decide), fun t0 n0 => ⟨t0, _, rfl, .inr (SqT.of upd_same), rfl, rfl, _, rfl, ifT (by decide) ?_⟩⟩
      have s0 := same_upd (o := .tup [.str "value", .str "part"]) n0
      refine ⟨_, rfl, rfl, _, rfl, ifT (by decide) ?_⟩
      exact readF Z (by decide) rfl (E.same s0) rfl fun l nl => k l _ (same_trans s0 (same_upd nl)) upd_same
    · refine ⟨_, rfl, rfl, _, rfl, ifF (by decide) ?_⟩
      refine ⟨_, rfl, rfl, _, rfl, ifF (by decide) ?_⟩
      refine ⟨_, rfl, (by show 2 ≤ sizeLine; rw [sizeLine_eq]; decide), fun t0 n0 => ⟨t0, _, rfl, .inr (SqT.of upd_same), rfl, rfl, _, rfl, ifT (by decide) ?_⟩⟩
      have s0 := same_upd (o := .tup [.str "value", .str "part"]) n0
      refine ⟨_, rfl, rfl, _, rfl, ifT (by decide) ?_⟩
      exact readF Z (by decide) rfl (E.same s0) rfl fun l nl => k l _ (same_trans s0 (same_upd nl)) upd_same
    · refine ⟨_, rfl, rfl, _, rfl, ifF (by decide) ?_⟩
      refine ⟨_, rfl, rfl, _, rfl, ifF (by decide) ?_⟩
      refine ⟨_, rfl, (by show 2 ≤ sizeLine; rw [sizeLine_eq]; decide), fun t0 n0 => ⟨t0, _, rfl, .inr (SqT.of upd_same), rfl, rfl, _, rfl, ifT (by decide) ?_⟩⟩
      have s0 := same_upd (o := .tup [.str "value", .str "part"]) n0
      refine ⟨_, rfl, rfl, _, rfl, ifF (by decide) ?_⟩
      exact readF Z (by decide) rfl (E.same s0) rfl fun l nl => k l _ (same_trans s0 (same_upd nl)) upd_same
    · refine ⟨_, rfl, rfl, _, rfl, ifF (by decide) ?_⟩
      refine ⟨_, rfl, rfl, _, rfl, ifF (by decide) ?_⟩
      refine ⟨_, rfl, (by show 2 ≤ sizeLine; rw [sizeLine_eq]; decide), fun t0 n0 => ⟨t0, _, rfl, .inr (SqT.of upd_same), rfl, rfl, _, rfl, ifT (by decide) ?_⟩⟩
      have s0 := same_upd (o := .tup [.str "value", .str "part"]) n0
      refine ⟨_, rfl, rfl, _, rfl, ifF (by decide) ?_⟩
      exact readF Z (by decide) rfl (E.same s0) rfl fun l nl => k l _ (same_trans s0 (same_upd nl)) upd_same
    · refine ⟨_, rfl, rfl, _, rfl, ifF (by decide) ?_⟩
      refine ⟨_, rfl, rfl, _, rfl, ifF (by decide) ?_⟩
      refine ⟨_, rfl, (by show 2 ≤ sizeLine; rw [sizeLine_eq]; decide), fun t0 n0 => ⟨t0, _, rfl, .inr (SqT.of upd_same), rfl, rfl, _, rfl, ifT (by decide) ?_⟩⟩
      have s0 := same_upd (o := .tup [.str "value", .str "part"]) n0
      refine ⟨_, rfl, rfl, _, rfl, ifT (by decide) ?_⟩
      exact readF Z (by decide) rfl (E.same s0) rfl fun l nl => k l _ (same_trans s0 (same_upd nl)) upd_same
    · refine ⟨_, rfl, rfl, _, rfl, ifF (by decide) ?_⟩
      refine ⟨_, rfl, rfl, _, rfl, ifF (by decide) ?_⟩
      refine ⟨_, rfl, (by show 2 ≤ sizeLine; rw [sizeLine_eq]; decide), fun t0 n0 => ⟨t0, _, rfl, .inr (SqT.of upd_same), rfl, rfl, _, rfl, ifT (by decide) ?_⟩⟩
      have s0 := same_upd (o := .tup [.str "value", .str "part"]) n0
      refine ⟨_, rfl, rfl, _, rfl, ifF (by decide) ?_⟩
      exact readF Z (by decide) rfl (E.same s0) rfl fun l nl => k l _ (same_trans s0 (same_upd nl)) upd_same
    · refine ⟨_, rfl, rfl, _, rfl, ifF (by decide) ?_⟩
      refine ⟨_, rfl, rfl, _, rfl, ifF (by decide) ?_⟩
      refine ⟨_, rfl, (by show 2 ≤ sizeLine; rw [sizeLine_eq]; decide), fun t0 n0 => ⟨t0, _, rfl, .inr (SqT.of upd_same), rfl, rfl, _, rfl, ifT (by decide) ?_⟩⟩
      have s0 := same_upd (o := .tup [.str "value", .str "part"]) n0
      refine ⟨_, rfl, rfl, _, rfl, ifF (by decide) ?_⟩
      exact readF Z (by decide) rfl (E.same s0) rfl fun l nl => k l _ (same_trans s0 (same_upd nl)) upd_same
    · refine ⟨_, rfl, rfl, _, rfl, ifF (by decide) ?_⟩
      refine ⟨_, rfl, rfl, _, rfl, ifF (by decide) ?_⟩
      refine ⟨_, rfl, (by show 2 ≤ sizeLine; rw [sizeLine_eq]; decide), fun t0 n0 => ⟨t0, _, rfl, .inr (SqT.of upd_same), rfl, rfl, _, rfl, ifT (by decide) ?_⟩⟩
      have s0 := same_upd (o := .tup [.str "value", .str "part"]) n0
      refine ⟨_, rfl, rfl, _, rfl, ifF (by decide) ?_⟩
      exact readF Z (by decide) rfl (E.same s0) rfl fun l nl => k l _ (same_trans s0 (same_upd nl)) upd_same
    · refine ⟨_, rfl, rfl, _, rfl, ifF (by decide) ?_⟩
      refine ⟨_, rfl, rfl, _, rfl, ifF (by decide) ?_⟩
      refine ⟨_, rfl, (by show 2 ≤ sizeLine; rw [sizeLine_eq]; decide), fun t0 n0 => ⟨t0, _, rfl, .inr (SqT.of upd_same), rfl, rfl, _, rfl, ifT (by decide) ?_⟩⟩
      have s0 := same_upd (o := .tup [.str "value", .str "part"]) n0
      refine ⟨_, rfl, rfl, _, rfl, ifF (by decide) ?_⟩
      exact readF Z (by decide) rfl (E.same s0) rfl fun l nl => k l _ (same_trans s0 (same_upd nl)) upd_same
    · refine ⟨_, rfl, rfl, _, rfl, ifF (by decide) ?_⟩
      refine ⟨_, rfl, rfl, _, rfl, ifF (by decide) ?_⟩
      refine ⟨_, rfl, (by show 2 ≤ sizeLine; rw [sizeLine_eq]; decide), fun t0 n0 => ⟨t0, _, rfl, .inr (SqT.of upd_same), rfl, rfl, _, rfl, ifT (by decide) ?_⟩⟩
      have s0 := same_upd (o := .tup [.str "value", .str "part"]) n0
      refine ⟨_, rfl, rfl, _, rfl, ifT (by decide) ?_⟩
      exact readF Z (by decide) rfl (E.same s0) rfl fun l nl => k l _ (same_trans s0 (same_upd nl)) upd_same
    · refine ⟨_, rfl, rfl, _, rfl, ifF (by decide) ?_⟩
      refine ⟨_, rfl, rfl, _, rfl, ifF (by decide) ?_⟩
      refine ⟨_, rfl, (by show 2 ≤ sizeLine; rw [sizeLine_eq]; decide), fun t0 n0 => ⟨t0, _, rfl, .inr (SqT.of upd_same), rfl, rfl, _, rfl, ifT (by decide) ?_⟩⟩
      have s0 := same_upd (o := .tup [.str "value", .str "part"]) n0
      refine ⟨_, rfl, rfl, _, rfl, ifT (by decide) ?_⟩
      exact readF Z (by decide) rfl (E.same s0) rfl fun l nl => k l _ (same_trans s0 (same_upd nl)) upd_same
    · refine ⟨_, rfl, rfl, _, rfl, ifF (by decide) ?_⟩
      refine ⟨_, rfl, rfl, _, rfl, ifF (by decide) ?_⟩
      refine ⟨_, rfl, (by show 2 ≤ sizeLine; rw [sizeLine_eq]; decide), fun t0 n0 => ⟨t0, _, rfl, .inr (SqT.of upd_same), rfl, rfl, _, rfl, ifT (by decide) ?_⟩⟩
      have s0 := same_upd (o := .tup [.str "value", .str "part"]) n0
      refine ⟨_, rfl, rfl, _, rfl, ifF (by decide) ?_⟩
      exact readF Z (by decide) rfl (E.same s0) rfl fun l nl => k l _ (same_trans s0 (same_upd nl)) upd_same
    · refine ⟨_, rfl, rfl, _, rfl, ifF (by decide) ?_⟩
      refine ⟨_, rfl, rfl, _, rfl, ifF (by decide) ?_⟩
      refine ⟨_, rfl, (by show 2 ≤ sizeLine; rw [sizeLine_eq]; decide), fun t0 n0 => ⟨t0, _, rfl, .inr (SqT.of upd_same), rfl, rfl, _, rfl, ifT (by decide) ?_⟩⟩
      have s0 := same_upd (o := .tup [.str "value", .str "part"]) n0
      refine ⟨_, rfl, rfl, _, rfl, ifF (by decide) ?_⟩
      exact readF Z (by decide) rfl (E.same s0) rfl fun l nl => k l _ (same_trans s0 (same_upd nl)) upd_same
    · refine ⟨_, rfl, rfl, _, rfl, ifF (by decide) ?_⟩
      refine ⟨_, rfl, rfl, _, rfl, ifF (by decide) ?_⟩
      refine ⟨_, rfl, (by show 2 ≤ sizeLine; rw [sizeLine_eq]; decide), fun t0 n0 => ⟨t0, _, rfl, .inr (SqT.of upd_same), rfl, rfl, _, rfl, ifT (by decide) ?_⟩⟩
      have s0 := same_upd (o := .tup [.str "value", .str "part"]) n0
      refine ⟨_, rfl, rfl, _, rfl, ifF (by decide) ?_⟩
      exact readF Z (by decide) rfl (E.same s0) rfl fun l nl => k l _ (same_trans s0 (same_upd nl)) upd_same
    · refine ⟨_, rfl, rfl, _, rfl, ifF (by decide) ?_⟩
      refine ⟨_, rfl, rfl, _, rfl, ifF (by decide) ?_⟩
      refine ⟨_, rfl, (by show 2 ≤ sizeLine; rw [sizeLine_eq]; decide), fun t0 n0 => ⟨t0, _, rfl, .inr (SqT.of upd_same), rfl, rfl, _, rfl, ifF (by decide) ?_⟩⟩
      have s0 := same_upd (o := .tup [.str "value", .str "part"]) n0
      refine ⟨_, rfl, (by show 2 ≤ sizeLine; rw [sizeLine_eq]; decide), fun t1 n1 => ⟨t1, _, rfl, .inr (SqT.of upd_same), rfl, rfl, _, rfl, ifT (by decide) ?_⟩⟩
      have s1 := same_upd (o := .tup [.str "word", .str "most"]) n1
      refine ⟨_, rfl, rfl, _, rfl, ifT (by decide) ?_⟩
      exact readF Z (by decide) rfl (E.same (same_trans s0 s1)) rfl fun l nl => k l _ (same_trans (same_trans s0 s1) (same_upd nl)) upd_same
    · refine ⟨_, rfl, rfl, _, rfl, ifF (by decide) ?_⟩
      refine ⟨_, rfl, rfl, _, rfl, ifF (by decide) ?_⟩
      refine ⟨_, rfl, (by show 2 ≤ sizeLine; rw [sizeLine_eq]; decide), fun t0 n0 => ⟨t0, _, rfl, .inr (SqT.of upd_same), rfl, rfl, _, rfl, ifF (by decide) ?_⟩⟩
      have s0 := same_upd (o := .tup [.str "value", .str "part"]) n0
      refine ⟨_, rfl, (by show 2 ≤ sizeLine; rw [sizeLine_eq]; decide), fun t1 n1 => ⟨t1, _, rfl, .inr (SqT.of upd_same), rfl, rfl, _, rfl, ifF (by decide) ?_⟩⟩
      have s1 := same_upd (o := .tup [.str "word", .str "most"]) n1
      refine ⟨_, rfl, (by show 2 ≤ sizeLine; rw [sizeLine_eq]; decide), fun t2 n2 => ⟨t2, _, rfl, .inr (SqT.of upd_same), rfl, rfl, _, rfl, ifT (by decide) ?_⟩⟩
      have s2 := same_upd (o := .tup [.str "end", .str "at"]) n2
      refine ⟨_, rfl, rfl, _, rfl, ifT (by decide) ?_⟩
      exact readF Z (by decide) rfl (E.same (same_trans (same_trans s0 s1) s2)) rfl fun l nl => k l _ (same_trans (same_trans (same_trans s0 s1) s2) (same_upd nl)) upd_same
    · refine ⟨_, rfl, rfl, _, rfl, ifF (by decide) ?_⟩
      refine ⟨_, rfl, rfl, _, rfl, ifT (by decide) ?_⟩
      exact read2 Z (by decide) rfl (by decide) E rfl fun l nl => k l _ (same_upd nl) upd_same
    · refine ⟨_, rfl, rfl, _, rfl, ifF (by decide) ?_⟩
      refine ⟨_, rfl, rfl, _, rfl, ifF (by decide) ?_⟩
      refine ⟨_, rfl, (by show 2 ≤ sizeLine; rw [sizeLine_eq]; decide), fun t0 n0 => ⟨t0, _, rfl, .inr (SqT.of upd_same), rfl, rfl, _, rfl, ifF (by decide) ?_⟩⟩
      have s0 := same_upd (o := .tup [.str "value", .str "part"]) n0
      refine ⟨_, rfl, (by show 2 ≤ sizeLine; rw [sizeLine_eq]; decide), fun t1 n1 => ⟨t1, _, rfl, .inr (SqT.of upd_same), rfl, rfl, _, rfl, ifF (by decide) ?_⟩⟩
      have s1 := same_upd (o := .tup [.str "word", .str "most"]) n1
      refine ⟨_, rfl, (by show 2 ≤ sizeLine; rw [sizeLine_eq]; decide), fun t2 n2 => ⟨t2, _, rfl, .inr (SqT.of upd_same), rfl, rfl, _, rfl, ifT (by decide) ?_⟩⟩
      have s2 := same_upd (o := .tup [.str "end", .str "at"]) n2
      refine ⟨_, rfl, rfl, _, rfl, ifT (by decide) ?_⟩
      exact readF Z (by decide) rfl (E.same (same_trans (same_trans s0 s1) s2)) rfl fun l nl => k l _ (same_trans (same_trans (same_trans s0 s1) s2) (same_upd nl)) upd_same
    · refine ⟨_, rfl, rfl, _, rfl, ifF (by decide) ?_⟩
      refine ⟨_, rfl, rfl, _, rfl, ifF (by decide) ?_⟩
      refine ⟨_, rfl, (by show 2 ≤ sizeLine; rw [sizeLine_eq]; decide), fun t0 n0 => ⟨t0, _, rfl, .inr (SqT.of upd_same), rfl, rfl, _, rfl, ifF (by decide) ?_⟩⟩
      have s0 := same_upd (o := .tup [.str "value", .str "part"]) n0
      refine ⟨_, rfl, (by show 2 ≤ sizeLine; rw [sizeLine_eq]; decide), fun t1 n1 => ⟨t1, _, rfl, .inr (SqT.of upd_same), rfl, rfl, _, rfl, ifT (by decide) ?_⟩⟩
      have s1 := same_upd (o := .tup [.str "word", .str "most"]) n1
      refine ⟨_, rfl, rfl, _, rfl, ifF (by decide) ?_⟩
      exact readF Z (by decide) rfl (E.same (same_trans s0 s1)) rfl fun l nl => k l _ (same_trans (same_trans s0 s1) (same_upd nl)) upd_same
    · refine ⟨_, rfl, rfl, _, rfl, ifF (by decide) ?_⟩
      refine ⟨_, rfl, rfl, _, rfl, ifF (by decide) ?_⟩
      refine ⟨_, rfl, (by show 2 ≤ sizeLine; rw [sizeLine_eq]; decide), fun t0 n0 => ⟨t0, _, rfl, .inr (SqT.of upd_same), rfl, rfl, _, rfl, ifF (by decide) ?_⟩⟩
      have s0 := same_upd (o := .tup [.str "value", .str "part"]) n0
      refine ⟨_, rfl, (by show 2 ≤ sizeLine; rw [sizeLine_eq]; decide), fun t1 n1 => ⟨t1, _, rfl, .inr (SqT.of upd_same), rfl, rfl, _, rfl, ifF (by decide) ?_⟩⟩
      have s1 := same_upd (o := .tup [.str "word", .str "most"]) n1
      refine ⟨_, rfl, (by show 2 ≤ sizeLine; rw [sizeLine_eq]; decide), fun t2 n2 => ⟨t2, _, rfl, .inr (SqT.of upd_same), rfl, rfl, _, rfl, ifT (by decide) ?_⟩⟩
      have s2 := same_upd (o := .tup [.str "end", .str "at"]) n2
      refine ⟨_, rfl, rfl, _, rfl, ifT (by decide) ?_⟩
      exact readF Z (by decide) rfl (E.same (same_trans (same_trans s0 s1) s2)) rfl fun l nl => k l _ (same_trans (same_trans (same_trans s0 s1) s2) (same_upd nl)) upd_same
    · refine ⟨_, rfl, rfl, _, rfl, ifF (by decide) ?_⟩
      refine ⟨_, rfl, rfl, _, rfl, ifF (by decide) ?_⟩
      refine ⟨_, rfl, (by show 2 ≤ sizeLine; rw [sizeLine_eq]; decide), fun t0 n0 => ⟨t0, _, rfl, .inr (SqT.of upd_same), rfl, rfl, _, rfl, ifF (by decide) ?_⟩⟩
      have s0 := same_upd (o := .tup [.str "value", .str "part"]) n0
      refine ⟨_, rfl, (by show 2 ≤ sizeLine; rw [sizeLine_eq]; decide), fun t1 n1 => ⟨t1, _, rfl, .inr (SqT.of upd_same), rfl, rfl, _, rfl, ifF (by decide) ?_⟩⟩
      have s1 := same_upd (o := .tup [.str "word", .str "most"]) n1
      refine ⟨_, rfl, (by show 2 ≤ sizeLine; rw [sizeLine_eq]; decide), fun t2 n2 => ⟨t2, _, rfl, .inr (SqT.of upd_same), rfl, rfl, _, rfl, ifT (by decide) ?_⟩⟩
      have s2 := same_upd (o := .tup [.str "end", .str "at"]) n2
      refine ⟨_, rfl, rfl, _, rfl, ifF (by decide) ?_⟩
      exact readF Z (by decide) rfl (E.same (same_trans (same_trans s0 s1) s2)) rfl fun l nl => k l _ (same_trans (same_trans (same_trans s0 s1) s2) (same_upd nl)) upd_same
    · refine ⟨_, rfl, rfl, _, rfl, ifF (by decide) ?_⟩
      refine ⟨_, rfl, rfl, _, rfl, ifF (by decide) ?_⟩
      refine ⟨_, rfl, (by show 2 ≤ sizeLine; rw [sizeLine_eq]; decide), fun t0 n0 => ⟨t0, _, rfl, .inr (SqT.of upd_same), rfl, rfl, _, rfl, ifF (by decide) ?_⟩⟩
      have s0 := same_upd (o := .tup [.str "value", .str "part"]) n0
      refine ⟨_, rfl, (by show 2 ≤ sizeLine; rw [sizeLine_eq]; decide), fun t1 n1 => ⟨t1, _, rfl, .inr (SqT.of upd_same), rfl, rfl, _, rfl, ifF (by decide) ?_⟩⟩
      have s1 := same_upd (o := .tup [.str "word", .str "most"]) n1
      refine ⟨_, rfl, (by show 2 ≤ sizeLine; rw [sizeLine_eq]; decide), fun t2 n2 => ⟨t2, _, rfl, .inr (SqT.of upd_same), rfl, rfl, _, rfl, ifF (by decide) ?_⟩⟩
      have s2 := same_upd (o := .tup [.str "end", .str "at"]) n2
      exact ⟨Nat.zero_le _, fun l nl => k l _ (same_trans (same_trans (same_trans s0 s1) s2) (same_upd nl)) upd_same⟩
end
end K01
set_option Elab.async false
set_option linter.all false
set_option maxRecDepth 100000
set_option maxHeartbeats 4000000
namespace K01
open PySem PySem.Spec PyProof.Rows L2 Gd Erl He PySem.Erx
/-! ### of which classes an error is -/
theorem errAt_same {H H' : Hp} {e C : Addr} (h : ErrAt H e C) (s : Same H H') : ErrAt H' e C := by
  rcases h with h | ⟨d, fs, h1, h2⟩
  · exact .inl (s _ _ h)
  · exact .inr ⟨d, fs, s _ _ h1, s _ _ h2⟩
theorem _root_.Erl.ErrAt.same {H H' : Hp} {e C : Addr} (h : ErrAt H e C) (s : Same H H') : ErrAt H' e C := errAt_same h s
def bls (i m c : Nat) : List V := (List.range c).map fun k => V.bl (decide (i = m + k))
def tIsi (K : PySem.W.Frag) (j : Nat) : TE := fun σ H Q => ∃ e i, σ[0]? = some (some (.ref e)) ∧ i < 27 ∧ ErrAt H e (cA K i) ∧ Q (.bl (decide (i = j))) H
def tBls (K : PySem.W.Frag) (m c : Nat) : TA := fun σ H Q => ∃ e i, σ[0]? = some (some (.ref e)) ∧ i < 27 ∧ ErrAt H e (cA K i) ∧ Q (bls i m c) H
section
variable {X : Cx} {p p2 p3 pos : Pos} {x n1 : Str} {j : Nat} {e : Expr} {es : List Expr}
theorem isiE (Z : Cf X.prog X.K X.mg) (T : Blt X.mg) (hj : j < 27) (hx : cls j = x) (hg : Gl X "isinstance") (hgx : Gl X x) (v0 : PE X (.Name n1 p2) (tVar 0)) (hd : (x == ("__debug__" : Str)) = false) : PE X (.Call (.Name "isinstance" p) [.Name n1 p2, .Name x p3] [] pos) (tIsi X.K j) := by
  have e1 := Z.g j hj
  rw [hx] at e1
  refine pe_imp (pe_callB call_isiE hg T.isi boot_isinstance (pa_cons v0 (pa_cons (pe_glob (v := .ref (cA X.K j)) hgx e1 rfl hd) pa_nil))) fun σ H Q ⟨e, i, h0, hi, ha, k⟩ => ?_
  exact ⟨_, h0, e, cA X.K i, _, _, _, rfl, ha, Z.ec i hi, .own _, Z.kit i j hi hj, k⟩
theorem bls_nil {m : Nat} : PA X [] (tBls X.K m 0) := pa_imp pa_nil fun σ H Q ⟨e, i, h0, hi, ha, k⟩ => k
theorem bls_cons {m c : Nat} (he : PE X e (tIsi X.K m)) (hs : PA X es (tBls X.K (m + 1) c)) (hst : starEach (e :: es) X.env = (false, eval e X.env) :: starEach es X.env := by rfl) : PA X (e :: es) (tBls X.K m (c + 1)) :=
  pa_imp (pa_cons he hs hst) fun σ H Q ⟨e, i, h0, hi, ha, k⟩ => ⟨e, i, h0, hi, ha, e, i, h0, hi, ha, by
    have q : V.bl (decide (i = m)) :: bls i (m + 1) c = bls i m (c + 1) := by
      unfold bls
      rw [List.range_succ_eq_map, List.map_cons, List.map_map]
      congr 1
      apply List.map_congr_left
      intro k _
      show V.bl (decide (i = m + 1 + k)) = V.bl (decide (i = m + (k + 1)))
      rw [show m + 1 + k = m + (k + 1) by omega]
    show Q (V.bl (decide (i = m)) :: bls i (m + 1) c) H
    rw [q]
    exact k⟩
end
theorem bls_app (i m c : Nat) : bls i 0 m ++ bls i m c = bls i 0 (m + c) := by
  unfold bls
  rw [List.range_add, List.map_append, List.map_map]
  congr 1
  apply List.map_congr_left
  intro k _
  show V.bl (decide (i = m + k)) = V.bl (decide (i = 0 + (m + k)))
  rw [Nat.zero_add]
theorem bls_len (i m c : Nat) : (bls i m c).length = c := by simp [bls]
section
variable {K : PySem.W.Frag} {e : Addr} {i m c : Nat} {L : Addr} {σ : L2.St} {H : Hp} {Q : VK}
theorem bl_first (h0 : σ[0]? = some (some (.ref e))) (hi : i < 27) (ha : ErrAt H e (cA K i)) (hc : c ≤ 100) (k : ∀ L H', Same H H' → H' L = some (.lst (bls i 0 c)) → Q (.ref L) H') : tLst (tBls K 0 c) σ H Q :=
  ⟨e, i, h0, hi, ha, by rw [bls_len, sizeLine_eq]; omega, fun p np => k p _ (same_upd np) upd_same⟩
theorem bl_cat (h0 : σ[0]? = some (some (.ref e))) (h1 : σ[1]? = some (some (.ref L))) (hi : i < 27) (ha : ErrAt H e (cA K i)) (hL : H L = some (.lst (bls i 0 m))) (hc : m + c ≤ 100) (k : ∀ L H', Same H H' → H' L = some (.lst (bls i 0 (m + c))) → Q (.ref L) H') :
    tOp rCat (tVar 1) (tLst (tBls K m c)) σ H Q := by
  refine ⟨_, h1, e, i, h0, hi, ha, by rw [bls_len, sizeLine_eq]; omega, fun p np => ?_⟩
  have s2 := same_upd (o := .lst (bls i m c)) np
  refine ⟨L, p, _, _, rfl, rfl, s2 _ _ hL, upd_same, by rw [bls_len, bls_len, sizeLine_eq]; omega, fun q nq => ?_⟩
  rw [bls_app]
  exact k q _ (same_trans s2 (same_upd nq)) upd_same
end
abbrev sCls : Stmt := top 37
theorem scC : FnScope ["_law_error", "_law_told", "_law_spot"] ["_law_error"] (defScope sCls) := ⟨rfl, rfl, rfl, by decide +kernel, rfl, by decide +kernel, by decide +kernel⟩
def spCls (K : PySem.W.Frag) : Sp := fun vs H Q _ => ∃ (e : Addr) (i : Nat), vs = [.ref e] ∧ i < 27 ∧ ErrAt H e (cA K i) ∧ ∀ l H', Same H H' → H' l = some (.lst [.int i]) → Q (.ref l) H'
theorem bls_at {i j : Nat} (h : j < 27) : atI (bls i 0 27) (0 + (j : Int)) = some (.bl (decide (i = j))) := by
  unfold atI ixN
  rw [bls_len, if_pos (by omega), if_pos (by omega)]
  have e : (0 + (j : Int)).toNat = j := by omega
  rw [e]
  simp [bls, h]
section
variable {P : Program} {w : World} {K : PySem.W.Frag} {mg : Str → Option Value} {base : Heap} {f : Addr} {fd : FuncData}
theorem ok_cls (F : FnP K "_law_classes" sCls f fd) (T : Blt mg) (Z : Cf P K mg) : FnOk P w K mg base CX0 1 f fd ["_law_error"] (spCls K) := by
  refine F.ok scC (fun vs H Q E h => ?_) (fun cdv A outer s H vs Q E0 hr h => ?_)
  · obtain ⟨e, i, rfl, _⟩ := h
    rfl
  · obtain ⟨e, i, rfl, hi, EA, k⟩ := h
    refine ⟨(tSeq (tAsg (tLst (tBls K 0 4)) (gName 1)) (tSeq (tAsg (tOp rCat (tVar 1) (tLst (tBls K 4 3))) (gName 1)) (tSeq (tAsg (tOp rCat (tVar 1) (tLst (tBls K 7 3))) (gName 1)) (tSeq (tAsg (tOp rCat (tVar 1) (tLst (tBls K 10 3))) (gName 1)) (tSeq (tAsg (tOp rCat (tVar 1) (tLst (tBls K 13 3))) (gName 1)) (tSeq (tAsg (tOp rCat (tVar 1) (tLst (tBls K 16 2))) (gName 1)) (tSeq (tAsg (tOp rCat (tVar 1) (tLst (tBls K 18 2))) (gName 1)) (tSeq (tAsg (tOp rCat (tVar 1) (tLst (tBls K 20 3))) (gName 1)) (tSeq (tAsg (tOp rCat (tVar 1) (tLst (tBls K 23 3))) (gName 1)) (tRet (tLc (iRng1 (tCons (tC (.int 27)) tNil)) (gName 2) (tB (tOp (rIxL K) (tOp rCat (tVar 1) (tLst (tBls K 26 1))) (tVar 2))) (tVar 2) [2]))))))))))), PSs.nox ?_, ?_⟩
    · exact (pss_cons (ps_set (i := 1) scC.nd rfl (Or.inr rfl) (pe_lst (bls_cons (by exact (isiE (j := 0) Z T (by decide) (by rfl) (by rfl) (by rfl) (pv 0) (by decide))) (bls_cons (by exact (isiE (j := 1) Z T (by decide) (by rfl) (by rfl) (by rfl) (pv 0) (by decide))) (bls_cons (by exact (isiE (j := 2) Z T (by decide) (by rfl) (by rfl) (by rfl) (pv 0) (by decide))) (bls_cons (by exact (isiE (j := 3) Z T (by decide) (by rfl) (by rfl) (by rfl) (pv 0) (by decide))) bls_nil))))))
      (pss_cons (ps_set (i := 1) scC.nd rfl (Or.inr rfl) (pe_op op_cat (pv 1) (pe_lst (bls_cons (by exact (isiE (j := 4) Z T (by decide) (by rfl) (by rfl) (by rfl) (pv 0) (by decide))) (bls_cons (by exact (isiE (j := 5) Z T (by decide) (by rfl) (by rfl) (by rfl) (pv 0) (by decide))) (bls_cons (by exact (isiE (j := 6) Z T (by decide) (by rfl) (by rfl) (by rfl) (pv 0) (by decide))) bls_nil))))))
      (pss_cons (ps_set (i := 1) scC.nd rfl (Or.inr rfl) (pe_op op_cat (pv 1) (pe_lst (bls_cons (by exact (isiE (j := 7) Z T (by decide) (by rfl) (by rfl) (by rfl) (pv 0) (by decide))) (bls_cons (by exact (isiE (j := 8) Z T (by decide) (by rfl) (by rfl) (by rfl) (pv 0) (by decide))) (bls_cons (by exact (isiE (j := 9) Z T (by decide) (by rfl) (by rfl) (by rfl) (pv 0) (by decide))) bls_nil))))))
      (pss_cons (ps_set (i := 1) scC.nd rfl (Or.inr rfl) (pe_op op_cat (pv 1) (pe_lst (bls_cons (by exact (isiE (j := 10) Z T (by decide) (by rfl) (by rfl) (by rfl) (pv 0) (by decide))) (bls_cons (by exact (isiE (j := 11) Z T (by decide) (by rfl) (by rfl) (by rfl) (pv 0) (by decide))) (bls_cons (by exact (isiE (j := 12) Z T (by decide) (by rfl) (by rfl) (by rfl) (pv 0) (by decide))) bls_nil))))))
      (pss_cons (ps_set (i := 1) scC.nd rfl (Or.inr rfl) (pe_op op_cat (pv 1) (pe_lst (bls_cons (by exact (isiE (j := 13) Z T (by decide) (by rfl) (by rfl) (by rfl) (pv 0) (by decide))) (bls_cons (by exact (isiE (j := 14) Z T (by decide) (by rfl) (by rfl) (by rfl) (pv 0) (by decide))) (bls_cons (by exact (isiE (j := 15) Z T (by decide) (by rfl) (by rfl) (by rfl) (pv 0) (by decide))) bls_nil))))))
      (pss_cons (ps_set (i := 1) scC.nd rfl (Or.inr rfl) (pe_op op_cat (pv 1) (pe_lst (bls_cons (by exact (isiE (j := 16) Z T (by decide) (by rfl) (by rfl) (by rfl) (pv 0) (by decide))) (bls_cons (by exact (isiE (j := 17) Z T (by decide) (by rfl) (by rfl) (by rfl) (pv 0) (by decide))) bls_nil)))))
      (pss_cons (ps_set (i := 1) scC.nd rfl (Or.inr rfl) (pe_op op_cat (pv 1) (pe_lst (bls_cons (by exact (isiE (j := 18) Z T (by decide) (by rfl) (by rfl) (by rfl) (pv 0) (by decide))) (bls_cons (by exact (isiE (j := 19) Z T (by decide) (by rfl) (by rfl) (by rfl) (pv 0) (by decide))) bls_nil)))))
      (pss_cons (ps_set (i := 1) scC.nd rfl (Or.inr rfl) (pe_op op_cat (pv 1) (pe_lst (bls_cons (by exact (isiE (j := 20) Z T (by decide) (by rfl) (by rfl) (by rfl) (pv 0) (by decide))) (bls_cons (by exact (isiE (j := 21) Z T (by decide) (by rfl) (by rfl) (by rfl) (pv 0) (by decide))) (bls_cons (by exact (isiE (j := 22) Z T (by decide) (by rfl) (by rfl) (by rfl) (pv 0) (by decide))) bls_nil))))))
      (pss_cons (ps_set (i := 1) scC.nd rfl (Or.inr rfl) (pe_op op_cat (pv 1) (pe_lst (bls_cons (by exact (isiE (j := 23) Z T (by decide) (by rfl) (by rfl) (by rfl) (pv 0) (by decide))) (bls_cons (by exact (isiE (j := 24) Z T (by decide) (by rfl) (by rfl) (by rfl) (pv 0) (by decide))) (bls_cons (by exact (isiE (j := 25) Z T (by decide) (by rfl) (by rfl) (by rfl) (pv 0) (by decide))) bls_nil))))))
      (pss_one (ps_ret (pe_lc (own := [("_law_spot", 2)]) (g := gName 2) (tt := tB (tOp (rIxL K) (tOp rCat (tVar 1) (tLst (tBls K 26 1))) (tVar 2))) rfl scC.nd (pi_range1 rfl T.range (pa_cons pe_int pa_nil)) (blkOk_by (N := ["_law_error", "_law_told", "_law_spot"]) (sc := defScope sCls) (by decide +kernel)) (fun _ _ _ _ _ => pg_name (i := 2) scC.nd rfl (Or.inl rfl)) (fun _ _ _ _ _ => pts_one (pt_val (pe_ix ix_list (pe_op op_cat (pv 1) (pe_lst (bls_cons (by exact (isiE (j := 26) Z T (by decide) (by rfl) (by rfl) (by rfl) (pv 0) (by decide))) bls_nil))) (pv 2) (fun _ _ => rfl)))) (fun _ _ _ _ _ => pv 2)))))))))))))
    refine seq_set (bl_first (e := e) (i := i) (c := 4) rfl hi EA (by decide) fun L0 H0 s0 R0 => ?_)
    refine seq_set (bl_cat (e := e) (i := i) (m := 4) (c := 3) rfl rfl hi (EA.same s0) R0 (by decide) fun L1 H1 s1 R1 => ?_)
    have q1 := same_trans s0 s1
    refine seq_set (bl_cat (e := e) (i := i) (m := 7) (c := 3) rfl rfl hi (EA.same q1) R1 (by decide) fun L2 H2 s2 R2 => ?_)
    have q2 := same_trans q1 s2
    refine seq_set (bl_cat (e := e) (i := i) (m := 10) (c := 3) rfl rfl hi (EA.same q2) R2 (by decide) fun L3 H3 s3 R3 => ?_)
    have q3 := same_trans q2 s3
    refine seq_set (bl_cat (e := e) (i := i) (m := 13) (c := 3) rfl rfl hi (EA.same q3) R3 (by decide) fun L4 H4 s4 R4 => ?_)
    have q4 := same_trans q3 s4
    refine seq_set (bl_cat (e := e) (i := i) (m := 16) (c := 2) rfl rfl hi (EA.same q4) R4 (by decide) fun L5 H5 s5 R5 => ?_)
    have q5 := same_trans q4 s5
    refine seq_set (bl_cat (e := e) (i := i) (m := 18) (c := 2) rfl rfl hi (EA.same q5) R5 (by decide) fun L6 H6 s6 R6 => ?_)
    have q6 := same_trans q5 s6
    refine seq_set (bl_cat (e := e) (i := i) (m := 20) (c := 3) rfl rfl hi (EA.same q6) R6 (by decide) fun L7 H7 s7 R7 => ?_)
    have q7 := same_trans q6 s7
    refine seq_set (bl_cat (e := e) (i := i) (m := 23) (c := 3) rfl rfl hi (EA.same q7) R7 (by decide) fun L8 H8 s8 R8 => ?_)
    have q8 := same_trans q7 s8
    refine ret_in ?_
    refine ⟨27, rfl, by decide, by decide, fun D nD => ?_⟩
    refine lc_range (lo := 0) (n := 27) (fun j H' => Same H8 H' ∧ H' D = some (.lst (if j ≤ i then [] else [.int i]))) ⟨same_upd nD, by rw [if_pos (Nat.zero_le _)]; exact upd_same⟩ ?_ ?_
    · rintro j H' hj ⟨sj, hD⟩
      refine ⟨rfl, ?_⟩
      refine bl_cat (e := e) (i := i) (m := 26) (c := 1) rfl rfl hi (EA.same (same_trans q8 sj)) (sj _ _ R8) (by decide) fun L H2 s2 hL => ?_
      refine ⟨_, rfl, L, _, _, _, rfl, rfl, SqL.of hL, bls_at hj, _, rfl, ?_⟩
      by_cases c : i = j
      · refine ifT (decide_eq_true c) ?_
        subst c
        refine ⟨_, rfl, [], ?_, by show 0 < sizeLine; rw [sizeLine_eq]; decide, ?_⟩
        · have z := s2 _ _ hD
          rw [if_pos (Nat.le_refl _)] at z
          exact z
        · refine ⟨fun b o z => ?_, ?_⟩
          · have z1 := s2 _ _ (sj _ _ z)
            rw [upd_ne (fun q => by
              have y := sj _ _ z
              rw [q] at z
              rw [nD] at z
              cases z)]
            exact z1
          · rw [if_neg (by omega), upd_same]
            show some (HO.lst [V.int (0 + (i : Int))]) = _
            rw [Int.zero_add]
      · refine ifF (decide_eq_false c) ?_
        refine ⟨same_trans sj s2, ?_⟩
        have z := s2 _ _ hD
        have e2 : (if j + 1 ≤ i then ([] : List V) else [.int i]) = if j ≤ i then [] else [.int i] := by
          by_cases h1 : j ≤ i
          · rw [if_pos h1, if_pos (by omega)]
          · rw [if_neg h1, if_neg (by omega)]
        rw [e2]
        exact z
    · rintro H' ⟨sj, hD⟩
      rw [if_neg (by omega)] at hD
      exact k D H' (same_trans q8 sj) hD
end
end K01
set_option Elab.async false
set_option linter.all false
set_option maxRecDepth 100000
set_option maxHeartbeats 4000000
namespace K01
open PySem PySem.Spec PyProof.Rows L2 Gd Erl He PySem.Erx
/-! ### what repr tells of the drawn values -/
theorem Val.dx {K : PySem.W.Frag} {H : Hp} {v : V} {d : PyData} (h : Val H v d) : Dx K H v d ∧ d.showable = true ∧ d.shown.length ≤ 100 ∧ d.depth ≤ 1 := by
  cases h with
  | non => exact ⟨.base .non rfl, rfl, by decide +kernel, Nat.zero_le _⟩
  | bl b => cases b <;> exact ⟨.base (.bl _) rfl, rfl, by decide +kernel, Nat.zero_le _⟩
  | int i h => rcases h with rfl | rfl | rfl <;> exact ⟨.base (.int _) rfl, by decide +kernel, by decide +kernel, Nat.zero_le _⟩
  | str z h => rcases h with rfl | rfl | rfl <;> exact ⟨.base (.str _) rfl, rfl, by decide +kernel, Nat.zero_le _⟩
  | tup0 h => exact ⟨.base (.tup (SqT.of h) .nil) rfl, rfl, by decide +kernel, Nat.le_refl _⟩
  | tup2 h => exact ⟨.base (.tup (SqT.of h) (.cons (.str _) (.cons (.int _) .nil))) rfl, by decide +kernel, by decide +kernel, by decide⟩
  | lst h => exact ⟨.base (.lst (SqL.of h) .nil) rfl, rfl, by decide +kernel, Nat.le_refl _⟩
  | dct h => exact ⟨.ed h, rfl, by decide +kernel, Nat.le_refl _⟩
theorem short1 {t : Str} (h : t.length ≤ 100) : (listText [t]).length ≤ sizeLine := by
  show ((("[" : Str) ++ (if (0 : Nat) > 0 then ", " else "" : String) ++ t) ++ "]").length ≤ sizeLine
  rw [strLen_append, strLen_append, strLen_append, sizeLine_eq]
  have e1 : ("[" : Str).length = 1 := rfl
  have e2 : ("]" : Str).length = 1 := rfl
  have e3 : (Str.ofString (if (0 : Nat) > 0 then ", " else "" : String)).length = 0 := rfl
  omega
theorem short2 {t u : Str} (h : t.length ≤ 100) (h2 : u.length ≤ 100) : (listText [t, u]).length ≤ sizeLine := by
  show (((("[" : Str) ++ (if (0 : Nat) > 0 then ", " else "" : String) ++ t) ++ (if (1 : Nat) > 0 then ", " else "" : String) ++ u) ++ "]").length ≤ sizeLine
  rw [strLen_append, strLen_append, strLen_append, strLen_append, strLen_append, sizeLine_eq]
  have e1 : ("[" : Str).length = 1 := rfl
  have e2 : ("]" : Str).length = 1 := rfl
  have e3 : (Str.ofString (if (0 : Nat) > 0 then ", " else "" : String)).length = 0 := rfl
  have e4 : (Str.ofString (if (1 : Nat) > 0 then ", " else "" : String)).length = 2 := rfl
  omega
theorem vals_dx {K : PySem.W.Frag} {H : Hp} {one two : V} {d1 d2 : PyData} (h1 : Val H one d1) (h2 : Val H two d2) (i : Nat) : ∃ ds, DxAll K H (vals i one two) ds ∧ PyData.showableAll ds = true ∧ (listText (PyData.shownAll ds)).length ≤ sizeLine ∧ PyData.depthAll ds ≤ 20 := by
  obtain ⟨x1, s1, l1, p1⟩ := h1.dx (K := K)
  obtain ⟨x2, s2, l2, p2⟩ := h2.dx (K := K)
  unfold vals
  split
  · exact ⟨[], .nil, rfl, by rw [sizeLine_eq]; decide +kernel, by decide⟩
  · refine ⟨[d1], .cons x1 .nil, by simp [PyData.showableAll, s1], ?_, ?_⟩
    · simp only [PyData.shownAll]
      exact short1 l1
    · simp only [PyData.depthAll]
      omega
  · refine ⟨[d1, d2], .cons x1 (.cons x2 .nil), by simp [PyData.showableAll, s1, s2], ?_, ?_⟩
    · simp only [PyData.shownAll]
      exact short2 l1 l2
    · simp only [PyData.depthAll]
      omega
theorem sqT_same {K : PySem.W.Frag} {H H' : Hp} {a : Addr} {xs : List V} (e : Same H H') (h : SqT K H a xs) : SqT K H' a xs := by
  rcases h with (h | ⟨o, h⟩) | h
  · exact .inl (.inl (e _ _ h))
  · exact .inl (.inr ⟨o, e _ _ h⟩)
  · exact .inr h
mutual
theorem dp_same {K : PySem.W.Frag} {H H' : Hp} (s : Same H H') : ∀ {d : PyData} {v : V}, Dp K H v d → Dp K H' v d
  | _, _, .non => .non
  | _, _, .bl b => .bl b
  | _, _, .int i => .int i
  | _, _, .str x => .str x
  | _, _, .lst h t => .lst (s.seq h) (dpAll_same s t)
  | _, _, .tup h t => .tup (sqT_same s h) (dpAll_same s t)
theorem dpAll_same {K : PySem.W.Frag} {H H' : Hp} (s : Same H H') : ∀ {ds : List PyData} {vs : List V}, DpAll K H vs ds → DpAll K H' vs ds
  | _, _, .nil => .nil
  | _, _, .cons h t => .cons (dp_same s h) (dpAll_same s t)
end
theorem dxAll_same {K : PySem.W.Frag} {H H' : Hp} {vs : List V} {ds : List PyData} (h : DxAll K H vs ds) (s : Same H H') : DxAll K H' vs ds := by
  induction h with
  | nil => exact .nil
  | cons h _ ih =>
    refine .cons ?_ ih
    cases h with
    | ed h => exact .ed (s _ _ h)
    | base h n => exact .base (dp_same s h) n
theorem vals_dx_same {K : PySem.W.Frag} {H H' : Hp} {one two : V} {d1 d2 : PyData} {i : Nat} {ds : List PyData} (h : DxAll K H (vals i one two) ds) (h1 : Val H one d1) (h2 : Val H two d2) (s : Same H H') : DxAll K H' (vals i one two) ds := dxAll_same h s
theorem at_ref {ts : List Addr} {i : Nat} {t : Addr} (h : ts[i]? = some t) : atI (ts.map V.ref) (0 + (i : Int)) = some (.ref t) := by
  have hl : i < ts.length := (List.getElem?_eq_some_iff.mp h).1
  unfold atI ixN
  rw [List.length_map, if_pos (by omega), if_pos (by omega)]
  have e : (0 + (i : Int)).toNat = i := by omega
  rw [e]
  show (ts.map V.ref)[i]? = _
  rw [List.getElem?_map, h]
  rfl
theorem eq_one (i : Nat) : (!PyData.eqv (.list [.int (i : Int)]) (.list [.int (0 + (i : Int))])) = false := by
  rw [Int.zero_add]
  simp [PyData.eqv, PyData.eqvAll]
/-! ### isinstance(x, c), x an error of a class without own __init__ -/
def rIsiX (K : PySem.W.Frag) : List V → Hp → VK → Prop := fun xs H Q => ∃ (a C : Addr) (c : V) (u : Value) (b : Bool), xs = [.ref a, c] ∧ H a = some (ExO (.ref C) a) ∧ ECls K C ∧ ClsV c u ∧ PySem.W.kitOne K (.ref C) u = some b ∧ Q (.bl b) H
theorem call_isiX {X : Cx} : CallR X (.builtin "isinstance") (rIsiX X.K) := by
  intro pins s σ H xs us Q I r h
  obtain ⟨a, C, c, u, b, rfl, ha, E, k, e, q⟩ := h
  obtain ⟨u1, u2, rfl, r1, r2⟩ := vals2 r
  have e2 := k.eq r2
  subst e2
  cases (show u1 = Value.ref a from r1)
  obtain ⟨⟨oe, vs, ho, hz, hd, _⟩, _, _⟩ := (show ObjOk X.prog X.w H s.heap a (ExO (.ref C) a) from I.hok a _ ha)
  have J : PySem.W.InstAt s.heap a oe C none := ⟨ho, hz.1, by unfold PySem.W.notCls; rw [hd] <;> rfl, by rw [hz.2]; exact trivial⟩
  exact PySem.W.kia_one (PySem.W.kitx_exc E.cl E.ga E.gg E.exC E.cA E.cN E.cT E.cM) I.kIn J e (fun z => nomatch z) fun tk => ⟨.bl b, H, I.tok tk, rfl, q⟩
/-! ### the law -/
abbrev sLaw : Stmt := top 38
theorem scL : FnScope ["_law_script", "_law_pen_here", "_law_turn", "_law_one", "_law_two", "_law_made_here", "_law_named_here", "_law_spot", "_law_error", "_law_names", "_law_fields_here"] ["_law_script"] (defScope sLaw) := ⟨rfl, rfl, rfl, by decide +kernel, rfl, by decide +kernel, by decide +kernel⟩
def spLaw (K : PySem.W.Frag) : Sp := fun vs H Q _ => ∃ (a : Addr) (ns : List Int), vs = [.ref a] ∧ SqL K H a (ns.map V.int) ∧ ∀ H', Q (.bl true) H'
/-- the defs that the law calls -/
structure Defs (K : PySem.W.Frag) (mg : Str → Option Value) (fP fD fK fV fM fN fF fC : Addr) (dP dD dK dV dM dN dF dC : FuncData) : Prop where
  P : FnP K "_law_pen" sPen fP dP
  D : FnP K "_law_draw" sDraw fD dD
  Kk : FnP K "_law_pick" sPick fK dK
  V : FnP K "_law_value" sVal fV dV
  M : FnP K "_law_made" sMade fM dM
  N : FnP K "_law_named" sNamed fN dN
  F : FnP K "_law_fields" sFields fF dF
  C : FnP K "_law_classes" sCls fC dC
  gP : mg "_law_pen" = some (.ref fP)
  gD : mg "_law_draw" = some (.ref fD)
  gK : mg "_law_pick" = some (.ref fK)
  gV : mg "_law_value" = some (.ref fV)
  gM : mg "_law_made" = some (.ref fM)
  gN : mg "_law_named" = some (.ref fN)
  gF : mg "_law_fields" = some (.ref fF)
  gC : mg "_law_classes" = some (.ref fC)
section
variable {P : Program} {w : World} {K : PySem.W.Frag} {mg : Str → Option Value} {base : Heap} {f fP fD fK fV fM fN fF fC : Addr} {fd dP dD dK dV dM dN dF dC : FuncData}
theorem ok_law (G : FnP K "law" sLaw f fd) (T : Blt mg) (Z : Cf P K mg) (S : Defs K mg fP fD fK fV fM fN fF fC dP dD dK dV dM dN dF dC) : FnG P w K mg base CX0 5 f fd ["_law_script"] (spLaw K) := by
  have oP : FnOk P w K mg base CX0 1 fP dP ["_law_script"] (spPen K) := ok_pen S.P T
  have oV : FnOk P w K mg base CX0 3 fV dV ["_law_pen_here"] spVal := ok_val S.V T S.D S.gD S.Kk S.gK
  have oM : FnOk P w K mg base CX0 1 fM dM ["_law_one", "_law_two"] (spRow (MadeT K)) := ok_made S.M T Z
  have oN : FnOk P w K mg base CX0 1 fN dN ["_law_one", "_law_two"] (spRow (Err K)) := ok_named S.N T Z
  have oF : FnOk P w K mg base CX0 1 fF dF ["_law_error", "_law_names"] (spFields K) := ok_fields S.F Z
  have oC : FnOk P w K mg base CX0 1 fC dC ["_law_error"] (spCls K) := ok_cls S.C T Z
  have bP : Binds K dP ["_law_script"] [] := S.P.bindsN fun _ _ _ _ _ _ us hl => match us, hl with | [_], _ => rfl
  have bV : Binds K dV ["_law_pen_here"] [] := S.V.bindsN fun _ _ _ _ _ _ us hl => match us, hl with | [_], _ => rfl
  have bM : Binds K dM ["_law_one", "_law_two"] [] := S.M.bindsN fun _ _ _ _ _ _ us hl => match us, hl with | [_, _], _ => rfl
  have bN : Binds K dN ["_law_one", "_law_two"] [] := S.N.bindsN fun _ _ _ _ _ _ us hl => match us, hl with | [_, _], _ => rfl
  have bF : Binds K dF ["_law_error", "_law_names"] [] := S.F.bindsN fun _ _ _ _ _ _ us hl => match us, hl with | [_, _], _ => rfl
  have bC : Binds K dC ["_law_error"] [] := S.C.bindsN fun _ _ _ _ _ _ us hl => match us, hl with | [_], _ => rfl
  refine okG G scL (fun vs H Q E h => ?_) (fun cdv A outer s H vs Q E hr hgd h => ?_)
  · obtain ⟨a, ns, rfl, _⟩ := h
    rfl
  · obtain ⟨a, ns, rfl, hS, k⟩ := h
    have h1 := hr.mono (j := 1) (by decide)
    have h3 := hr.mono (j := 3) (by decide)
    have h0 := hr.mono (j := 0) (by decide)
    refine ⟨_, PSs.nox
      (pss_cons (ps_set (i := 1) scL.nd rfl (Or.inl rfl) (pe_call oP h1 rfl S.gP S.P.kp bP .nil pass0 (pa_cons (pv 0) pa_nil)))
      (pss_cons (ps_for PassesOwn.never rfl (pi_range1 rfl T.range (pa_cons pe_int pa_nil)) (pg_name (i := 2) scL.nd rfl (Or.inl rfl)) (pss_cons (ps_par (i := 3) (j := 4) rfl scL.nd rfl rfl (by decide) rfl rfl (pa_cons (pe_call oV h3 rfl S.gV S.V.kp bV .nil pass0 (pa_cons (pv 1) pa_nil)) (pa_cons (pe_call oV h3 rfl S.gV S.V.kp bV .nil pass0 (pa_cons (pv 1) pa_nil)) pa_nil)) rfl)
      (pss_cons (ps_par (i := 5) (j := 6) rfl scL.nd rfl rfl (by decide) rfl rfl (pa_cons (pe_call oM h1 rfl S.gM S.M.kp bM .nil pass0 (pa_cons (pv 3) (pa_cons (pv 4) pa_nil))) (pa_cons (pe_call oN h1 rfl S.gN S.N.kp bN .nil pass0 (pa_cons (pv 3) (pa_cons (pv 4) pa_nil))) pa_nil)) rfl)
      (pss_one (ps_for PassesOwn.never rfl (pi_range1 rfl T.range (pa_cons (pe_callB call_len_seq (by rfl) T.len PySem.boot_len (pa_cons (pv 5) pa_nil)) pa_nil)) (pg_name (i := 7) scL.nd rfl (Or.inl rfl)) (pss_cons (ps_asg (pe_ix ix_list (pv 5) (pv 7) (fun _ _ => rfl)) (pg_tup rfl (pgs_cons (pg_name (i := 8) scL.nd rfl (Or.inl rfl)) (pgs_cons (pg_name (i := 9) scL.nd rfl (Or.inl rfl)) (pgs_cons (pg_name (i := 10) scL.nd rfl (Or.inl rfl)) pgs_nil)))))
      (pss_cons (ps_if (PW.pt (pw_or (pt_cmpR op_ne (pe_callB (call_reprL hgd h0.units) (by rfl) T.repr boot_repr (pa_cons (pe_call oF h1 rfl S.gF S.F.kp bF .nil pass0 (pa_cons (pv 8) (pa_cons (pv 9) pa_nil))) pa_nil)) (pe_callB (call_reprL hgd h0.units) (by rfl) T.repr boot_repr (pa_cons (pv 10) pa_nil)) (nomark _)) (pw_or1 (pt_cmpR (op_neD h0.units) (pe_call oC h1 rfl S.gC S.C.kp bC .nil pass0 (pa_cons (pv 8) pa_nil)) (pe_lst (pa_cons (pv 7) pa_nil)) (nomark _))))) (pss_one (ps_ret pe_bl)) pss_nil)
      (pss_cons (ps_if (PW.pt (pw_or (pt_cmpR op_ne (pe_callB (call_reprL hgd h0.units) (by rfl) T.repr boot_repr (pa_cons (pe_call oF h1 rfl S.gF S.F.kp bF .nil pass0 (pa_cons (pe_ix ix_list (pv 6) (pv 7) (fun _ _ => rfl)) (pa_cons (pv 9) pa_nil))) pa_nil)) (pe_callB (call_reprL hgd h0.units) (by rfl) T.repr boot_repr (pa_cons (pv 10) pa_nil)) (nomark _)) (pw_or1 (pt_cmpR (op_neD h0.units) (pe_call oC h1 rfl S.gC S.C.kp bC .nil pass0 (pa_cons (pe_ix ix_list (pv 6) (pv 7) (fun _ _ => rfl)) pa_nil)) (pe_lst (pa_cons (pv 7) pa_nil)) (nomark _))))) (pss_one (ps_ret pe_bl)) pss_nil)
      (pss_cons (ps_if (PW.pt (pw_or (pt_not (pt_val (pe_callB call_isiE (by rfl) T.isi boot_isinstance (pa_cons (pv 8) (pa_cons (pe_glob (v := .ref (ga K "FlagError")) rfl Z.gF rfl) pa_nil))))) (pw_or1 (pt_not (pt_val (pe_callB call_isiE (by rfl) T.isi boot_isinstance (pa_cons (pv 8) (pa_cons (pe_bltn (v := .ty "ValueError") (by rfl) T.ve (by decide +kernel) rfl) pa_nil)))))))) (pss_one (ps_ret pe_bl)) pss_nil)
      (pss_one (ps_if (PW.pt (pw_or (pt_val (pe_callB call_isiE (by rfl) T.isi boot_isinstance (pa_cons (pv 8) (pa_cons (pe_bltn (v := .ty "LookupError") (by rfl) T.lo (by decide +kernel) rfl) pa_nil)))) (pw_or (pt_val (pe_callB call_isiE (by rfl) T.isi boot_isinstance (pa_cons (pv 8) (pa_cons (pe_bltn (v := .ty "TypeError") (by rfl) T.te (by decide +kernel) rfl) pa_nil)))) (pw_or1 (pt_val (pe_callB call_isiE (by rfl) T.isi boot_isinstance (pa_cons (pv 8) (pa_cons (pe_bltn (v := .ty "ArithmeticError") (by rfl) T.ar (by decide +kernel) rfl) pa_nil)))))))) (pss_one (ps_ret pe_bl)) pss_nil)))))))))))
      (pss_one (ps_ret (pe_and (pe_not (pe_callB call_isiX (by rfl) T.isi boot_isinstance (pa_cons (pe_exc1 F.excBase_ValueError Z.xF Z.gF Z.ecF.kC rfl pe_str) (pa_cons (pe_glob (v := .ref (cA K 3)) rfl (Z.g 3 (by decide)) rfl) pa_nil)))) (pe_one (pe_callB call_isiX (by rfl) T.isi boot_isinstance (pa_cons (pe_exc1 F.excBase_ValueError Z.xF Z.gF Z.ecF.kC rfl pe_str) (pa_cons (pe_bltn (v := .ty "ValueError") (by rfl) T.ve (by decide +kernel) rfl) pa_nil))))))))), ?_⟩
    refine ⟨_, rfl, a, ns, rfl, hS, fun p q cs H1 PN => ?_⟩
    refine ⟨8, rfl, by decide, by decide, for_range (lo := 0) (n := 8) (fun t σ H' => ∃ (n r : Int) (x0 x2 x3 x4 x5 x6 x7 x8 x9 x10 : Option V), σ = [x0, some (.ref p), x2, x3, x4, x5, x6, x7, x8, x9, x10] ∧ Pen H' p q cs n r ∧ n ≤ 2 * (t : Int)) ?_ ?_ ?_⟩
    · exact ⟨0, 0, _, _, _, _, _, _, _, _, _, _, rfl, PN, by decide⟩
    · rintro t σ H2 ht ⟨n, r, x0, x2, x3, x4, x5, x6, x7, x8, x9, x10, rfl, PN2, hn⟩
      refine ⟨_, rfl, p, q, cs, n, r, rfl, by omega, PN2, fun one d1 n1 r1 H3 V1 hn1 k1 PN3 => ?_⟩
      refine ⟨_, rfl, p, q, cs, n1, r1, rfl, by omega, PN3, fun two d2 n2 r2 H4 V2 hn2 k2 PN4 => ⟨_, _, rfl, ?_⟩⟩
      have V1 := V1.keep PN3.at_ k2
      refine ⟨_, rfl, _, rfl, one, two, rfl, fun LM H5 s5 RM => ?_⟩
      refine ⟨_, rfl, _, rfl, one, two, rfl, fun LN H6 s6 RN => ⟨_, _, rfl, ?_⟩⟩
      have PN6 := (PN4.same s5).same s6
      have V1 := (V1.same s5).same s6
      have V2 := (V2.same s5).same s6
      obtain ⟨ts, hLM, lM, aM⟩ := RM
      obtain ⟨es, hLN, lN, aN⟩ := RN
      have hLM := s6 _ _ hLM
      have aM : ∀ i, i < 27 → ∃ t, ts[i]? = some t ∧ MadeT K H6 one two i t := fun i hi => by
        obtain ⟨t, z1, z2⟩ := aM i hi
        exact ⟨t, z1, z2.same s6⟩
      have hlen : (ts.map V.ref).length = 27 := by rw [List.length_map, lM]
      refine ⟨_, rfl, LM, _, rfl, .inl (SqL.of hLM), ?_⟩
      rw [hlen]
      refine ⟨27, rfl, by decide, by decide, for_range (lo := 0) (n := 27) (fun i σ H' => ∃ (y0 y2 y7 y8 y9 y10 : Option V), σ = [y0, some (.ref p), y2, some one, some two, some (.ref LM), some (.ref LN), y7, y8, y9, y10] ∧ Same H6 H') ?_ ?_ ?_⟩
      · exact ⟨_, _, _, _, _, _, rfl, fun _ _ z => z⟩
      · rintro i σ H7 hi ⟨y0, y2, y7, y8, y9, y10, rfl, s7⟩
        obtain ⟨t, ht1, e, l, ht, E, hl⟩ := aM i hi
        obtain ⟨e', he1, E'⟩ := aN i hi
        have ht := s7 _ _ ht
        have hl := s7 _ _ hl
        have E := E.same s7
        have E' := E'.same s7
        have W1 := V1.same s7
        have W2 := V2.same s7
        have at1 : atI (ts.map V.ref) (0 + (i : Int)) = some (.ref t) := at_ref ht1
        have at2 : atI (es.map V.ref) (0 + (i : Int)) = some (.ref e') := at_ref he1
        refine ⟨_, rfl, _, rfl, LM, _, _, _, rfl, rfl, SqL.of (s7 _ _ hLM), at1, t, _, rfl, SqT.of ht, rfl, _, _, rfl, _, _, rfl, _, _, rfl, rfl, ?_⟩
        -- the first test
        obtain ⟨ds, dx, dsh, dln, ddp⟩ := vals_dx (K := K) W1 W2 i
        refine ⟨_, rfl, _, rfl, e, i, one, two, rfl, hi, E, fun la H8 s8 hla => ?_⟩
        have X8 := vals_dx_same dx W1 W2 s8
        refine ⟨la, _, ds, rfl, SqL.of hla, X8, dsh, dln, ddp, _, rfl, l, _, ds, rfl, SqL.of (s8 _ _ hl), X8, dsh, dln, ddp, rfl, _, rfl, ifF (by simp) ?_⟩
        refine ⟨_, rfl, e, i, rfl, hi, E.at_.same s8, fun lb H9 s9 hlb => ?_⟩
        refine ⟨_, rfl, by show 1 ≤ sizeLine; rw [sizeLine_eq]; decide, fun lc nc => ?_⟩
        have s10 := same_upd (o := .lst [.int (0 + (i : Int))]) nc
        refine ⟨.list [.int i], .list [.int (0 + (i : Int))], .lst (SqL.of (s10 _ _ hlb)) (.cons (.int _) .nil), .lst (SqL.of upd_same) (.cons (.int _) .nil), rfl, rfl, _, rfl, ?_⟩
        refine ifF (eq_one i) ?_
        have q10 := same_trans s8 (same_trans s9 s10)
        -- the second
        refine ⟨_, rfl, _, rfl, LN, _, _, _, rfl, rfl, SqL.of (q10 _ _ (s7 _ _ hLN)), at2, _, rfl, e', i, one, two, rfl, hi, E'.same q10, fun ld H11 s11 hld => ?_⟩
        have X11 := vals_dx_same dx W1 W2 (same_trans q10 s11)
        refine ⟨ld, _, ds, rfl, SqL.of hld, X11, dsh, dln, ddp, _, rfl, l, _, ds, rfl, SqL.of ((same_trans q10 s11) _ _ hl), X11, dsh, dln, ddp, rfl, _, rfl, ifF (by simp) ?_⟩
        refine ⟨_, rfl, _, rfl, LN, _, _, _, rfl, rfl, SqL.of ((same_trans q10 s11) _ _ (s7 _ _ hLN)), at2, e', i, rfl, hi, E'.at_.same (same_trans q10 s11), fun le H12 s12 hle => ?_⟩
        refine ⟨_, rfl, by show 1 ≤ sizeLine; rw [sizeLine_eq]; decide, fun lf nf => ?_⟩
        have s13 := same_upd (o := .lst [.int (0 + (i : Int))]) nf
        refine ⟨.list [.int i], .list [.int (0 + (i : Int))], .lst (SqL.of (s13 _ _ hle)) (.cons (.int _) .nil), .lst (SqL.of upd_same) (.cons (.int _) .nil), rfl, rfl, _, rfl, ?_⟩
        refine ifF (eq_one i) ?_
        have q13 := same_trans q10 (same_trans s11 (same_trans s12 s13))
        have EA := E.at_.same q13
        -- the third
        refine ⟨_, rfl, e, cA K i, _, _, _, rfl, EA, Z.ec i hi, .own _, Z.kF i hi, _, rfl, ?_⟩
        refine ifF rfl ?_
        refine ⟨_, rfl, e, cA K i, _, _, _, rfl, EA, Z.ec i hi, .ty _, Z.kV i hi, _, rfl, ?_⟩
        refine ifF rfl ?_
        -- the fourth
        refine ⟨_, rfl, e, cA K i, _, _, _, rfl, EA, Z.ec i hi, .ty _, Z.kL i hi, _, rfl, ?_⟩
        refine ifF rfl ?_
        refine ⟨_, rfl, e, cA K i, _, _, _, rfl, EA, Z.ec i hi, .ty _, Z.kT i hi, _, rfl, ?_⟩
        refine ifF rfl ?_
        refine ⟨_, rfl, e, cA K i, _, _, _, rfl, EA, Z.ec i hi, .ty _, Z.kA i hi, _, rfl, ?_⟩
        refine ifF rfl ?_
        exact ⟨_, _, _, _, _, _, rfl, same_trans s7 q13⟩
      · rintro σ H7 ⟨y0, y2, y7, y8, y9, y10, rfl, s7⟩
        exact ⟨n2, r2, _, _, _, _, _, _, _, _, _, _, rfl, PN6.same s7, by omega⟩
    · rintro σ H2 ⟨n, r, x0, x2, x3, x4, x5, x6, x7, x8, x9, x10, rfl, PN2, hn⟩
      intro b1 nb1
      refine ⟨b1, ga K "FlagError", _, _, _, rfl, upd_same, Z.ecF, .own _, Z.kFS, _, rfl, _, rfl, ?_⟩
      refine ifT rfl ?_
      intro b2 nb2
      exact ⟨b2, ga K "FlagError", _, _, _, rfl, upd_same, Z.ecF, .ty _, Z.kFV, k _⟩
end
end K01
set_option Elab.async false
set_option linter.all false
set_option maxRecDepth 100000
set_option maxHeartbeats 0
namespace K01
open PySem PySem.Spec PyProof.Rows L2 Gd Erl He PySem.Erx Hz
/-! ### the head: the text of each own __init__, the facts asked -/
def sc0 : Scope := { kind := .function, names := [("self", .local), ("value", .local), ("__class__", .free), ("super", .globalImplicit)], isGenerator := false, isCoroutine := false, more := [] }
def i0 : InitD := ⟨"BadSigns", "BadSigns.__init__", (par1 "value" ⟨6, 17, 6, 21⟩ ⟨6, 23, 6, 28⟩), (body1 "value" ⟨7, 8, 7, 13⟩ ⟨7, 8, 7, 15⟩ ⟨7, 8, 7, 24⟩ ⟨7, 8, 7, 31⟩ ⟨7, 8, 7, 31⟩ ⟨7, 25, 7, 30⟩ ⟨8, 8, 8, 12⟩ ⟨8, 8, 8, 18⟩ ⟨8, 21, 8, 26⟩ ⟨8, 8, 8, 26⟩), sc0⟩
def sc1 : Scope := { kind := .function, names := [("self", .local), ("value", .local), ("__class__", .free), ("super", .globalImplicit)], isGenerator := false, isCoroutine := false, more := [] }
def i1 : InitD := ⟨"BadWord", "BadWord.__init__", (par1 "value" ⟨11, 17, 11, 21⟩ ⟨11, 23, 11, 28⟩), (body1 "value" ⟨12, 8, 12, 13⟩ ⟨12, 8, 12, 15⟩ ⟨12, 8, 12, 24⟩ ⟨12, 8, 12, 31⟩ ⟨12, 8, 12, 31⟩ ⟨12, 25, 12, 30⟩ ⟨13, 8, 13, 12⟩ ⟨13, 8, 13, 18⟩ ⟨13, 21, 13, 26⟩ ⟨13, 8, 13, 26⟩), sc1⟩
def sc2 : Scope := { kind := .function, names := [("self", .local), ("part", .local), ("__class__", .free), ("super", .globalImplicit)], isGenerator := false, isCoroutine := false, more := [] }
def i2 : InitD := ⟨"BadBars", "BadBars.__init__", (par1 "part" ⟨16, 17, 16, 21⟩ ⟨16, 23, 16, 27⟩), (body1 "part" ⟨17, 8, 17, 13⟩ ⟨17, 8, 17, 15⟩ ⟨17, 8, 17, 24⟩ ⟨17, 8, 17, 30⟩ ⟨17, 8, 17, 30⟩ ⟨17, 25, 17, 29⟩ ⟨18, 8, 18, 12⟩ ⟨18, 8, 18, 17⟩ ⟨18, 20, 18, 24⟩ ⟨18, 8, 18, 24⟩), sc2⟩
def sc3 : Scope := { kind := .function, names := [("self", .local), ("value", .local), ("__class__", .free), ("super", .globalImplicit)], isGenerator := false, isCoroutine := false, more := [] }
def i3 : InitD := ⟨"BadSign", "BadSign.__init__", (par1 "value" ⟨21, 17, 21, 21⟩ ⟨21, 23, 21, 28⟩), (body1 "value" ⟨22, 8, 22, 13⟩ ⟨22, 8, 22, 15⟩ ⟨22, 8, 22, 24⟩ ⟨22, 8, 22, 31⟩ ⟨22, 8, 22, 31⟩ ⟨22, 25, 22, 30⟩ ⟨23, 8, 23, 12⟩ ⟨23, 8, 23, 18⟩ ⟨23, 21, 23, 26⟩ ⟨23, 8, 23, 26⟩), sc3⟩
def sc4 : Scope := { kind := .function, names := [("self", .local), ("line", .local), ("word", .local), ("__class__", .free), ("super", .globalImplicit)], isGenerator := false, isCoroutine := false, more := [] }
def i4 : InitD := ⟨"BadText", "BadText.__init__", (par2 "line" "word" ⟨26, 17, 26, 21⟩ ⟨26, 23, 26, 27⟩ ⟨26, 29, 26, 33⟩), (body2 "line" "word" ⟨27, 8, 27, 13⟩ ⟨27, 8, 27, 15⟩ ⟨27, 8, 27, 24⟩ ⟨27, 8, 27, 36⟩ ⟨27, 8, 27, 36⟩ ⟨27, 25, 27, 29⟩ ⟨27, 31, 27, 35⟩ ⟨28, 8, 28, 12⟩ ⟨28, 8, 28, 17⟩ ⟨28, 20, 28, 24⟩ ⟨28, 8, 28, 24⟩ ⟨29, 8, 29, 12⟩ ⟨29, 8, 29, 17⟩ ⟨29, 20, 29, 24⟩ ⟨29, 8, 29, 24⟩), sc4⟩
def sc5 : Scope := { kind := .function, names := [("self", .local), ("value", .local), ("__class__", .free), ("super", .globalImplicit)], isGenerator := false, isCoroutine := false, more := [] }
def i5 : InitD := ⟨"BadSent", "BadSent.__init__", (par1 "value" ⟨32, 17, 32, 21⟩ ⟨32, 23, 32, 28⟩), (body1 "value" ⟨33, 8, 33, 13⟩ ⟨33, 8, 33, 15⟩ ⟨33, 8, 33, 24⟩ ⟨33, 8, 33, 31⟩ ⟨33, 8, 33, 31⟩ ⟨33, 25, 33, 30⟩ ⟨34, 8, 34, 12⟩ ⟨34, 8, 34, 18⟩ ⟨34, 21, 34, 26⟩ ⟨34, 8, 34, 26⟩), sc5⟩
def sc6 : Scope := { kind := .function, names := [("self", .local), ("value", .local), ("__class__", .free), ("super", .globalImplicit)], isGenerator := false, isCoroutine := false, more := [] }
def i6 : InitD := ⟨"BadEnd", "BadEnd.__init__", (par1 "value" ⟨37, 17, 37, 21⟩ ⟨37, 23, 37, 28⟩), (body1 "value" ⟨38, 8, 38, 13⟩ ⟨38, 8, 38, 15⟩ ⟨38, 8, 38, 24⟩ ⟨38, 8, 38, 31⟩ ⟨38, 8, 38, 31⟩ ⟨38, 25, 38, 30⟩ ⟨39, 8, 39, 12⟩ ⟨39, 8, 39, 18⟩ ⟨39, 21, 39, 26⟩ ⟨39, 8, 39, 26⟩), sc6⟩
def sc7 : Scope := { kind := .function, names := [("self", .local), ("part", .local), ("__class__", .free), ("super", .globalImplicit)], isGenerator := false, isCoroutine := false, more := [] }
def i7 : InitD := ⟨"BadMove", "BadMove.__init__", (par1 "part" ⟨42, 17, 42, 21⟩ ⟨42, 23, 42, 27⟩), (body1 "part" ⟨43, 8, 43, 13⟩ ⟨43, 8, 43, 15⟩ ⟨43, 8, 43, 24⟩ ⟨43, 8, 43, 30⟩ ⟨43, 8, 43, 30⟩ ⟨43, 25, 43, 29⟩ ⟨44, 8, 44, 12⟩ ⟨44, 8, 44, 17⟩ ⟨44, 20, 44, 24⟩ ⟨44, 8, 44, 24⟩), sc7⟩
def sc8 : Scope := { kind := .function, names := [("self", .local), ("part", .local), ("__class__", .free), ("super", .globalImplicit)], isGenerator := false, isCoroutine := false, more := [] }
def i8 : InitD := ⟨"BadMenu", "BadMenu.__init__", (par1 "part" ⟨47, 17, 47, 21⟩ ⟨47, 23, 47, 27⟩), (body1 "part" ⟨48, 8, 48, 13⟩ ⟨48, 8, 48, 15⟩ ⟨48, 8, 48, 24⟩ ⟨48, 8, 48, 30⟩ ⟨48, 8, 48, 30⟩ ⟨48, 25, 48, 29⟩ ⟨49, 8, 49, 12⟩ ⟨49, 8, 49, 17⟩ ⟨49, 20, 49, 24⟩ ⟨49, 8, 49, 24⟩), sc8⟩
def sc9 : Scope := { kind := .function, names := [("self", .local), ("value", .local), ("__class__", .free), ("super", .globalImplicit)], isGenerator := false, isCoroutine := false, more := [] }
def i9 : InitD := ⟨"BadPrice", "BadPrice.__init__", (par1 "value" ⟨52, 17, 52, 21⟩ ⟨52, 23, 52, 28⟩), (body1 "value" ⟨53, 8, 53, 13⟩ ⟨53, 8, 53, 15⟩ ⟨53, 8, 53, 24⟩ ⟨53, 8, 53, 31⟩ ⟨53, 8, 53, 31⟩ ⟨53, 25, 53, 30⟩ ⟨54, 8, 54, 12⟩ ⟨54, 8, 54, 18⟩ ⟨54, 21, 54, 26⟩ ⟨54, 8, 54, 26⟩), sc9⟩
def sc10 : Scope := { kind := .function, names := [("self", .local), ("part", .local), ("__class__", .free), ("super", .globalImplicit)], isGenerator := false, isCoroutine := false, more := [] }
def i10 : InitD := ⟨"BadSetting", "BadSetting.__init__", (par1 "part" ⟨57, 17, 57, 21⟩ ⟨57, 23, 57, 27⟩), (body1 "part" ⟨58, 8, 58, 13⟩ ⟨58, 8, 58, 15⟩ ⟨58, 8, 58, 24⟩ ⟨58, 8, 58, 30⟩ ⟨58, 8, 58, 30⟩ ⟨58, 25, 58, 29⟩ ⟨59, 8, 59, 12⟩ ⟨59, 8, 59, 17⟩ ⟨59, 20, 59, 24⟩ ⟨59, 8, 59, 24⟩), sc10⟩
def sc11 : Scope := { kind := .function, names := [("self", .local), ("part", .local), ("__class__", .free), ("super", .globalImplicit)], isGenerator := false, isCoroutine := false, more := [] }
def i11 : InitD := ⟨"BadRate", "BadRate.__init__", (par1 "part" ⟨62, 17, 62, 21⟩ ⟨62, 23, 62, 27⟩), (body1 "part" ⟨63, 8, 63, 13⟩ ⟨63, 8, 63, 15⟩ ⟨63, 8, 63, 24⟩ ⟨63, 8, 63, 30⟩ ⟨63, 8, 63, 30⟩ ⟨63, 25, 63, 29⟩ ⟨64, 8, 64, 12⟩ ⟨64, 8, 64, 17⟩ ⟨64, 20, 64, 24⟩ ⟨64, 8, 64, 24⟩), sc11⟩
def sc12 : Scope := { kind := .function, names := [("self", .local), ("part", .local), ("__class__", .free), ("super", .globalImplicit)], isGenerator := false, isCoroutine := false, more := [] }
def i12 : InitD := ⟨"BadRule", "BadRule.__init__", (par1 "part" ⟨67, 17, 67, 21⟩ ⟨67, 23, 67, 27⟩), (body1 "part" ⟨68, 8, 68, 13⟩ ⟨68, 8, 68, 15⟩ ⟨68, 8, 68, 24⟩ ⟨68, 8, 68, 30⟩ ⟨68, 8, 68, 30⟩ ⟨68, 25, 68, 29⟩ ⟨69, 8, 69, 12⟩ ⟨69, 8, 69, 17⟩ ⟨69, 20, 69, 24⟩ ⟨69, 8, 69, 24⟩), sc12⟩
def sc13 : Scope := { kind := .function, names := [("self", .local), ("part", .local), ("__class__", .free), ("super", .globalImplicit)], isGenerator := false, isCoroutine := false, more := [] }
def i13 : InitD := ⟨"BadTable", "BadTable.__init__", (par1 "part" ⟨72, 17, 72, 21⟩ ⟨72, 23, 72, 27⟩), (body1 "part" ⟨73, 8, 73, 13⟩ ⟨73, 8, 73, 15⟩ ⟨73, 8, 73, 24⟩ ⟨73, 8, 73, 30⟩ ⟨73, 8, 73, 30⟩ ⟨73, 25, 73, 29⟩ ⟨74, 8, 74, 12⟩ ⟨74, 8, 74, 17⟩ ⟨74, 20, 74, 24⟩ ⟨74, 8, 74, 24⟩), sc13⟩
def sc14 : Scope := { kind := .function, names := [("self", .local), ("value", .local), ("__class__", .free), ("super", .globalImplicit)], isGenerator := false, isCoroutine := false, more := [] }
def i14 : InitD := ⟨"BadContent", "BadContent.__init__", (par1 "value" ⟨77, 17, 77, 21⟩ ⟨77, 23, 77, 28⟩), (body1 "value" ⟨78, 8, 78, 13⟩ ⟨78, 8, 78, 15⟩ ⟨78, 8, 78, 24⟩ ⟨78, 8, 78, 31⟩ ⟨78, 8, 78, 31⟩ ⟨78, 25, 78, 30⟩ ⟨79, 8, 79, 12⟩ ⟨79, 8, 79, 18⟩ ⟨79, 21, 79, 26⟩ ⟨79, 8, 79, 26⟩), sc14⟩
def sc15 : Scope := { kind := .function, names := [("self", .local), ("value", .local), ("__class__", .free), ("super", .globalImplicit)], isGenerator := false, isCoroutine := false, more := [] }
def i15 : InitD := ⟨"BadNumber", "BadNumber.__init__", (par1 "value" ⟨82, 17, 82, 21⟩ ⟨82, 23, 82, 28⟩), (body1 "value" ⟨83, 8, 83, 13⟩ ⟨83, 8, 83, 15⟩ ⟨83, 8, 83, 24⟩ ⟨83, 8, 83, 31⟩ ⟨83, 8, 83, 31⟩ ⟨83, 25, 83, 30⟩ ⟨84, 8, 84, 12⟩ ⟨84, 8, 84, 18⟩ ⟨84, 21, 84, 26⟩ ⟨84, 8, 84, 26⟩), sc15⟩
def sc16 : Scope := { kind := .function, names := [("self", .local), ("part", .local), ("__class__", .free), ("super", .globalImplicit)], isGenerator := false, isCoroutine := false, more := [] }
def i16 : InitD := ⟨"BadLog", "BadLog.__init__", (par1 "part" ⟨87, 17, 87, 21⟩ ⟨87, 23, 87, 27⟩), (body1 "part" ⟨88, 8, 88, 13⟩ ⟨88, 8, 88, 15⟩ ⟨88, 8, 88, 24⟩ ⟨88, 8, 88, 30⟩ ⟨88, 8, 88, 30⟩ ⟨88, 25, 88, 29⟩ ⟨89, 8, 89, 12⟩ ⟨89, 8, 89, 17⟩ ⟨89, 20, 89, 24⟩ ⟨89, 8, 89, 24⟩), sc16⟩
def sc17 : Scope := { kind := .function, names := [("self", .local), ("part", .local), ("__class__", .free), ("super", .globalImplicit)], isGenerator := false, isCoroutine := false, more := [] }
def i17 : InitD := ⟨"BadLayer", "BadLayer.__init__", (par1 "part" ⟨92, 17, 92, 21⟩ ⟨92, 23, 92, 27⟩), (body1 "part" ⟨93, 8, 93, 13⟩ ⟨93, 8, 93, 15⟩ ⟨93, 8, 93, 24⟩ ⟨93, 8, 93, 30⟩ ⟨93, 8, 93, 30⟩ ⟨93, 25, 93, 29⟩ ⟨94, 8, 94, 12⟩ ⟨94, 8, 94, 17⟩ ⟨94, 20, 94, 24⟩ ⟨94, 8, 94, 24⟩), sc17⟩
def sc18 : Scope := { kind := .function, names := [("self", .local), ("part", .local), ("__class__", .free), ("super", .globalImplicit)], isGenerator := false, isCoroutine := false, more := [] }
def i18 : InitD := ⟨"BadLink", "BadLink.__init__", (par1 "part" ⟨97, 17, 97, 21⟩ ⟨97, 23, 97, 27⟩), (body1 "part" ⟨98, 8, 98, 13⟩ ⟨98, 8, 98, 15⟩ ⟨98, 8, 98, 24⟩ ⟨98, 8, 98, 30⟩ ⟨98, 8, 98, 30⟩ ⟨98, 25, 98, 29⟩ ⟨99, 8, 99, 12⟩ ⟨99, 8, 99, 17⟩ ⟨99, 20, 99, 24⟩ ⟨99, 8, 99, 24⟩), sc18⟩
def sc19 : Scope := { kind := .function, names := [("self", .local), ("word", .local), ("__class__", .free), ("super", .globalImplicit)], isGenerator := false, isCoroutine := false, more := [] }
def i19 : InitD := ⟨"BadLine", "BadLine.__init__", (par1 "word" ⟨102, 17, 102, 21⟩ ⟨102, 23, 102, 27⟩), (body1 "word" ⟨103, 8, 103, 13⟩ ⟨103, 8, 103, 15⟩ ⟨103, 8, 103, 24⟩ ⟨103, 8, 103, 30⟩ ⟨103, 8, 103, 30⟩ ⟨103, 25, 103, 29⟩ ⟨104, 8, 104, 12⟩ ⟨104, 8, 104, 17⟩ ⟨104, 20, 104, 24⟩ ⟨104, 8, 104, 24⟩), sc19⟩
def sc20 : Scope := { kind := .function, names := [("self", .local), ("end", .local), ("__class__", .free), ("super", .globalImplicit)], isGenerator := false, isCoroutine := false, more := [] }
def i20 : InitD := ⟨"NoEnd", "NoEnd.__init__", (par1 "end" ⟨107, 17, 107, 21⟩ ⟨107, 23, 107, 26⟩), (body1 "end" ⟨108, 8, 108, 13⟩ ⟨108, 8, 108, 15⟩ ⟨108, 8, 108, 24⟩ ⟨108, 8, 108, 29⟩ ⟨108, 8, 108, 29⟩ ⟨108, 25, 108, 28⟩ ⟨109, 8, 109, 12⟩ ⟨109, 8, 109, 16⟩ ⟨109, 19, 109, 22⟩ ⟨109, 8, 109, 22⟩), sc20⟩
def sc21 : Scope := { kind := .function, names := [("self", .local), ("what", .local), ("most", .local), ("__class__", .free), ("super", .globalImplicit)], isGenerator := false, isCoroutine := false, more := [] }
def i21 : InitD := ⟨"TooMany", "TooMany.__init__", (par2 "what" "most" ⟨112, 17, 112, 21⟩ ⟨112, 23, 112, 27⟩ ⟨112, 29, 112, 33⟩), (body2 "what" "most" ⟨113, 8, 113, 13⟩ ⟨113, 8, 113, 15⟩ ⟨113, 8, 113, 24⟩ ⟨113, 8, 113, 36⟩ ⟨113, 8, 113, 36⟩ ⟨113, 25, 113, 29⟩ ⟨113, 31, 113, 35⟩ ⟨114, 8, 114, 12⟩ ⟨114, 8, 114, 17⟩ ⟨114, 20, 114, 24⟩ ⟨114, 8, 114, 24⟩ ⟨115, 8, 115, 12⟩ ⟨115, 8, 115, 17⟩ ⟨115, 20, 115, 24⟩ ⟨115, 8, 115, 24⟩), sc21⟩
def sc22 : Scope := { kind := .function, names := [("self", .local), ("end", .local), ("__class__", .free), ("super", .globalImplicit)], isGenerator := false, isCoroutine := false, more := [] }
def i22 : InitD := ⟨"NoWay", "NoWay.__init__", (par1 "end" ⟨118, 17, 118, 21⟩ ⟨118, 23, 118, 26⟩), (body1 "end" ⟨119, 8, 119, 13⟩ ⟨119, 8, 119, 15⟩ ⟨119, 8, 119, 24⟩ ⟨119, 8, 119, 29⟩ ⟨119, 8, 119, 29⟩ ⟨119, 25, 119, 28⟩ ⟨120, 8, 120, 12⟩ ⟨120, 8, 120, 16⟩ ⟨120, 19, 120, 22⟩ ⟨120, 8, 120, 22⟩), sc22⟩
def sc23 : Scope := { kind := .function, names := [("self", .local), ("most", .local), ("__class__", .free), ("super", .globalImplicit)], isGenerator := false, isCoroutine := false, more := [] }
def i23 : InitD := ⟨"NoRound", "NoRound.__init__", (par1 "most" ⟨123, 17, 123, 21⟩ ⟨123, 23, 123, 27⟩), (body1 "most" ⟨124, 8, 124, 13⟩ ⟨124, 8, 124, 15⟩ ⟨124, 8, 124, 24⟩ ⟨124, 8, 124, 30⟩ ⟨124, 8, 124, 30⟩ ⟨124, 25, 124, 29⟩ ⟨125, 8, 125, 12⟩ ⟨125, 8, 125, 17⟩ ⟨125, 20, 125, 24⟩ ⟨125, 8, 125, 24⟩), sc23⟩
def sc24 : Scope := { kind := .function, names := [("self", .local), ("end", .local), ("__class__", .free), ("super", .globalImplicit)], isGenerator := false, isCoroutine := false, more := [] }
def i24 : InitD := ⟨"Stuck", "Stuck.__init__", (par1 "end" ⟨128, 17, 128, 21⟩ ⟨128, 23, 128, 26⟩), (body1 "end" ⟨129, 8, 129, 13⟩ ⟨129, 8, 129, 15⟩ ⟨129, 8, 129, 24⟩ ⟨129, 8, 129, 29⟩ ⟨129, 8, 129, 29⟩ ⟨129, 25, 129, 28⟩ ⟨130, 8, 130, 12⟩ ⟨130, 8, 130, 16⟩ ⟨130, 19, 130, 22⟩ ⟨130, 8, 130, 22⟩), sc24⟩
def sc25 : Scope := { kind := .function, names := [("self", .local), ("at", .local), ("__class__", .free), ("super", .globalImplicit)], isGenerator := false, isCoroutine := false, more := [] }
def i25 : InitD := ⟨"Refused", "Refused.__init__", (par1 "at" ⟨133, 17, 133, 21⟩ ⟨133, 23, 133, 25⟩), (body1 "at" ⟨134, 8, 134, 13⟩ ⟨134, 8, 134, 15⟩ ⟨134, 8, 134, 24⟩ ⟨134, 8, 134, 28⟩ ⟨134, 8, 134, 28⟩ ⟨134, 25, 134, 27⟩ ⟨135, 8, 135, 12⟩ ⟨135, 8, 135, 15⟩ ⟨135, 18, 135, 20⟩ ⟨135, 8, 135, 20⟩), sc25⟩
def sc26 : Scope := { kind := .function, names := [("self", .local), ("__class__", .free), ("super", .globalImplicit)], isGenerator := false, isCoroutine := false, more := [] }
def i26 : InitD := ⟨"NoChange", "NoChange.__init__", (par0 ⟨138, 17, 138, 21⟩), (body0 "nothing that can be taken back" 0 ⟨139, 8, 139, 13⟩ ⟨139, 8, 139, 15⟩ ⟨139, 8, 139, 24⟩ ⟨139, 8, 139, 58⟩ ⟨139, 8, 139, 58⟩ ⟨139, 25, 139, 57⟩), sc26⟩
def is0 : List InitD := [i0, i1, i2, i3, i4, i5, i6, i7, i8]
def is1 : List InitD := [i9, i10, i11, i12, i13, i14, i15, i16, i17]
def is2 : List InitD := [i18, i19, i20, i21, i22, i23, i24, i25, i26]
def is : List InitD := is0 ++ is1 ++ is2
def df0 : DefD := ⟨("_law_pen", none), "_law_pen", "_law_pen", defArgs sPen, defBody sPen, defScope sPen, [], []⟩
def df1 : DefD := ⟨("_law_draw", none), "_law_draw", "_law_draw", defArgs sDraw, defBody sDraw, defScope sDraw, [], []⟩
def df2 : DefD := ⟨("_law_pick", none), "_law_pick", "_law_pick", defArgs sPick, defBody sPick, defScope sPick, [], []⟩
def df3 : DefD := ⟨("_law_value", none), "_law_value", "_law_value", defArgs sVal, defBody sVal, defScope sVal, [], []⟩
def df4 : DefD := ⟨("_law_made", none), "_law_made", "_law_made", defArgs sMade, defBody sMade, defScope sMade, [], []⟩
def df5 : DefD := ⟨("_law_named", none), "_law_named", "_law_named", defArgs sNamed, defBody sNamed, defScope sNamed, [], []⟩
def df6 : DefD := ⟨("_law_fields", none), "_law_fields", "_law_fields", defArgs sFields, defBody sFields, defScope sFields, [], []⟩
def df7 : DefD := ⟨("_law_classes", none), "_law_classes", "_law_classes", defArgs sCls, defBody sCls, defScope sCls, [], []⟩
def df8 : DefD := ⟨("law", none), "law", "law", defArgs sLaw, defBody sLaw, defScope sLaw, [], []⟩
def fn0 : List DefD := [df0, df1, df2, df3, df4, df5, df6, df7, df8]
def fn : List DefD := fn0
def fa0 : List Fa := [.glo "_law_pen", .glo "_law_draw", .glo "_law_pick", .glo "_law_value", .glo "_law_made", .glo "_law_named", .glo "_law_fields", .glo "_law_classes", .glo "law"]
def fa1 : List Fa := [.free "int", .free "len", .free "abs", .free "list", .free "range", .free "repr", .free "isinstance", .free "super", .free "ValueError"]
def fa2 : List Fa := [.free "LookupError", .free "TypeError", .free "ArithmeticError", .glo "FlagError", .exc "FlagError"]
def fa : List Fa := fa0 ++ fa1 ++ fa2
def idx : List Nat := List.range 27
def kitB2 (K : PySem.W.Frag) (t c : Value) (b : Bool) : Bool := match PySem.W.kitOne K t c with
  | some r => r == b
  | none => false
theorem kitB2_ok {K : PySem.W.Frag} {t c : Value} {b : Bool} (h : kitB2 K t c b = true) : PySem.W.kitOne K t c = some b := by
  unfold kitB2 at h
  split at h
  · rename_i r e
    rw [beq_iff_eq] at h
    rw [e, h]
  · cases h
def one (K : PySem.W.Frag) (i : Nat) : Bool := txtB "/claim/cut.py" K (cls i) && (clsB K (cA K i) && (eqO (PySem.W.nsIn K mainGlobals (cls i)) (some (some (.ref (cA K i)))) && (((flds i).all fun f => eqO (PySem.W.findIn K (.ref (cA K i)) f) (some none)) &&
  ((idx.all fun j => kitB2 K (.ref (cA K i)) (.ref (cA K j)) (decide (i = j))) && (kitB2 K (.ref (cA K i)) (.ref (ga K "FlagError")) true && (kitB2 K (.ref (cA K i)) (.type "ValueError") true && (kitB2 K (.ref (cA K i)) (.type "LookupError") false && (kitB2 K (.ref (cA K i)) (.type "TypeError") false && kitB2 K (.ref (cA K i)) (.type "ArithmeticError") false))))))))
def ex (K : PySem.W.Frag) : Bool := (idx.all fun i => one K i) && (clsB K (ga K "FlagError") && (kitB2 K (.ref (ga K "FlagError")) (.ref (cA K 3)) false && kitB2 K (.ref (ga K "FlagError")) (.type "ValueError") true))
theorem mk0 {P : Program} {K : PySem.W.Frag} (c : SaysZ fa fn is ex K) (T : ErrTxt P K (cA K 0) (ma K (cA K 0) "__init__") (cellA K (ma K (cA K 0) "__init__")) (codeA K (ma K (cA K 0) "__init__"))) (no : PySem.W.findIn K (.ref (cA K 0)) "value" = some none) : MakesE P K (cA K 0) (flds 0) := by
  obtain ⟨oc, od, osl, kV, doc, pm, an, ct, lk, hcd⟩ := c.init 0 (i := i0)
  exact makes1 (f := "value") (scope := sc0) T ⟨rfl, rfl, rfl, by decide, rfl, rfl, rfl, by decide⟩ lk hcd ⟨_, fun L => ⟨rfl, rfl, rfl⟩⟩ (by decide) (by decide) no (fun s x v => .of_eq rfl) (fun s x v => .of_eq rfl)
theorem mk1 {P : Program} {K : PySem.W.Frag} (c : SaysZ fa fn is ex K) (T : ErrTxt P K (cA K 1) (ma K (cA K 1) "__init__") (cellA K (ma K (cA K 1) "__init__")) (codeA K (ma K (cA K 1) "__init__"))) (no : PySem.W.findIn K (.ref (cA K 1)) "value" = some none) : MakesE P K (cA K 1) (flds 1) := by
  obtain ⟨oc, od, osl, kV, doc, pm, an, ct, lk, hcd⟩ := c.init 1 (i := i1)
  exact makes1 (f := "value") (scope := sc1) T ⟨rfl, rfl, rfl, by decide, rfl, rfl, rfl, by decide⟩ lk hcd ⟨_, fun L => ⟨rfl, rfl, rfl⟩⟩ (by decide) (by decide) no (fun s x v => .of_eq rfl) (fun s x v => .of_eq rfl)
theorem mk2 {P : Program} {K : PySem.W.Frag} (c : SaysZ fa fn is ex K) (T : ErrTxt P K (cA K 2) (ma K (cA K 2) "__init__") (cellA K (ma K (cA K 2) "__init__")) (codeA K (ma K (cA K 2) "__init__"))) (no : PySem.W.findIn K (.ref (cA K 2)) "part" = some none) : MakesE P K (cA K 2) (flds 2) := by
  obtain ⟨oc, od, osl, kV, doc, pm, an, ct, lk, hcd⟩ := c.init 2 (i := i2)
  exact makes1 (f := "part") (scope := sc2) T ⟨rfl, rfl, rfl, by decide, rfl, rfl, rfl, by decide⟩ lk hcd ⟨_, fun L => ⟨rfl, rfl, rfl⟩⟩ (by decide) (by decide) no (fun s x v => .of_eq rfl) (fun s x v => .of_eq rfl)
theorem mk3 {P : Program} {K : PySem.W.Frag} (c : SaysZ fa fn is ex K) (T : ErrTxt P K (cA K 3) (ma K (cA K 3) "__init__") (cellA K (ma K (cA K 3) "__init__")) (codeA K (ma K (cA K 3) "__init__"))) (no : PySem.W.findIn K (.ref (cA K 3)) "value" = some none) : MakesE P K (cA K 3) (flds 3) := by
  obtain ⟨oc, od, osl, kV, doc, pm, an, ct, lk, hcd⟩ := c.init 3 (i := i3)
  exact makes1 (f := "value") (scope := sc3) T ⟨rfl, rfl, rfl, by decide, rfl, rfl, rfl, by decide⟩ lk hcd ⟨_, fun L => ⟨rfl, rfl, rfl⟩⟩ (by decide) (by decide) no (fun s x v => .of_eq rfl) (fun s x v => .of_eq rfl)
theorem mk4 {P : Program} {K : PySem.W.Frag} (c : SaysZ fa fn is ex K) (T : ErrTxt P K (cA K 4) (ma K (cA K 4) "__init__") (cellA K (ma K (cA K 4) "__init__")) (codeA K (ma K (cA K 4) "__init__"))) (no : PySem.W.findIn K (.ref (cA K 4)) "line" = some none) (no2 : PySem.W.findIn K (.ref (cA K 4)) "word" = some none) : MakesE P K (cA K 4) (flds 4) := by
  obtain ⟨oc, od, osl, kV, doc, pm, an, ct, lk, hcd⟩ := c.init 4 (i := i4)
  exact makes2 (f := "line") (g' := "word") (scope := sc4) T ⟨rfl, rfl, rfl, by decide, rfl, rfl, rfl, by decide⟩ lk hcd ⟨_, fun L => ⟨rfl, rfl, rfl⟩⟩ (by decide) (by decide) (by decide) (by decide) (by decide) no no2 (fun s x v u => .of_eq rfl) (fun s x v u => .of_eq rfl)
theorem mk5 {P : Program} {K : PySem.W.Frag} (c : SaysZ fa fn is ex K) (T : ErrTxt P K (cA K 5) (ma K (cA K 5) "__init__") (cellA K (ma K (cA K 5) "__init__")) (codeA K (ma K (cA K 5) "__init__"))) (no : PySem.W.findIn K (.ref (cA K 5)) "value" = some none) : MakesE P K (cA K 5) (flds 5) := by
  obtain ⟨oc, od, osl, kV, doc, pm, an, ct, lk, hcd⟩ := c.init 5 (i := i5)
  exact makes1 (f := "value") (scope := sc5) T ⟨rfl, rfl, rfl, by decide, rfl, rfl, rfl, by decide⟩ lk hcd ⟨_, fun L => ⟨rfl, rfl, rfl⟩⟩ (by decide) (by decide) no (fun s x v => .of_eq rfl) (fun s x v => .of_eq rfl)
theorem mk6 {P : Program} {K : PySem.W.Frag} (c : SaysZ fa fn is ex K) (T : ErrTxt P K (cA K 6) (ma K (cA K 6) "__init__") (cellA K (ma K (cA K 6) "__init__")) (codeA K (ma K (cA K 6) "__init__"))) (no : PySem.W.findIn K (.ref (cA K 6)) "value" = some none) : MakesE P K (cA K 6) (flds 6) := by
  obtain ⟨oc, od, osl, kV, doc, pm, an, ct, lk, hcd⟩ := c.init 6 (i := i6)
  exact makes1 (f := "value") (scope := sc6) T ⟨rfl, rfl, rfl, by decide, rfl, rfl, rfl, by decide⟩ lk hcd ⟨_, fun L => ⟨rfl, rfl, rfl⟩⟩ (by decide) (by decide) no (fun s x v => .of_eq rfl) (fun s x v => .of_eq rfl)
theorem mk7 {P : Program} {K : PySem.W.Frag} (c : SaysZ fa fn is ex K) (T : ErrTxt P K (cA K 7) (ma K (cA K 7) "__init__") (cellA K (ma K (cA K 7) "__init__")) (codeA K (ma K (cA K 7) "__init__"))) (no : PySem.W.findIn K (.ref (cA K 7)) "part" = some none) : MakesE P K (cA K 7) (flds 7) := by
  obtain ⟨oc, od, osl, kV, doc, pm, an, ct, lk, hcd⟩ := c.init 7 (i := i7)
  exact makes1 (f := "part") (scope := sc7) T ⟨rfl, rfl, rfl, by decide, rfl, rfl, rfl, by decide⟩ lk hcd ⟨_, fun L => ⟨rfl, rfl, rfl⟩⟩ (by decide) (by decide) no (fun s x v => .of_eq rfl) (fun s x v => .of_eq rfl)
theorem mk8 {P : Program} {K : PySem.W.Frag} (c : SaysZ fa fn is ex K) (T : ErrTxt P K (cA K 8) (ma K (cA K 8) "__init__") (cellA K (ma K (cA K 8) "__init__")) (codeA K (ma K (cA K 8) "__init__"))) (no : PySem.W.findIn K (.ref (cA K 8)) "part" = some none) : MakesE P K (cA K 8) (flds 8) := by
  obtain ⟨oc, od, osl, kV, doc, pm, an, ct, lk, hcd⟩ := c.init 8 (i := i8)
  exact makes1 (f := "part") (scope := sc8) T ⟨rfl, rfl, rfl, by decide, rfl, rfl, rfl, by decide⟩ lk hcd ⟨_, fun L => ⟨rfl, rfl, rfl⟩⟩ (by decide) (by decide) no (fun s x v => .of_eq rfl) (fun s x v => .of_eq rfl)
theorem mk9 {P : Program} {K : PySem.W.Frag} (c : SaysZ fa fn is ex K) (T : ErrTxt P K (cA K 9) (ma K (cA K 9) "__init__") (cellA K (ma K (cA K 9) "__init__")) (codeA K (ma K (cA K 9) "__init__"))) (no : PySem.W.findIn K (.ref (cA K 9)) "value" = some none) : MakesE P K (cA K 9) (flds 9) := by
  obtain ⟨oc, od, osl, kV, doc, pm, an, ct, lk, hcd⟩ := c.init 9 (i := i9)
  exact makes1 (f := "value") (scope := sc9) T ⟨rfl, rfl, rfl, by decide, rfl, rfl, rfl, by decide⟩ lk hcd ⟨_, fun L => ⟨rfl, rfl, rfl⟩⟩ (by decide) (by decide) no (fun s x v => .of_eq rfl) (fun s x v => .of_eq rfl)
theorem mk10 {P : Program} {K : PySem.W.Frag} (c : SaysZ fa fn is ex K) (T : ErrTxt P K (cA K 10) (ma K (cA K 10) "__init__") (cellA K (ma K (cA K 10) "__init__")) (codeA K (ma K (cA K 10) "__init__"))) (no : PySem.W.findIn K (.ref (cA K 10)) "part" = some none) : MakesE P K (cA K 10) (flds 10) := by
  obtain ⟨oc, od, osl, kV, doc, pm, an, ct, lk, hcd⟩ := c.init 10 (i := i10)
  exact makes1 (f := "part") (scope := sc10) T ⟨rfl, rfl, rfl, by decide, rfl, rfl, rfl, by decide⟩ lk hcd ⟨_, fun L => ⟨rfl, rfl, rfl⟩⟩ (by decide) (by decide) no (fun s x v => .of_eq rfl) (fun s x v => .of_eq rfl)
theorem mk11 {P : Program} {K : PySem.W.Frag} (c : SaysZ fa fn is ex K) (T : ErrTxt P K (cA K 11) (ma K (cA K 11) "__init__") (cellA K (ma K (cA K 11) "__init__")) (codeA K (ma K (cA K 11) "__init__"))) (no : PySem.W.findIn K (.ref (cA K 11)) "part" = some none) : MakesE P K (cA K 11) (flds 11) := by
  obtain ⟨oc, od, osl, kV, doc, pm, an, ct, lk, hcd⟩ := c.init 11 (i := i11)
  exact makes1 (f := "part") (scope := sc11) T ⟨rfl, rfl, rfl, by decide, rfl, rfl, rfl, by decide⟩ lk hcd ⟨_, fun L => ⟨rfl, rfl, rfl⟩⟩ (by decide) (by decide) no (fun s x v => .of_eq rfl) (fun s x v => .of_eq rfl)
theorem mk12 {P : Program} {K : PySem.W.Frag} (c : SaysZ fa fn is ex K) (T : ErrTxt P K (cA K 12) (ma K (cA K 12) "__init__") (cellA K (ma K (cA K 12) "__init__")) (codeA K (ma K (cA K 12) "__init__"))) (no : PySem.W.findIn K (.ref (cA K 12)) "part" = some none) : MakesE P K (cA K 12) (flds 12) := by
  obtain ⟨oc, od, osl, kV, doc, pm, an, ct, lk, hcd⟩ := c.init 12 (i := i12)
  exact makes1 (f := "part") (scope := sc12) T ⟨rfl, rfl, rfl, by decide, rfl, rfl, rfl, by decide⟩ lk hcd ⟨_, fun L => ⟨rfl, rfl, rfl⟩⟩ (by decide) (by decide) no (fun s x v => .of_eq rfl) (fun s x v => .of_eq rfl)
theorem mk13 {P : Program} {K : PySem.W.Frag} (c : SaysZ fa fn is ex K) (T : ErrTxt P K (cA K 13) (ma K (cA K 13) "__init__") (cellA K (ma K (cA K 13) "__init__")) (codeA K (ma K (cA K 13) "__init__"))) (no : PySem.W.findIn K (.ref (cA K 13)) "part" = some none) : MakesE P K (cA K 13) (flds 13) := by
  obtain ⟨oc, od, osl, kV, doc, pm, an, ct, lk, hcd⟩ := c.init 13 (i := i13)
  exact makes1 (f := "part") (scope := sc13) T ⟨rfl, rfl, rfl, by decide, rfl, rfl, rfl, by decide⟩ lk hcd ⟨_, fun L => ⟨rfl, rfl, rfl⟩⟩ (by decide) (by decide) no (fun s x v => .of_eq rfl) (fun s x v => .of_eq rfl)
theorem mk14 {P : Program} {K : PySem.W.Frag} (c : SaysZ fa fn is ex K) (T : ErrTxt P K (cA K 14) (ma K (cA K 14) "__init__") (cellA K (ma K (cA K 14) "__init__")) (codeA K (ma K (cA K 14) "__init__"))) (no : PySem.W.findIn K (.ref (cA K 14)) "value" = some none) : MakesE P K (cA K 14) (flds 14) := by
  obtain ⟨oc, od, osl, kV, doc, pm, an, ct, lk, hcd⟩ := c.init 14 (i := i14)
  exact makes1 (f := "value") (scope := sc14) T ⟨rfl, rfl, rfl, by decide, rfl, rfl, rfl, by decide⟩ lk hcd ⟨_, fun L => ⟨rfl, rfl, rfl⟩⟩ (by decide) (by decide) no (fun s x v => .of_eq rfl) (fun s x v => .of_eq rfl)
theorem mk15 {P : Program} {K : PySem.W.Frag} (c : SaysZ fa fn is ex K) (T : ErrTxt P K (cA K 15) (ma K (cA K 15) "__init__") (cellA K (ma K (cA K 15) "__init__")) (codeA K (ma K (cA K 15) "__init__"))) (no : PySem.W.findIn K (.ref (cA K 15)) "value" = some none) : MakesE P K (cA K 15) (flds 15) := by
  obtain ⟨oc, od, osl, kV, doc, pm, an, ct, lk, hcd⟩ := c.init 15 (i := i15)
  exact makes1 (f := "value") (scope := sc15) T ⟨rfl, rfl, rfl, by decide, rfl, rfl, rfl, by decide⟩ lk hcd ⟨_, fun L => ⟨rfl, rfl, rfl⟩⟩ (by decide) (by decide) no (fun s x v => .of_eq rfl) (fun s x v => .of_eq rfl)
theorem mk16 {P : Program} {K : PySem.W.Frag} (c : SaysZ fa fn is ex K) (T : ErrTxt P K (cA K 16) (ma K (cA K 16) "__init__") (cellA K (ma K (cA K 16) "__init__")) (codeA K (ma K (cA K 16) "__init__"))) (no : PySem.W.findIn K (.ref (cA K 16)) "part" = some none) : MakesE P K (cA K 16) (flds 16) := by
  obtain ⟨oc, od, osl, kV, doc, pm, an, ct, lk, hcd⟩ := c.init 16 (i := i16)
  exact makes1 (f := "part") (scope := sc16) T ⟨rfl, rfl, rfl, by decide, rfl, rfl, rfl, by decide⟩ lk hcd ⟨_, fun L => ⟨rfl, rfl, rfl⟩⟩ (by decide) (by decide) no (fun s x v => .of_eq rfl) (fun s x v => .of_eq rfl)
theorem mk17 {P : Program} {K : PySem.W.Frag} (c : SaysZ fa fn is ex K) (T : ErrTxt P K (cA K 17) (ma K (cA K 17) "__init__") (cellA K (ma K (cA K 17) "__init__")) (codeA K (ma K (cA K 17) "__init__"))) (no : PySem.W.findIn K (.ref (cA K 17)) "part" = some none) : MakesE P K (cA K 17) (flds 17) := by
  obtain ⟨oc, od, osl, kV, doc, pm, an, ct, lk, hcd⟩ := c.init 17 (i := i17)
  exact makes1 (f := "part") (scope := sc17) T ⟨rfl, rfl, rfl, by decide, rfl, rfl, rfl, by decide⟩ lk hcd ⟨_, fun L => ⟨rfl, rfl, rfl⟩⟩ (by decide) (by decide) no (fun s x v => .of_eq rfl) (fun s x v => .of_eq rfl)
theorem mk18 {P : Program} {K : PySem.W.Frag} (c : SaysZ fa fn is ex K) (T : ErrTxt P K (cA K 18) (ma K (cA K 18) "__init__") (cellA K (ma K (cA K 18) "__init__")) (codeA K (ma K (cA K 18) "__init__"))) (no : PySem.W.findIn K (.ref (cA K 18)) "part" = some none) : MakesE P K (cA K 18) (flds 18) := by
  obtain ⟨oc, od, osl, kV, doc, pm, an, ct, lk, hcd⟩ := c.init 18 (i := i18)
  exact makes1 (f := "part") (scope := sc18) T ⟨rfl, rfl, rfl, by decide, rfl, rfl, rfl, by decide⟩ lk hcd ⟨_, fun L => ⟨rfl, rfl, rfl⟩⟩ (by decide) (by decide) no (fun s x v => .of_eq rfl) (fun s x v => .of_eq rfl)
theorem mk19 {P : Program} {K : PySem.W.Frag} (c : SaysZ fa fn is ex K) (T : ErrTxt P K (cA K 19) (ma K (cA K 19) "__init__") (cellA K (ma K (cA K 19) "__init__")) (codeA K (ma K (cA K 19) "__init__"))) (no : PySem.W.findIn K (.ref (cA K 19)) "word" = some none) : MakesE P K (cA K 19) (flds 19) := by
  obtain ⟨oc, od, osl, kV, doc, pm, an, ct, lk, hcd⟩ := c.init 19 (i := i19)
  exact makes1 (f := "word") (scope := sc19) T ⟨rfl, rfl, rfl, by decide, rfl, rfl, rfl, by decide⟩ lk hcd ⟨_, fun L => ⟨rfl, rfl, rfl⟩⟩ (by decide) (by decide) no (fun s x v => .of_eq rfl) (fun s x v => .of_eq rfl)
theorem mk20 {P : Program} {K : PySem.W.Frag} (c : SaysZ fa fn is ex K) (T : ErrTxt P K (cA K 20) (ma K (cA K 20) "__init__") (cellA K (ma K (cA K 20) "__init__")) (codeA K (ma K (cA K 20) "__init__"))) (no : PySem.W.findIn K (.ref (cA K 20)) "end" = some none) : MakesE P K (cA K 20) (flds 20) := by
  obtain ⟨oc, od, osl, kV, doc, pm, an, ct, lk, hcd⟩ := c.init 20 (i := i20)
  exact makes1 (f := "end") (scope := sc20) T ⟨rfl, rfl, rfl, by decide, rfl, rfl, rfl, by decide⟩ lk hcd ⟨_, fun L => ⟨rfl, rfl, rfl⟩⟩ (by decide) (by decide) no (fun s x v => .of_eq rfl) (fun s x v => .of_eq rfl)
theorem mk21 {P : Program} {K : PySem.W.Frag} (c : SaysZ fa fn is ex K) (T : ErrTxt P K (cA K 21) (ma K (cA K 21) "__init__") (cellA K (ma K (cA K 21) "__init__")) (codeA K (ma K (cA K 21) "__init__"))) (no : PySem.W.findIn K (.ref (cA K 21)) "what" = some none) (no2 : PySem.W.findIn K (.ref (cA K 21)) "most" = some none) : MakesE P K (cA K 21) (flds 21) := by
  obtain ⟨oc, od, osl, kV, doc, pm, an, ct, lk, hcd⟩ := c.init 21 (i := i21)
  exact makes2 (f := "what") (g' := "most") (scope := sc21) T ⟨rfl, rfl, rfl, by decide, rfl, rfl, rfl, by decide⟩ lk hcd ⟨_, fun L => ⟨rfl, rfl, rfl⟩⟩ (by decide) (by decide) (by decide) (by decide) (by decide) no no2 (fun s x v u => .of_eq rfl) (fun s x v u => .of_eq rfl)
theorem mk22 {P : Program} {K : PySem.W.Frag} (c : SaysZ fa fn is ex K) (T : ErrTxt P K (cA K 22) (ma K (cA K 22) "__init__") (cellA K (ma K (cA K 22) "__init__")) (codeA K (ma K (cA K 22) "__init__"))) (no : PySem.W.findIn K (.ref (cA K 22)) "end" = some none) : MakesE P K (cA K 22) (flds 22) := by
  obtain ⟨oc, od, osl, kV, doc, pm, an, ct, lk, hcd⟩ := c.init 22 (i := i22)
  exact makes1 (f := "end") (scope := sc22) T ⟨rfl, rfl, rfl, by decide, rfl, rfl, rfl, by decide⟩ lk hcd ⟨_, fun L => ⟨rfl, rfl, rfl⟩⟩ (by decide) (by decide) no (fun s x v => .of_eq rfl) (fun s x v => .of_eq rfl)
theorem mk23 {P : Program} {K : PySem.W.Frag} (c : SaysZ fa fn is ex K) (T : ErrTxt P K (cA K 23) (ma K (cA K 23) "__init__") (cellA K (ma K (cA K 23) "__init__")) (codeA K (ma K (cA K 23) "__init__"))) (no : PySem.W.findIn K (.ref (cA K 23)) "most" = some none) : MakesE P K (cA K 23) (flds 23) := by
  obtain ⟨oc, od, osl, kV, doc, pm, an, ct, lk, hcd⟩ := c.init 23 (i := i23)
  exact makes1 (f := "most") (scope := sc23) T ⟨rfl, rfl, rfl, by decide, rfl, rfl, rfl, by decide⟩ lk hcd ⟨_, fun L => ⟨rfl, rfl, rfl⟩⟩ (by decide) (by decide) no (fun s x v => .of_eq rfl) (fun s x v => .of_eq rfl)
theorem mk24 {P : Program} {K : PySem.W.Frag} (c : SaysZ fa fn is ex K) (T : ErrTxt P K (cA K 24) (ma K (cA K 24) "__init__") (cellA K (ma K (cA K 24) "__init__")) (codeA K (ma K (cA K 24) "__init__"))) (no : PySem.W.findIn K (.ref (cA K 24)) "end" = some none) : MakesE P K (cA K 24) (flds 24) := by
  obtain ⟨oc, od, osl, kV, doc, pm, an, ct, lk, hcd⟩ := c.init 24 (i := i24)
  exact makes1 (f := "end") (scope := sc24) T ⟨rfl, rfl, rfl, by decide, rfl, rfl, rfl, by decide⟩ lk hcd ⟨_, fun L => ⟨rfl, rfl, rfl⟩⟩ (by decide) (by decide) no (fun s x v => .of_eq rfl) (fun s x v => .of_eq rfl)
theorem mk25 {P : Program} {K : PySem.W.Frag} (c : SaysZ fa fn is ex K) (T : ErrTxt P K (cA K 25) (ma K (cA K 25) "__init__") (cellA K (ma K (cA K 25) "__init__")) (codeA K (ma K (cA K 25) "__init__"))) (no : PySem.W.findIn K (.ref (cA K 25)) "at" = some none) : MakesE P K (cA K 25) (flds 25) := by
  obtain ⟨oc, od, osl, kV, doc, pm, an, ct, lk, hcd⟩ := c.init 25 (i := i25)
  exact makes1 (f := "at") (scope := sc25) T ⟨rfl, rfl, rfl, by decide, rfl, rfl, rfl, by decide⟩ lk hcd ⟨_, fun L => ⟨rfl, rfl, rfl⟩⟩ (by decide) (by decide) no (fun s x v => .of_eq rfl) (fun s x v => .of_eq rfl)
theorem mk26 {P : Program} {K : PySem.W.Frag} (c : SaysZ fa fn is ex K) (T : ErrTxt P K (cA K 26) (ma K (cA K 26) "__init__") (cellA K (ma K (cA K 26) "__init__")) (codeA K (ma K (cA K 26) "__init__"))) : MakesE0 P K (cA K 26) := by
  obtain ⟨oc, od, osl, kV, doc, pm, an, ct, lk, hcd⟩ := c.init 26 (i := i26)
  exact makes0 (scope := sc26) T ⟨rfl, rfl, rfl, by decide, rfl, rfl, rfl, by decide⟩ lk hcd ⟨_, fun L => ⟨rfl, rfl, rfl⟩⟩ (fun s x => .of_eq rfl)
theorem cf_of {P : Program} {K : PySem.W.Frag} {h : Heap} {mg : Str → Option Value} (X : K.In h) (G : h.Ns mainGlobals mg) (hf : (P.main.file : Str) = "/claim/cut.py") (top : (P.main.scope.names.lookup ("super" : Str)).isSome = false) (c : SaysZ fa fn is ex K) : Cf P K mg := by
  obtain ⟨hall, hF⟩ := ba c.more
  obtain ⟨hF1, hF⟩ := ba hF
  obtain ⟨hF2, hF3⟩ := ba hF
  have at_ : ∀ i, i < 27 → one K i = true := fun i hi => List.all_eq_true.mp hall i (List.mem_range.mpr hi)
  have a1 : ∀ i, i < 27 → txtB "/claim/cut.py" K (cls i) = true := fun i hi => (ba (at_ i hi)).1
  have r1 := fun i hi => (ba (at_ i hi)).2
  have a2 := fun i hi => (ba (r1 i hi)).1
  have r2 := fun i hi => (ba (r1 i hi)).2
  have a3 := fun i hi => (ba (r2 i hi)).1
  have r3 := fun i hi => (ba (r2 i hi)).2
  have a4 := fun i hi => (ba (r3 i hi)).1
  have r4 := fun i hi => (ba (r3 i hi)).2
  have a5 := fun i hi => (ba (r4 i hi)).1
  have r5 := fun i hi => (ba (r4 i hi)).2
  have a6 := fun i hi => (ba (r5 i hi)).1
  have r6 := fun i hi => (ba (r5 i hi)).2
  have a7 := fun i hi => (ba (r6 i hi)).1
  have r7 := fun i hi => (ba (r6 i hi)).2
  have a8 := fun i hi => (ba (r7 i hi)).1
  have r8 := fun i hi => (ba (r7 i hi)).2
  have a9 := fun i hi => (ba (r8 i hi)).1
  have a10 := fun i hi => (ba (r8 i hi)).2
  have no : ∀ i, i < 27 → ∀ f ∈ flds i, PySem.W.findIn K (.ref (cA K i)) f = some none := fun i hi f hf => eqO_ok (List.all_eq_true.mp (a4 i hi) f hf)
  have tx : ∀ i, i < 27 → ErrTxt P K (cA K i) (ma K (cA K i) "__init__") (cellA K (ma K (cA K i) "__init__")) (codeA K (ma K (cA K i) "__init__")) := fun i hi => txtB_ok (a1 i hi) hf top
  have FE := exc_ok (c.d.fact 22 (f := .exc "FlagError") rfl)
  exact {
    mkr := fun i hi => by
      have all : i = 0 ∨ i = 1 ∨ i = 2 ∨ i = 3 ∨ i = 4 ∨ i = 5 ∨ i = 6 ∨ i = 7 ∨ i = 8 ∨ i = 9 ∨ i = 10 ∨ i = 11 ∨ i = 12 ∨ i = 13 ∨ i = 14 ∨ i = 15 ∨ i = 16 ∨ i = 17 ∨ i = 18 ∨ i = 19 ∨ i = 20 ∨ i = 21 ∨ i = 22 ∨ i = 23 ∨ i = 24 ∨ i = 25 := by omega
      rcases all with rfl | rfl | rfl | rfl | rfl | rfl | rfl | rfl | rfl | rfl | rfl | rfl | rfl | rfl | rfl | rfl | rfl | rfl | rfl | rfl | rfl | rfl | rfl | rfl | rfl | rfl
      · exact mk0 c (tx 0 (by decide)) (no 0 (by decide) _ (by decide))
      · exact mk1 c (tx 1 (by decide)) (no 1 (by decide) _ (by decide))
      · exact mk2 c (tx 2 (by decide)) (no 2 (by decide) _ (by decide))
      · exact mk3 c (tx 3 (by decide)) (no 3 (by decide) _ (by decide))
      · exact mk4 c (tx 4 (by decide)) (no 4 (by decide) _ (by decide)) (no 4 (by decide) _ (by decide))
      · exact mk5 c (tx 5 (by decide)) (no 5 (by decide) _ (by decide))
      · exact mk6 c (tx 6 (by decide)) (no 6 (by decide) _ (by decide))
      · exact mk7 c (tx 7 (by decide)) (no 7 (by decide) _ (by decide))
      · exact mk8 c (tx 8 (by decide)) (no 8 (by decide) _ (by decide))
      · exact mk9 c (tx 9 (by decide)) (no 9 (by decide) _ (by decide))
      · exact mk10 c (tx 10 (by decide)) (no 10 (by decide) _ (by decide))
      · exact mk11 c (tx 11 (by decide)) (no 11 (by decide) _ (by decide))
      · exact mk12 c (tx 12 (by decide)) (no 12 (by decide) _ (by decide))
      · exact mk13 c (tx 13 (by decide)) (no 13 (by decide) _ (by decide))
      · exact mk14 c (tx 14 (by decide)) (no 14 (by decide) _ (by decide))
      · exact mk15 c (tx 15 (by decide)) (no 15 (by decide) _ (by decide))
      · exact mk16 c (tx 16 (by decide)) (no 16 (by decide) _ (by decide))
      · exact mk17 c (tx 17 (by decide)) (no 17 (by decide) _ (by decide))
      · exact mk18 c (tx 18 (by decide)) (no 18 (by decide) _ (by decide))
      · exact mk19 c (tx 19 (by decide)) (no 19 (by decide) _ (by decide))
      · exact mk20 c (tx 20 (by decide)) (no 20 (by decide) _ (by decide))
      · exact mk21 c (tx 21 (by decide)) (no 21 (by decide) _ (by decide)) (no 21 (by decide) _ (by decide))
      · exact mk22 c (tx 22 (by decide)) (no 22 (by decide) _ (by decide))
      · exact mk23 c (tx 23 (by decide)) (no 23 (by decide) _ (by decide))
      · exact mk24 c (tx 24 (by decide)) (no 24 (by decide) _ (by decide))
      · exact mk25 c (tx 25 (by decide)) (no 25 (by decide) _ (by decide))
    mk0 := mk26 c (tx 26 (by decide))
    ec := fun i hi => clsB_ok (a2 i hi)
    g := fun i hi => PySem.W.mg_of X G (eqO_ok (a3 i hi))
    no := no
    kit := fun i j hi hj => kitB2_ok (List.all_eq_true.mp (a5 i hi) j (List.mem_range.mpr hj))
    gF := glo_ok X G (c.d.fact 21 (f := .glo "FlagError") rfl)
    ecF := clsB_ok hF1
    xF := FE.1
    kF := fun i hi => kitB2_ok (a6 i hi)
    kV := fun i hi => kitB2_ok (a7 i hi)
    kL := fun i hi => kitB2_ok (a8 i hi)
    kT := fun i hi => kitB2_ok (a9 i hi)
    kA := fun i hi => kitB2_ok (a10 i hi)
    kFS := kitB2_ok hF2
    kFV := kitB2_ok hF3 }
end K01
set_option Elab.async false
set_option linter.all false
set_option maxRecDepth 100000
set_option maxHeartbeats 0
namespace K01
open PySem PySem.Spec PyProof.Rows L2 Gd Erl He PySem.Erx Hz
abbrev R : PySem.W.OpenRow := PySem.W.OpenLaw.row PySem.Challenge.rw_flagfree_k01_errors_and_their_fields
abbrev hk : PySem.W.Hook := hookZ 4 fa fn is ex
def ob (s : PySem.W.SharedT) : AlZ := obsZ 4 fa fn is ex (HandSHeadRun.getT s)
theorem ob_eq (s : PySem.W.SharedT) : ob s = hk.obs s.abs := obsZ_eq (HandSHeadRun.getT_eq s)
def names0 : List Str := ["FlagError", "BadSigns", "BadWord", "BadBars", "BadSign", "BadText", "BadSent", "BadEnd", "BadMove"]
def names1 : List Str := ["BadMenu", "BadPrice", "BadSetting", "BadRate", "BadRule", "BadTable", "BadContent", "BadNumber", "BadLog"]
def names2 : List Str := ["BadLayer", "BadLink", "BadLine", "NoEnd", "TooMany", "NoWay", "NoRound", "Stuck", "Refused"]
def names3 : List Str := ["NoChange", "_law_pen", "_law_draw", "_law_pick", "_law_value", "_law_made", "_law_named", "_law_fields", "_law_classes"]
def names : List Str := names0 ++ names1 ++ names2 ++ names3
theorem run (w : World) : HandSHeadRun.RunEq R (PySem.W.view R.prog [38]) hk ob 20000 names w := by
  intro os
  kernel_rfl
theorem file_eq : (PySem.Challenge.pw_flagfree_k01_errors_and_their_fields.main.file : Str) = "/claim/cut.py" := by kernel_rfl
theorem top_eq : (PySem.Challenge.pw_flagfree_k01_errors_and_their_fields.main.scope.names.lookup ("super" : Str)).isSome = false := by decide +kernel
theorem facts {w : World} {K : PySem.W.Frag} {h : Heap} {mg : Str → Option Value} {f : Addr} (X : K.In h) (G : h.Ns mainGlobals mg) (hfa : mg ("law" : Str) = some (.ref f)) (c : SaysZ fa fn is ex K) :
    ∃ fd : FuncData, (∀ (s : Shared) (v : Value), BindsTo s fd ⟨[v], []⟩ [("_law_script", v)]) ∧ ∀ base : Heap, K.In base → base.Ns mainGlobals mg → FnG PySem.Challenge.pw_flagfree_k01_errors_and_their_fields w K mg base CX0 5 f fd ["_law_script"] (spLaw K) := by
  have Z : Cf PySem.Challenge.pw_flagfree_k01_errors_and_their_fields K mg := cf_of X G file_eq top_eq c
  obtain ⟨dP, FP⟩ := c.d.def_ 0 (d := df0) rfl
  obtain ⟨dD, FD⟩ := c.d.def_ 1 (d := df1) rfl
  obtain ⟨dK, FK⟩ := c.d.def_ 2 (d := df2) rfl
  obtain ⟨dV, FV⟩ := c.d.def_ 3 (d := df3) rfl
  obtain ⟨dM, FM⟩ := c.d.def_ 4 (d := df4) rfl
  obtain ⟨dN, FN⟩ := c.d.def_ 5 (d := df5) rfl
  obtain ⟨dF, FF⟩ := c.d.def_ 6 (d := df6) rfl
  obtain ⟨dC, FC⟩ := c.d.def_ 7 (d := df7) rfl
  obtain ⟨fd, FL⟩ := c.d.def_ 8 (d := df8) rfl
  have T : Blt mg := ⟨free_ok X G (c.d.fact 9 (f := .free "int") rfl), free_ok X G (c.d.fact 10 (f := .free "len") rfl), free_ok X G (c.d.fact 11 (f := .free "abs") rfl), free_ok X G (c.d.fact 12 (f := .free "list") rfl), free_ok X G (c.d.fact 13 (f := .free "range") rfl),
    free_ok X G (c.d.fact 14 (f := .free "repr") rfl), free_ok X G (c.d.fact 15 (f := .free "isinstance") rfl), free_ok X G (c.d.fact 16 (f := .free "super") rfl), free_ok X G (c.d.fact 17 (f := .free "ValueError") rfl), free_ok X G (c.d.fact 18 (f := .free "LookupError") rfl),
    free_ok X G (c.d.fact 19 (f := .free "TypeError") rfl), free_ok X G (c.d.fact 20 (f := .free "ArithmeticError") rfl)⟩
  have S : Defs K mg _ _ _ _ _ _ _ _ dP dD dK dV dM dN dF dC := ⟨FP, FD, FK, FV, FM, FN, FF, FC, glo_ok X G (c.d.fact 0 (f := .glo "_law_pen") rfl), glo_ok X G (c.d.fact 1 (f := .glo "_law_draw") rfl), glo_ok X G (c.d.fact 2 (f := .glo "_law_pick") rfl), glo_ok X G (c.d.fact 3 (f := .glo "_law_value") rfl),
    glo_ok X G (c.d.fact 4 (f := .glo "_law_made") rfl), glo_ok X G (c.d.fact 5 (f := .glo "_law_named") rfl), glo_ok X G (c.d.fact 6 (f := .glo "_law_fields") rfl), glo_ok X G (c.d.fact 7 (f := .glo "_law_classes") rfl)⟩
  have e := hfa.symm.trans (glo_ok X G (c.d.fact 8 (f := .glo "law") rfl))
  cases e
  have b := FunD.bindsA (ps := ["_law_script"]) FL fun _ _ _ _ _ _ us hl => match us, hl with | [_], _ => rfl
  exact ⟨fd, fun s v => b s [v] rfl, fun base _ _ => ok_law FL T Z S⟩
end K01
open PySem PySem.W PySem.Calls PyProof.Rows
theorem PySem.Challenge.cw_flagfree_k01_errors_and_their_fields_holds : PySem.Challenge.rw_flagfree_k01_errors_and_their_fields.Holds := by
  w_on; o_law
  refine HandSHeadRun.head_any (r := OpenLaw.row PySem.Challenge.rw_flagfree_k01_errors_and_their_fields) (q := view (OpenLaw.row PySem.Challenge.rw_flagfree_k01_errors_and_their_fields).prog [38]) (H := K01.hk) (ob := K01.ob) (M := 20000) (loose := K01.names) (d := HandSHeadRun.topDef (OpenLaw.row PySem.Challenge.rw_flagfree_k01_errors_and_their_fields).prog 38) (kwd := []) K01.ob_eq
    (by kernel_rfl) (fun s => by kernel_rfl) K01.run (by kernel_rfl) (by kernel_rfl) (by kernel_rfl) (by rfl) (by first | assumption | decide +kernel) (by decide +kernel) ⟨rfl, rfl, rfl, rfl, rfl, by decide +kernel⟩ ?hw ?hc
  case hw => w_witness2
  case hc =>
    refine Gd.walkG (l := PySem.Challenge.rw_flagfree_k01_errors_and_their_fields) (n := 63) (k := 5) (x := "_law_script") (CX := fun _ => L2.CX0) rfl (by decide) (by kernel_rfl) ⟨rfl, by decide, by decide⟩ ?F (fun _ _ _ _ _ z => z)
    intro w mg fa h Y G hmg0
    obtain ⟨K, KX, c⟩ := Y
    have hmg : mg ("law" : PySem.Str) = some (.ref fa) := by
      have e : (HandSHeadRun.topDef (OpenLaw.row PySem.Challenge.rw_flagfree_k01_errors_and_their_fields).prog 38).name = ("law" : PySem.Str) := by kernel_rfl
      rw [← e]
      exact hmg0
    obtain ⟨fd, hb, hF⟩ := K01.facts (w := w) KX G hmg c
    exact ⟨K, fd, K01.spLaw K, KX, hb, fun H a ns hl _ hS => ⟨a, ns, rfl, hS, fun _ => rfl⟩, hF⟩
