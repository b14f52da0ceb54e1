import PyProof.Rows.All
import Wide.All
import OpenK.AllK
import Wide.FinOn
import KE.KExcSuper
import HandS.Base
import HandS.Call
import HandS.Exc
import HandS.ExcInit
import HandS.ExcSuper
import HandS.ExcCtx
import HandS.ExcOwn
import HandS.List
import HandS.Comp
import HandS.Dict
import HandS.Iter
import HandS.Text
import HandS.ExcValue
import HandS.NoneIn
import PyProof.ToksMono
import HandS.HotCalls
import HandS.Words
import HandS.WordsExc
import HandS.Defaults
import HandS.CallSlots
import HandS.Wide
import KE.IntBitsLaws
import HandS.IsInst
import HandS.StrMore
import HandS.More
import PyProof.CollectIter
import KE.KUnpack
import HandS.Deep
import PyProof.P3In
import KE.KEqDict
import PyProof.EqKinds
import HandS.Conv
import HandS.Style
import HandS.Head0
import HandS.Head1
import HandS.Head2
import HandS.HeadEnd
import HandS.EndBits
import HandS.HeadHook1
import HandS.HeadHook2
import HandS.SetTxt0
import HandS.SetFor
import HandS.Strs
import PyProof.Rows.SortShellAny
import HandS.Replace
import HandS.ReplaceList
import HandS.ReplaceLit
import KE.KMinBuiltin
import HandS.SortKw
import HandS.ExcIs
import HandS.ExcField
import HandS.Hot
import PyProof.ReprRoads
import HandS.Set
import PyProof.ZipIter
import HandS.Zip0
import PyProof.TupleKey
import PyProof.DictRoadsH
import PyProof.Rows.TupDisplay
import PyProof.StrWalks
import HandS.DictComp
import PyProof.ListIndex
import KE.KStateDown
import PySem.Challenge.RW_plugnames_k86_errors_are_distinct
section
set_option Elab.async false
set_option linter.all false
set_option maxRecDepth 100000
set_option maxHeartbeats 2000000
/-! an own exception class whose __init__ says super().__init__(text); slf.f = x -/
namespace PyD
open PySem PySem.Spec PyProof.Rows L2 PySem.W PySem.Calls
section
variable {P : Program} {w : World} {A : Around} {K : Frag} {mg : Str → Option Value} {base : Heap} {E : Value → Shared → Prop} {s : Shared}
  {C fI cc cda e t0 oa : Addr} {ox : Obj}
/-- how the call is read (its places in the text) -/
def EvI (txt : Str) (n1 : Nat) (q0 q1 q2 q3 q4 : Pos) (env : PySem.Env) : Prop :=
  ∃ pl : Sem Bool, eval (.Call (.Attribute (.Call (.Name "super" q0) [] [] q1) "__init__" q2) [.Constant (.str txt) n1 q3] [] q4) env = (do
      let ov ← attributeBase (.Call (.Name "super" q0) [] [] q1) "__init__" env (eval (.Call (.Name "super" q0) [] [] q1) env)
      standAt q2.atName
      let (f, first) ← holding [ov] (getMethod ov "__init__" pl)
      callWith q4 f first (backTo q4 (starEach [.Constant (.str txt) n1 q3] env)) [])
/-- super().__init__(text) -/
theorem super_init {body : List Stmt} {qual : Str} {scope : Scope} {L : Addr} {m : Str → Option Value} {fd : FuncData} {ar : Arg} {vs : Array Value} {file txt slf : Str} {tf : Tok} {n1 : Nat} {q0 q1 q2 q3 q4 q5 : Pos}
    {oc ccl cl : Value} {od cdd cld : Option Addr} {osl ccs csl : Array (Option Value)} {nm q : Str} {N : Addr} {bs bm : List Value} {sn : List Str} {sub : List Value} {ab : Bool} {col : Option Bool} {dd : Option Addr} {k0 k1 k2 k3 k5 : Option Value} {Q : Flow → Shared → Prop}
    (md : Mod K mg base) (bk : ∀ b o, base.get? b = some o → s.heap.get? b = some o)
    (ns : s.heap.Ns L m) (hv : m slf = some (.ref e)) (he : s.heap.get? e = some (excObj C t0 none .none))
    (hC : K.lookup C = some (excClassObj nm q C N bs bm true sn sub ab col dd k0 k1 k2 k3 k5 "ValueError.__new__"))
    (hbm : PySem.HandSPX.refsVE bm = true)
    (hf : K.lookup fI = some ⟨oc, od, .func fd, osl⟩) (hp : (fd.params.posonlyargs ++ fd.params.args).head? = some ar) (har : ar.arg = slf)
    (hcode : K.lookup cda = some ⟨ccl, cdd, .fields vs, ccs⟩) (hvs : vs[2]? = some (.str file tf)) (hfile : ((P.main.file : Str) == file) = true)
    (hcell : K.lookup cc = some ⟨cl, cld, .cell (some (.ref C)), csl⟩) (hmro : mroIn K C (.ref C) = some true) (hsup : nsIn K mainGlobals "super" = some none)
    (hany : nsIn K cStatics "thirdparty.any" = some none) (hm : ks_superIn K C C "__init__" = some (some (.builtin "ValueError.__init__"))) (hB : subIn K (.ref C) (.type "ValueError") = some true)
    (hks : scope.names.lookup ("super" : Str) = some .globalImplicit) (hkc : scope.names.lookup ("__class__" : Str) = some .free) (hka : scope.names.lookup slf = some .local) (hk : scope.kind = .function)
    (htop : (P.main.scope.names.lookup ("super" : Str)).isSome = false) (hev : EvI txt n1 q0 q1 q2 q3 q4 (ksEnv qual scope L fI (.ref cda) cc))
    (h : ∀ h' t1 tk, (∀ b o, b ≠ e → s.heap.get? b = some o → h'.get? b = some o) → h'.get? e = some (excObj C t1 none .none) → Q .next { s with heap := h', toks := tk }) :
    _root_.PySem.wpAt (model P w) A (.func body (ksEnv qual scope L fI (.ref cda) cc)) (exec (.Expr (.Call (.Attribute (.Call (.Name "super" q0) [] [] q1) "__init__" q2) [.Constant (.str txt) n1 q3] [] q4) q5) (ksEnv qual scope L fI (.ref cda) cc)) Q E s := by
  subst har
  have X : K.In s.heap := md.kin.keeps bk
  have hcl : clsIn K C = some { name := nm, bases := bs, mro := .ref C :: bm, ns := N, qualname := q, hasDict := true, slotNames := sn, subclasses := sub, abstract := ab, collection := col, hasDel := false } := by unfold clsIn; rw [hC] <;> rfl
  obtain ⟨mb, hb1, hb2⟩ := md.blt
  refine ks_wpAt_Expr_any ?_ (by unfold interactive; rw [show (ksEnv qual scope L fI (.ref cda) cc).scope.kind = .function from hk]; rfl)
  obtain ⟨pl, hev⟩ := hev
  refine ks_wpAt_MethodCall (pl := pl) ?_ hev
  refine ks_wpAt_super_base (env := ksEnv qual scope L fI (.ref cda) cc) hks hkc rfl rfl (X _ _ hf) rfl hp rfl (X _ _ hcode) rfl hvs hfile htop ?_
  refine ks_loadName_global hk hks (loadGlobal_builtin (env := ksEnv qual scope L fI (.ref cda) cc) (md.glob.keeps bk) (mg_none_of md.kin md.glob hsup) (hb1.keeps bk) ((hb2 "super" (by decide)).trans (by rfl)) ⟨rfl, ?_⟩)
  refine wpAny_loadName_free hk hkc rfl ⟨_, X _ _ hcell, rfl⟩ ?_
  refine wpAny_loadName_local hk hka ns hv ?_
  have hD1 : s.heap.get? C = some _ := X _ _ hC
  refine ks_wpAny_isType_cls hD1 rfl ⟨rfl, ?_⟩
  obtain ⟨hh, g, d, t, os⟩ := s
  refine ks_wpAny_call_super hD1 rfl he rfl (fun c z => nomatch z) (looks_mroIn X hmro) (fun h1 e1 k1 => ?_)
  have ne : C ≠ e := fun z => by
    rw [z, he] at hD1
    cases hD1
  have up : ∀ {K' : Frag}, K'.In hh → K'.In h1 := fun z => z.keeps k1
  have X1 : K.In h1 := X.keeps k1
  have he1 : h1.get? e = some (excObj C t0 none .none) := k1 _ _ he
  have I1 : InstAt h1 e (excObj C t0 none .none) C none := ⟨he1, rfl, rfl, trivial⟩
  have hI : Looks (model P w) h1 (isInstance (.ref e) (.type "ValueError")) true := I1.type.andThen (looks_subIn X1 hB)
  refine kxs_getMethod kxs_ValueError (l₀ := .ref C :: bm) e1 (looks_opaque X1 hany) (fun A Q E s k q => wpAny_bind ((looks_clsIn X1 hcl) A _ E s k (wpAny_pure q))) rfl X1 ?_ hI ne.symm (by decide) ?_
  · unfold ks_superIn at hm
    rw [hcl] at hm
    exact hm
  rw [show starEach [(Expr.Constant (.str txt) n1 q3)] (ksEnv qual scope L fI (.ref cda) cc) = (false, eval (Expr.Constant (.str txt) n1 q3) (ksEnv qual scope L fI (.ref cda) cc)) :: starEach [] (ksEnv qual scope L fI (.ref cda) cc) from rfl]
  have hsz : e < h1.objs.size := Heap.lt_size he1
  have hu : (h1.push (kxs_mw "ValueError.__init__" e)).get? h1.objs.size = some (kxs_mw "ValueError.__init__" e) := Heap.get?_push_at rfl rfl
  have he2 : (h1.push (kxs_mw "ValueError.__init__" e)).get? e = some (excObj C t0 none .none) := Heap.get?_push_of_some _ he1
  refine kxs_callWith (i := "ValueError.__init__") (x := e) rfl ?_
  refine evalArgs_plain ?_
  show wpAny _ _ (spliced [(false, eval (Expr.Constant (.str txt) n1 q3) (ksEnv qual scope L fI (.ref cda) cc))]) _ _ _
  refine Calls.spliced_cons (Calls.Constant_str ?_)
  refine Calls.spliced_nil ?_
  refine ⟨hu, ?_⟩
  rw [List.nil_append]
  refine wpAny_call (codeAny_of_tree ?_)
  show wpAny _ A.in1 (callAny (.ref h1.objs.size) ⟨[.str txt (t + 1)], []⟩) _ _ _
  simp only [callAny]
  refine wpAny_bind (wpAny_load hu ?_)
  simp only [kxs_mw, show (Value.type "method-wrapper" == Value.type "method" || Value.type "method-wrapper" == Value.type "builtin_function_or_method" || Value.type "method-wrapper" == Value.type "method-wrapper") = true by decide, if_true]
  refine KFB.if_so (by decide) ?_
  have hC2 : (h1.push (kxs_mw "ValueError.__init__" e)).get? C = some _ := Heap.get?_push_of_some _ (k1 _ _ hD1)
  refine wpAny_bind (check_bound_init PySem.F.excBase_ValueError.toExcCallFacts hC2 he2 rfl ?_)
  refine wpAny_bind (wpAny_pure (wpAny_pure ?_))
  refine ⟨plainId_quiet PySem.F.excBase_ValueError.init.plain _, codeAny_builtin PySem.F.excBase_ValueError.initEntry ?_⟩
  refine exc_init_tree (cls := .ref C) (t0 := t0) (dv := none) (c2 := .none) (c3 := .none) (b4 := .bool false) he2 (by rw [sizeLine_eq]; show 1 ≤ 16777216; decide) fun h3 k3 e3 _ => ?_
  exact h h3 _ _ (fun b o hb z => k3 b o hb (Heap.get?_push_of_some _ (k1 b o z))) e3
end
end PyD
end

section
set_option Elab.async false
set_option linter.all false
set_option maxRecDepth 100000
set_option maxHeartbeats 2000000
/-! such a class, called: the rule -/
namespace PyD
open PySem PySem.Spec PyProof.Rows L2 PySem.W PySem.Calls
/-- what more is asked of the class, to be raised -/
structure ExcR (K : Frag) (C fI : Addr) : Prop where
  init : findIn K (.ref C) "__init__" = some (some (.ref fI))
  tyI : typeIn K (.ref fI) = some (.type "function")
  exC : subIn K (.ref C) (.type "BaseException") = some true
  tyC : typeIn K (.ref C) = some (.type "type")
  kC : keepIn K (.ref C) = true
section
variable {X : Cx} {x : Str} {C fI : Addr} {qual fld slf ix txt : Str} {k : Nat} {e : Expr} {ta : TA} {p pos : Pos}
end
end PyD
end

section
set_option Elab.async false
set_option linter.all false
set_option maxRecDepth 100000
set_option maxHeartbeats 2000000
/-! an own exception class called, by places or by names -/
namespace PySem
namespace HandSPX
open Builtin Builtin.ObjectAttr
section
variable {M : Model} {A : Around} {E : Value → Shared → Prop} {h : Heap} {g : Array GenState} {d : Drawn} {t : Nat} {os : OsState}
variable {nm q : Str} {C N : Addr} {bs bm bmB : List Value} {hdct : Bool} {sn : List Str} {sub : List Value} {ab : Bool} {col : Option Bool} {dd : Option Addr} {k0 k1 k2 k3 k5 : Option Value} {B newId initId : String}
theorem check_new_ownW (F : ExcBaseFacts B newId initId bmB) (hT : ∀ X : String, bm.contains (.type X) = bmB.contains (.type X)) {rest : List Value} {kw : List (Str × Value)} {Q : Unit → Shared → Prop}
    (hC : h.get? C = some (excClassObj nm q C N bs bm hdct sn sub ab col dd k0 k1 k2 k3 k5 newId)) (hq : Q () ⟨h, g, d, t, os⟩) : wpAny M A (checkBuiltinCall newId ⟨.ref C :: rest, kw⟩) Q E ⟨h, g, d, t, os⟩ := by
  have hcont : (Value.ref C :: bm).contains (.type B) = true := by rw [List.contains_cons, hT, F.hasB, Bool.or_true]
  have hstar := F.noStar
  simp only [checkBuiltinCall, F.newKind, F.newSplit, F.newRow]
  repeat (first | refine wpAny_loadPart_at hC ?_ | (refine wpAny_isSubtype_exc hC ?_; rw [hcont]) | refine wpAny_staticBase_exc hC ?_ | refine wpAny_madeBy_exc hC ?_ | simp only [bne_self_eq_false, Bool.false_eq_true, if_false] | wp_step)
  exact hq
end
section
variable {prog : Program} {w : World} {A : Around} {E : Value → Shared → Prop} {R : Result → Shared → Prop} {h : Heap} {g : Array GenState} {d : Drawn} {t : Nat} {os : OsState}
variable {nm q : Str} {C N : Addr} {bs bm bmB : List Value} {hdct : Bool} {sn : List Str} {sub : List Value} {ab : Bool} {col : Option Bool} {dd : Option Addr} {k0 k1 k2 k3 k5 : Option Value} {B newId initId : String}
theorem new_ownW (F : ExcBaseFacts B newId initId bmB) (hT : ∀ X : String, bm.contains (.type X) = bmB.contains (.type X)) {rest : List Value} {kw : List (Str × Value)}
    (hC : h.get? C = some (excClassObj nm q C N bs bm hdct sn sub ab col dd k0 k1 k2 k3 k5 newId))
    (hq : R (.ok (.ret (.ref (h.objs.size + 1)))) ⟨(h.push { cls := .type "tuple", data := .seq rest.toArray }).push
      { cls := .ref C, data := .fields #[.ref h.objs.size, .none, .none, .none, .bool false, .none] }, g, d, t, os⟩) (hrest : rest.length ≤ sizeLine) :
    codeAny (model prog w) A (.builtin newId ⟨.ref C :: rest, kw⟩) R ⟨h, g, d, t, os⟩ := by
  have hends := F.ends
  have hcB : (Value.ref C :: bm).contains (.type B) = true := by rw [List.contains_cons, hT, F.hasB, Bool.or_true]
  have hcA : (Value.ref C :: bm).contains (.type "AttributeError") = false := by rw [List.contains_cons, hT, F.noAttr]; rfl
  have hcN : (Value.ref C :: bm).contains (.type "NameError") = false := by rw [List.contains_cons, hT, F.noName]; rfl
  refine codeAny_builtinAt F.entry ?_
  unfold Builtin.«BaseException.__new__»
  refine wpAt_bind ?_
  show wpAt _ _ _ (stack >>= _) _ _ _
  refine wpAt_bind (wpAt_stack fun p below => wpAt_of_wpAny ?_)
  wp_walk
  refine wpAt_of_wpAny ?_
  rw [F.owner]
  repeat (first | with_reducible refine wpAny_madeHere_exc F.canon hC ?_ | with_reducible refine wpAny_loadPart_at hC ?_ | (with_reducible refine wpAny_isSubtype_exc hC ?_; first | rw [hcB] | rw [hcA] | rw [hcN]) | wp_step)
  show R _ _
  rw [Heap.size_push]
  exact hq
theorem type_call_ownW (F : ExcBaseFacts B newId initId bmB) (hT : ∀ X : String, bm.contains (.type X) = bmB.contains (.type X)) {rest : List Value} {kw : List (Str × Value)} {fI : Addr} {Q : Fin → Shared → Prop}
    (hC : h.get? C = some (excClassObj nm q C N bs bm hdct sn sub ab col dd k0 k1 k2 k3 k5 newId))
    (hi : W.Looks (model prog w) h (typeLookup (.ref C) "__init__") (some (.ref fI))) (hb : ∀ self, W.Looks (model prog w) h (bindSpecial (.ref fI) self) (.ref fI, [self])) (hrest : rest.length ≤ sizeLine)
    (hq : codeAny (model prog w) A (.call (.ref fI) ⟨.ref (h.objs.size + 1) :: rest, kw⟩)
      (fun r s' => match r with | .ok (.ret v) => v = .none ∧ Q (.done (.ret (.ref (h.objs.size + 1)))) s' | .ok _ => False | .error e => E e s')
      ⟨(h.push (W.kdv_tup rest)).push (excO C h.objs.size), g, d, t, os⟩) :
    wpAny (model prog w) A (Builtin.«type.__call__» ⟨.ref C :: rest, kw⟩) Q E ⟨h, g, d, t, os⟩ := by
  repeat (first | with_reducible refine wpAny_loadPart_at hC ?_ | with_reducible refine wpAny_madeBy_exc hC ?_ | wp_step)
  refine codeAny_call_builtin_code (Code.quiet_builtin _ F.quiet) (check_new_ownW F hT hC ?_)
  refine new_ownW F hT hC ?_ hrest
  show wpAny _ _ _ _ _ _
  have k : ∀ b o, h.get? b = some o → ((h.push (W.kdv_tup rest)).push (excO C h.objs.size)).get? b = some o := fun b o e => Heap.get?_push_of_some _ (Heap.get?_push_of_some _ e)
  have hC₁ := k _ _ hC
  have hget : ((h.push (W.kdv_tup rest)).push (excO C h.objs.size)).get? (h.objs.size + 1) = some (excO C h.objs.size) := by heap_get
  have hcC : (Value.ref C :: bm).contains (.ref C) = true := by simp
  have i1 := hi.keeps k
  have b1 := (hb (.ref (h.objs.size + 1))).keeps k
  unfold isInstance
  repeat (first | with_reducible refine wpAny_loadPart_at hget ?_ | (with_reducible refine wpAny_isSubtype_exc hC₁ ?_; rw [hcC]) | wp_step)
  show wpAny _ _ (typeLookup (.ref C) _) _ _ _
  refine i1.at ?_
  refine wpAny_holding (wpAny_bind (b1.at ?_))
  refine wpAny_bind (wpAny_call (codeAny_mono hq fun r s' z => ?_))
  rcases r with e | (v | _ | _ | _) <;> first | exact z | exact z.elim | skip
  obtain ⟨rfl, z⟩ := z
  first
    | exact wpAny_pure (wpAny_pure z)
    | (wp_walk; exact z)
theorem check_tcW {M : Model} {A : Around} {E : Value → Shared → Prop} {rest : List Value} {kw : List (Str × Value)} {Q : Unit → Shared → Prop} (hC : h.get? C = some (excClassObj nm q C N bs bm hdct sn sub ab col dd k0 k1 k2 k3 k5 newId))
    (hq : Q () ⟨h, g, d, t, os⟩) : wpAny M A (checkBuiltinCall "type.__call__" ⟨.ref C :: rest, kw⟩) Q E ⟨h, g, d, t, os⟩ := by
  have f3 := tc_sub
  have hT : (⟨h, g, d, t, os⟩ : Shared).TypeIs (.ref C) "type" := ⟨_, hC, rfl⟩
  simp only [checkBuiltinCall, tc_kind, tc_split]
  repeat (any_goals (first | assumption | with_reducible refine wpAny_loadPart_at hC ?_ | with_reducible refine wpAny_onRaise ?_ | with_reducible refine wpAny_map ?_ | wp_step))
theorem call_ownW (F : ExcBaseFacts B newId initId bmB) (hT : ∀ X : String, bm.contains (.type X) = bmB.contains (.type X)) {rest : List Value} {kw : List (Str × Value)} {fI : Addr}
    (hC : h.get? C = some (excClassObj nm q C N bs bm hdct sn sub ab col dd k0 k1 k2 k3 k5 newId))
    (hi : W.Looks (model prog w) h (typeLookup (.ref C) "__init__") (some (.ref fI))) (hb : ∀ self, W.Looks (model prog w) h (bindSpecial (.ref fI) self) (.ref fI, [self])) (hrest : rest.length ≤ sizeLine)
    (hq : codeAny (model prog w) (A.under (.builtin "type.__call__" ⟨.ref C :: rest, kw⟩)) (.call (.ref fI) ⟨.ref (h.objs.size + 1) :: rest, kw⟩) (W.InitBack (h.objs.size + 1) R)
      ⟨(h.push (W.kdv_tup rest)).push (excO C h.objs.size), g, d, t, os⟩) :
    codeAny (model prog w) A (.call (.ref C) ⟨rest, kw⟩) R ⟨h, g, d, t, os⟩ := by
  have f1 := tc_lookup
  have f2 := tc_bind (.ref C)
  have f3 := tc_sub
  have hTy : (⟨h, g, d, t, os⟩ : Shared).TypeIs (.ref C) "type" := ⟨_, hC, rfl⟩
  refine codeAny_of_tree ?_
  show wpAny _ _ (callAny (.ref C) _) _ _ _
  repeat (any_goals (first | assumption | with_reducible refine wpAny_loadPart_at hC ?_ | wp_step))
  refine ⟨rfl, ?_⟩
  refine codeAny_call_builtin_at (Code.quiet_builtin _ (by decide +kernel)) entry_typeCall (check_tcW hC (type_call_ownW F hT hC hi hb hrest ?_))
  refine codeAny_mono hq fun r s' z => ?_
  rcases r with e | (v | _ | _ | _) <;> exact z
end
end HandSPX
end PySem
end

section
set_option Elab.async false
set_option linter.all false
set_option maxRecDepth 100000
namespace PyD
open PySem L2

/-! ### data -/
inductive D where
  | non | bl (b : Bool) | int (i : Int) | str (s : List Nat)
  | lst (xs : List D) | tup (xs : List D) | dic (kvs : List (D × D)) | set (xs : List D)
inductive O where
  | fz (d : D)
  | lst (xs : List O) | tup (xs : List O) | dic (kvs : List (D × O)) | dct (kvs : List (List Int × D)) | seen (ks : List (List (List Int))) | nd (es : List (Option (List Nat) × Int))
mutual
def O.erase : O → D
  | .fz d => d
  | .lst xs => .lst (O.erases xs)
  | .tup xs => .tup (O.erases xs)
  | .dic kvs => .dic (O.eraseK kvs)
  | .dct _ => .set []
  | .seen _ => .set []
  | .nd _ => .set []
def O.erases : List O → List D
  | [] => []
  | o :: os => o.erase :: O.erases os
def O.eraseK : List (D × O) → List (D × D)
  | [] => []
  | (k, o) :: r => (k, o.erase) :: O.eraseK r
end
/-- a text as its code points -/
def sOf (l : List Nat) : Str := ⟨l.toArray⟩
theorem sOf_toList (x : Str) : sOf x.cps.toList = x := by
  cases x; simp [sOf]
theorem toList_sOf (l : List Nat) : (sOf l).cps.toList = l := by simp [sOf]
theorem length_sOf (l : List Nat) : (sOf l).length = l.length := by simp [sOf, Str.length]

/-- a text that is bounded, of signs below 128 -/
def okS (l : List Nat) : Prop := l.length ≤ sizeLine ∧ ∀ c ∈ l, c < 128
/-- a key of a dict -/
def KeyD : Key → D → Prop
  | .inl i, d => d = .int i
  | .inr x, d => d = .str x.cps.toList ∧ okS x.cps.toList

/-- an error with a dict of fields, at a -/
def ExX (cls : Value) (a dx : Addr) : HO := .ext fun h => ∃ (oe : Obj) (vs : Array Value), h.get? a = some oe ∧ Zc cls (some dx) oe ∧ oe.data = .fields vs
/-! ### what a value stands for: over the frozen heap F -/
mutual
inductive Rep (K : PySem.W.Frag) (F : Hp) : V → D → Prop
  | non : Rep K F .non .non
  | bl (b : Bool) : Rep K F (.bl b) (.bl b)
  | int (i : Int) : Rep K F (.int i) (.int i)
  | str (l : List Nat) : okS l → Rep K F (.str (sOf l)) (.str l)
  | lst {a : Addr} {vs : List V} {ds : List D} : SqL K F a vs → Reps K F vs ds → Rep K F (.ref a) (.lst ds)
  | tup {a : Addr} {vs : List V} {ds : List D} : SqT K F a vs → Reps K F vs ds → Rep K F (.ref a) (.tup ds)
  | dic {a : Addr} {kvs : List (Key × V)} {es : List (D × D)} : Rd F a (.dK kvs) → RepK K F kvs es → Rep K F (.ref a) (.dic es)
  /-- nothing is known -/
  | junk (v : V) : Rep K F v (.set [])
  /-- a caught exception: its class's name, its place, and its fields' place, names and values -/
  | x0 (c : List Nat) (a : Addr) : Rep K F (.ref a) (.set [.str c, .int a])
  | xc {a dx : Addr} {c : List Nat} {fs : List Str} {vs : List V} {ds : List D} : F dx = some (.xd (fs.zip vs)) → Reps K F vs ds → Rep K F (.ref a) (.set [.str c, .int a, .int dx, .lst (fs.map fun f => .str f.cps.toList), .lst ds])
  /-- an error held as a value: its class's name; its fields' names and values -/
  | e0 (c : List Nat) {a C : Addr} : F a = some (ExO (.ref C) a) → PySem.W.nsIn K mainGlobals (sOf c) = some (some (.ref C)) → Rep K F (.ref a) (.set [.str c])
  | e1 (c : List Nat) {a dx C : Addr} {fs : List Str} {vs : List V} {ds : List D} : F a = some (ExX (.ref C) a dx) → PySem.W.nsIn K mainGlobals (sOf c) = some (some (.ref C)) → F dx = some (.xd (fs.zip vs)) → Reps K F vs ds → Rep K F (.ref a) (.set [.str c, .lst (fs.map fun f => .str f.cps.toList), .lst ds])
inductive Reps (K : PySem.W.Frag) (F : Hp) : List V → List D → Prop
  | nil : Reps K F [] []
  | cons {v : V} {d : D} {vs : List V} {ds : List D} : Rep K F v d → Reps K F vs ds → Reps K F (v :: vs) (d :: ds)
inductive RepK (K : PySem.W.Frag) (F : Hp) : List (Key × V) → List (D × D) → Prop
  | nil : RepK K F [] []
  | cons {k : Key} {e : D} {v : V} {d : D} {r : List (Key × V)} {s : List (D × D)} : KeyD k e → Rep K F v d → RepK K F r s → RepK K F ((k, v) :: r) ((e, d) :: s)
end
/-- a tuple of tuples of ints, frozen -/
def nD (ks : List (List Int)) : D := .tup (ks.map fun k => .tup (k.map D.int))
def nH (ks : List (List Int)) : Int := reduceHash (Builtin.Tuple.tupleHashOf (ks.map fun k => reduceHash (Builtin.Tuple.tupleHashOf (k.map hashInt))))
/-- a dict with such keys (where they stand) and True throughout -/
def SeenP (a : Addr) (es : List (List (List Int) × Addr)) (h : Heap) : Prop := (a == sysModules) = false ∧ ∃ o ds ep, h.get? a = some o ∧ o.ExactDict ∧ o.data = .dict ds ep ∧ ds.toList = es.map fun x => (⟨nH x.1, .ref x.2, .bool true⟩ : DictEntry)
/-- a dict with keys of ints, its values frozen -/
inductive RepT (K : PySem.W.Frag) (F : Hp) : List (List Key × V) → List (List Int × D) → Prop
  | nil : RepT K F [] []
  | cons {k : List Int} {v : V} {d : D} {r : List (List Key × V)} {s : List (List Int × D)} : Rep K F v d → RepT K F r s → RepT K F ((k.map Sum.inl, v) :: r) ((k, d) :: s)
/-- the program and the world that run: what a dict with None among its keys hashes by -/
class Om where
  P : Program
  w : World
def kN : Option (List Nat) → Option Key := Option.map fun l => .inr (sOf l)
/-- a dict with keys None and texts, ints as values -/
def NdP [Om] (ep : Nat) (a : Addr) (es : List (Option (List Nat) × Int)) (h : Heap) : Prop := (a == sysModules) = false ∧ ∃ vs : List (Option Key × Value), Paired (fun e v => v.1 = kN e.1 ∧ ∃ t, v.2 = .int e.2 t) es vs ∧ h.DictAt (noneKind Om.P Om.w) a vs ep
variable [Om]
mutual
inductive Own (K : PySem.W.Frag) (F H : Hp) : V → O → List Addr → Prop
  | fz {v : V} {d : D} : Rep K F v d → Own K F H v (.fz d) []
  | lst {a : Addr} {vs : List V} {os : List O} {fp : List Addr} : H a = some (.lst vs) → Owns K F H vs os fp → Own K F H (.ref a) (.lst os) (a :: fp)
  | tup {a : Addr} {vs : List V} {os : List O} {fp : List Addr} : H a = some (.tup vs) → Owns K F H vs os fp → Own K F H (.ref a) (.tup os) (a :: fp)
  | dic {a : Addr} {kvs : List (Key × V)} {os : List (D × O)} {fp : List Addr} : H a = some (.dK kvs) → (kvs.map (·.1)).Nodup → OwnK K F H kvs os fp → Own K F H (.ref a) (.dic os) (a :: fp)
  | dct {a : Addr} {kvs : List (List Key × V)} {es : List (List Int × D)} : H a = some (.dT kvs) → RepT K F kvs es → Own K F H (.ref a) (.dct es) [a]
  | seen {a : Addr} {es : List (List (List Int) × Addr)} : H a = some (.ext (SeenP a es)) → (∀ x ∈ es, Rep K F (.ref x.2) (nD x.1)) → (es.map (·.1)).Nodup → Own K F H (.ref a) (.seen (es.map (·.1))) [a]
  | nd {ep : Nat} {a : Addr} {es : List (Option (List Nat) × Int)} : H a = some (.ext (NdP ep a es)) → Own K F H (.ref a) (.nd es) [a]
inductive Owns (K : PySem.W.Frag) (F H : Hp) : List V → List O → List Addr → Prop
  | nil : Owns K F H [] [] []
  | cons {v : V} {o : O} {vs : List V} {os : List O} {fp fq : List Addr} : Own K F H v o fp → Owns K F H vs os fq → Owns K F H (v :: vs) (o :: os) (fp ++ fq)
inductive OwnK (K : PySem.W.Frag) (F H : Hp) : List (Key × V) → List (D × O) → List Addr → Prop
  | nil : OwnK K F H [] [] []
  | cons {k : Key} {e : D} {v : V} {o : O} {r : List (Key × V)} {s : List (D × O)} {fp fq : List Addr} : KeyD k e → Own K F H v o fp → OwnK K F H r s fq → OwnK K F H ((k, v) :: r) ((e, o) :: s) (fp ++ fq)
end

/-- the heap is a part of another -/
def Ex (F F' : Hp) : Prop := ∀ a o, F a = some o → F' a = some o
theorem Ex.refl (F : Hp) : Ex F F := fun _ _ h => h
theorem Ex.trans {F G H : Hp} (a : Ex F G) (b : Ex G H) : Ex F H := fun x o h => b x o (a x o h)
theorem Ex.new {H : Hp} {p : Addr} {o : HO} (h : H p = none) : Ex H (upd H p o) := fun a u e => by
  rw [upd_ne (ne_of_none e h)]; exact e
theorem Ex.rd {F F' : Hp} {a : Addr} {u : HO} (e : Ex F F') (h : Rd F a u) : Rd F' a u := by
  rcases h with h | ⟨o, h⟩
  · exact .inl (e a _ h)
  · exact .inr ⟨o, e a _ h⟩
theorem Ex.l {K : PySem.W.Frag} {F F' : Hp} {a : Addr} {xs : List V} (e : Ex F F') (h : SqL K F a xs) : SqL K F' a xs := by
  rcases h with h | h
  · exact .inl (e.rd h)
  · exact .inr h
theorem Ex.t {K : PySem.W.Frag} {F F' : Hp} {a : Addr} {xs : List V} (e : Ex F F') (h : SqT K F a xs) : SqT K F' a xs := by
  rcases h with h | h
  · exact .inl (e.rd h)
  · exact .inr h
section
variable {K : PySem.W.Frag} {F F' H H' : Hp}
mutual
theorem Rep.mono (e : Ex F F') : ∀ {v d}, Rep K F v d → Rep K F' v d
  | _, _, .non => .non
  | _, _, .bl b => .bl b
  | _, _, .int i => .int i
  | _, _, .str l h => .str l h
  | _, _, .lst h r => .lst (e.l h) (Reps.mono e r)
  | _, _, .tup h r => .tup (e.t h) (Reps.mono e r)
  | _, _, .dic h r => .dic (e.rd h) (RepK.mono e r)
  | _, _, .junk v => .junk v
  | _, _, .x0 c a => .x0 c a
  | _, _, .xc h r => .xc (e _ _ h) (Reps.mono e r)
  | _, _, .e0 c h n => .e0 c (e _ _ h) n
  | _, _, .e1 c h n g r => .e1 c (e _ _ h) n (e _ _ g) (Reps.mono e r)
theorem Reps.mono (e : Ex F F') : ∀ {v d}, Reps K F v d → Reps K F' v d
  | _, _, .nil => .nil
  | _, _, .cons h r => .cons (Rep.mono e h) (Reps.mono e r)
theorem RepK.mono (e : Ex F F') : ∀ {v d}, RepK K F v d → RepK K F' v d
  | _, _, .nil => .nil
  | _, _, .cons k h r => .cons k (Rep.mono e h) (RepK.mono e r)
end
theorem RepT.mono (e : Ex F F') : ∀ {v d}, RepT K F v d → RepT K F' v d
  | _, _, .nil => .nil
  | _, _, .cons h r => .cons (Rep.mono e h) (RepT.mono e r)
theorem Reps.length : ∀ {vs ds}, Reps K F vs ds → vs.length = ds.length
  | _, _, .nil => rfl
  | _, _, .cons _ r => by simp [Reps.length r]
theorem Reps.get : ∀ {vs : List V} {ds : List D} {i : Nat} {v : V}, Reps K F vs ds → vs[i]? = some v → ∃ d, ds[i]? = some d ∧ Rep K F v d
  | _, _, _, _, .nil, h => by simp at h
  | _, _, 0, _, .cons h r, e => by simp at e; subst e; exact ⟨_, rfl, h⟩
  | _, _, i + 1, _, .cons h r, e => by
    obtain ⟨d, h1, h2⟩ := Reps.get r (i := i) (by simpa using e)
    exact ⟨d, by simpa using h1, h2⟩
theorem Reps.get' : ∀ {vs : List V} {ds : List D} {i : Nat} {d : D}, Reps K F vs ds → ds[i]? = some d → ∃ v, vs[i]? = some v ∧ Rep K F v d
  | _, _, _, _, .nil, h => by simp at h
  | _, _, 0, _, .cons h r, e => by simp at e; subst e; exact ⟨_, rfl, h⟩
  | _, _, i + 1, _, .cons h r, e => by
    obtain ⟨d, h1, h2⟩ := Reps.get' r (i := i) (by simpa using e)
    exact ⟨d, by simpa using h1, h2⟩
theorem Reps.append : ∀ {vs ws : List V} {ds es : List D}, Reps K F vs ds → Reps K F ws es → Reps K F (vs ++ ws) (ds ++ es)
  | _, _, _, _, .nil, s => s
  | _, _, _, _, .cons h r, s => .cons h (Reps.append r s)
theorem Owns.length : ∀ {vs os fp}, Owns K F H vs os fp → vs.length = os.length
  | _, _, _, .nil => rfl
  | _, _, _, .cons _ r => by simp [Owns.length r]

/-! ### what an owned tree leans on -/
mutual
theorem Own.keep (e : Ex F F') : ∀ {v o fp}, Own K F H v o fp → (∀ a ∈ fp, ∀ u, H a = some u → H' a = some u) → Own K F' H' v o fp
  | _, _, _, .fz r, _ => .fz (r.mono e)
  | _, _, _, .lst h r, k => .lst (k _ List.mem_cons_self _ h) (Owns.keep e r fun a m => k a (List.mem_cons_of_mem _ m))
  | _, _, _, .tup h r, k => .tup (k _ List.mem_cons_self _ h) (Owns.keep e r fun a m => k a (List.mem_cons_of_mem _ m))
  | _, _, _, .dic h n r, k => .dic (k _ List.mem_cons_self _ h) n (OwnK.keep e r fun a m => k a (List.mem_cons_of_mem _ m))
  | _, _, _, .dct h r, k => .dct (k _ List.mem_cons_self _ h) (r.mono e)
  | _, _, _, .seen h r n, k => .seen (k _ List.mem_cons_self _ h) (fun x m => (r x m).mono e) n
  | _, _, _, .nd h, k => .nd (k _ List.mem_cons_self _ h)
theorem Owns.keep (e : Ex F F') : ∀ {v o fp}, Owns K F H v o fp → (∀ a ∈ fp, ∀ u, H a = some u → H' a = some u) → Owns K F' H' v o fp
  | _, _, _, .nil, _ => .nil
  | _, _, _, .cons h r, k => .cons (Own.keep e h fun a m => k a (List.mem_append_left _ m)) (Owns.keep e r fun a m => k a (List.mem_append_right _ m))
theorem OwnK.keep (e : Ex F F') : ∀ {v o fp}, OwnK K F H v o fp → (∀ a ∈ fp, ∀ u, H a = some u → H' a = some u) → OwnK K F' H' v o fp
  | _, _, _, .nil, _ => .nil
  | _, _, _, .cons q h r, k => .cons q (Own.keep e h fun a m => k a (List.mem_append_left _ m)) (OwnK.keep e r fun a m => k a (List.mem_append_right _ m))
end
mutual
theorem Own.live : ∀ {v o fp}, Own K F H v o fp → ∀ a ∈ fp, ∃ u, H a = some u
  | _, _, _, .fz _, a, m => by cases m
  | _, _, _, .lst h r, a, m => by
    rcases List.mem_cons.mp m with rfl | m
    · exact ⟨_, h⟩
    · exact Owns.live r a m
  | _, _, _, .tup h r, a, m => by
    rcases List.mem_cons.mp m with rfl | m
    · exact ⟨_, h⟩
    · exact Owns.live r a m
  | _, _, _, .dic h _ r, a, m => by
    rcases List.mem_cons.mp m with rfl | m
    · exact ⟨_, h⟩
    · exact OwnK.live r a m
  | _, _, _, .dct h r, a, m => by
    rcases List.mem_cons.mp m with rfl | m
    · exact ⟨_, h⟩
    · cases m
  | _, _, _, .seen h r n, a, m => by
    rcases List.mem_cons.mp m with rfl | m
    · exact ⟨_, h⟩
    · cases m
  | _, _, _, .nd h, a, m => by
    rcases List.mem_cons.mp m with rfl | m
    · exact ⟨_, h⟩
    · cases m
theorem Owns.live : ∀ {v o fp}, Owns K F H v o fp → ∀ a ∈ fp, ∃ u, H a = some u
  | _, _, _, .nil, a, m => by cases m
  | _, _, _, .cons h r, a, m => by
    rcases List.mem_append.mp m with m | m
    · exact Own.live h a m
    · exact Owns.live r a m
theorem OwnK.live : ∀ {v o fp}, OwnK K F H v o fp → ∀ a ∈ fp, ∃ u, H a = some u
  | _, _, _, .nil, a, m => by cases m
  | _, _, _, .cons q h r, a, m => by
    rcases List.mem_append.mp m with m | m
    · exact Own.live h a m
    · exact OwnK.live r a m
end
/-! frozen: the owned cells become a part of the frozen heap -/
mutual
theorem Own.freeze (e : Ex F F') : ∀ {v o fp}, Own K F H v o fp → (∀ a ∈ fp, ∀ u, H a = some u → F' a = some u) → Rep K F' v o.erase
  | _, _, _, .fz r, _ => by rw [O.erase]; exact r.mono e
  | _, _, _, .lst h r, k => by rw [O.erase]; exact .lst (.inl (.inl (k _ List.mem_cons_self _ h))) (Owns.freeze e r fun a m => k a (List.mem_cons_of_mem _ m))
  | _, _, _, .tup h r, k => by rw [O.erase]; exact .tup (.inl (.inl (k _ List.mem_cons_self _ h))) (Owns.freeze e r fun a m => k a (List.mem_cons_of_mem _ m))
  | _, _, _, .dct h r, k => by rw [O.erase]; exact .junk _
  | _, _, _, .seen h r n, k => by rw [O.erase]; exact .junk _
  | _, _, _, .nd h, k => by rw [O.erase]; exact .junk _
  | _, _, _, .dic h _ r, k => by rw [O.erase]; exact .dic (.inl (k _ List.mem_cons_self _ h)) (OwnK.freeze e r fun a m => k a (List.mem_cons_of_mem _ m))
theorem Owns.freeze (e : Ex F F') : ∀ {v o fp}, Owns K F H v o fp → (∀ a ∈ fp, ∀ u, H a = some u → F' a = some u) → Reps K F' v (O.erases o)
  | _, _, _, .nil, _ => by rw [O.erases]; exact .nil
  | _, _, _, .cons h r, k => by rw [O.erases]; exact .cons (Own.freeze e h fun a m => k a (List.mem_append_left _ m)) (Owns.freeze e r fun a m => k a (List.mem_append_right _ m))
theorem OwnK.freeze (e : Ex F F') : ∀ {v o fp}, OwnK K F H v o fp → (∀ a ∈ fp, ∀ u, H a = some u → F' a = some u) → RepK K F' v (O.eraseK o)
  | _, _, _, .nil, _ => by rw [O.eraseK]; exact .nil
  | _, _, _, .cons q h r, k => by rw [O.eraseK]; exact .cons q (Own.freeze e h fun a m => k a (List.mem_append_left _ m)) (OwnK.freeze e r fun a m => k a (List.mem_append_right _ m))
end
/-- as data over the whole heap -/
theorem Own.rep (e : Ex F H) {v o fp} (h : Own K F H v o fp) : Rep K H v o.erase := h.freeze e fun _ _ _ q => q
theorem Owns.rep (e : Ex F H) {v o fp} (h : Owns K F H v o fp) : Reps K H v (O.erases o) := h.freeze e fun _ _ _ q => q
end


/-! ### the slots -/
abbrev Env := List (Option O)
/-- the slots of a frame: what stands at each one, and the cells that they own -/
inductive Slots (K : PySem.W.Frag) (F H : Hp) : L2.St → Env → List Addr → Prop
  | nil : Slots K F H [] [] []
  | no {x : Option V} {σ : L2.St} {env : Env} {S : List Addr} : Slots K F H σ env S → Slots K F H (x :: σ) (none :: env) S
  | yes {v : V} {o : O} {σ : L2.St} {env : Env} {fp S : List Addr} : Own K F H v o fp → Slots K F H σ env S → Slots K F H (some v :: σ) (some o :: env) (fp ++ S)
section
variable {K : PySem.W.Frag} {F F' H H' : Hp}
theorem Slots.length : ∀ {σ env S}, Slots K F H σ env S → σ.length = env.length
  | _, _, _, .nil => rfl
  | _, _, _, .no r => by simp [Slots.length r]
  | _, _, _, .yes _ r => by simp [Slots.length r]
theorem Slots.keep (e : Ex F F') : ∀ {σ env S}, Slots K F H σ env S → (∀ a ∈ S, ∀ u, H a = some u → H' a = some u) → Slots K F' H' σ env S
  | _, _, _, .nil, _ => .nil
  | _, _, _, .no r, k => .no (Slots.keep e r k)
  | _, _, _, .yes h r, k => .yes (h.keep e fun a m => k a (List.mem_append_left _ m)) (Slots.keep e r fun a m => k a (List.mem_append_right _ m))
theorem Slots.live : ∀ {σ env S}, Slots K F H σ env S → ∀ a ∈ S, ∃ u, H a = some u
  | _, _, _, .nil, a, m => by cases m
  | _, _, _, .no r, a, m => Slots.live r a m
  | _, _, _, .yes h r, a, m => by
    rcases List.mem_append.mp m with m | m
    · exact h.live a m
    · exact Slots.live r a m
/-- one slot taken out: what stands there, the rest, and how it is put back -/
theorem Slots.take : ∀ {σ : L2.St} {env : Env} {S : List Addr} {i : Nat} {o : O}, Slots K F H σ env S → env[i]? = some (some o) →
    ∃ v fp S0, σ[i]? = some (some v) ∧ Own K F H v o fp ∧ (fp ++ S0).Perm S ∧ Slots K F H σ (env.set i none) S0
  | _, _, _, i, _, .nil, h => by simp at h
  | _, _, _, 0, _, .no r, h => by simp at h
  | _, _, _, i + 1, o, .no r, h => by
    obtain ⟨v, fp, S0, h1, h2, h3, h4⟩ := Slots.take r (i := i) (o := o) (by simpa using h)
    exact ⟨v, fp, S0, by simpa using h1, h2, h3, by simpa using Slots.no h4⟩
  | _, _, _, 0, _, .yes (v := v) (fp := fp) (S := S) q r, h => by
    simp at h; subst h
    exact ⟨v, fp, S, by simp, q, List.Perm.refl _, by simpa using Slots.no r⟩
  | _, _, _, i + 1, o, .yes (fp := fq) q r, h => by
    obtain ⟨v, fp, S0, h1, h2, h3, h4⟩ := Slots.take r (i := i) (o := o) (by simpa using h)
    refine ⟨v, fp, fq ++ S0, by simpa using h1, h2, ?_, by simpa using Slots.yes q h4⟩
    have e1 : (fp ++ (fq ++ S0)).Perm (fq ++ (fp ++ S0)) := by
      rw [← List.append_assoc, ← List.append_assoc]
      exact List.Perm.append_right _ List.perm_append_comm
    exact e1.trans (List.Perm.append_left _ h3)
/-- a slot emptied -/
theorem Slots.clear : ∀ {σ : L2.St} {env : Env} {S : List Addr} (i : Nat), Slots K F H σ env S → ∃ S0, Slots K F H σ (env.set i none) S0 ∧ S0.Sublist S
  | _, _, _, i, .nil => ⟨[], by simpa using Slots.nil, List.Sublist.refl _⟩
  | _, _, _, 0, .no r => ⟨_, by simpa using Slots.no r, List.Sublist.refl _⟩
  | _, _, _, i + 1, .no r => by
    obtain ⟨S0, h1, h2⟩ := Slots.clear i r
    exact ⟨S0, by simpa using Slots.no h1, h2⟩
  | _, _, _, 0, .yes q r => ⟨_, by simpa using Slots.no r, List.sublist_append_right _ _⟩
  | _, _, _, i + 1, .yes (fp := fq) q r => by
    obtain ⟨S0, h1, h2⟩ := Slots.clear i r
    exact ⟨_, by simpa using Slots.yes q h1, List.Sublist.append (List.Sublist.refl _) h2⟩
/-- an empty slot is filled -/
theorem Slots.put : ∀ {σ : L2.St} {env : Env} {S : List Addr} {i : Nat} {v : V} {o : O} {fp : List Addr}, Slots K F H σ env S → env[i]? = some none → Own K F H v o fp →
    ∃ S', Slots K F H (σ.set i (some v)) (env.set i (some o)) S' ∧ S'.Perm (fp ++ S)
  | _, _, _, i, _, _, _, .nil, h, _ => by simp at h
  | _, _, _, 0, _, _, _, .no r, h, q => ⟨_, by simpa using Slots.yes q r, List.Perm.refl _⟩
  | _, _, _, i + 1, v, o, fp, .no r, h, q => by
    obtain ⟨S', h1, h2⟩ := Slots.put (i := i) r (by simpa using h) q
    exact ⟨S', by simpa using Slots.no h1, h2⟩
  | _, _, _, 0, _, _, _, .yes _ r, h, q => by simp at h
  | _, _, _, i + 1, v, o, fp, .yes (fp := fq) w r, h, q => by
    obtain ⟨S', h1, h2⟩ := Slots.put (i := i) r (by simpa using h) q
    refine ⟨_, by simpa using Slots.yes w h1, (List.Perm.append_left _ h2).trans ?_⟩
    rw [← List.append_assoc, ← List.append_assoc]
    exact List.Perm.append_right _ List.perm_append_comm
/-- the value itself is not moved -/
theorem Slots.putBack {σ : L2.St} {env : Env} {S : List Addr} {i : Nat} {v : V} {o : O} {fp : List Addr} (h : Slots K F H σ env S) (he : env[i]? = some none) (hv : σ[i]? = some (some v)) (q : Own K F H v o fp) :
    ∃ S', Slots K F H σ (env.set i (some o)) S' ∧ S'.Perm (fp ++ S) := by
  obtain ⟨S', h1, h2⟩ := h.put he q
  have e : σ.set i (some v) = σ := by
    apply List.ext_getElem?
    intro j
    by_cases hj : i = j
    · subst hj
      have hl : i < σ.length := (List.getElem?_eq_some_iff.mp hv).1
      rw [List.getElem?_set_self hl, hv]
    · rw [List.getElem?_set_ne hj]
  rw [e] at h1
  exact ⟨S', h1, h2⟩
/-- a value stored in a slot, whatever stood there -/
theorem Slots.store {σ : L2.St} {env : Env} {S : List Addr} {i : Nat} {v : V} {o : O} {fp : List Addr} (h : Slots K F H σ env S) (hi : i < env.length) (q : Own K F H v o fp) :
    ∃ S' S0, Slots K F H (σ.set i (some v)) (env.set i (some o)) S' ∧ S'.Perm (fp ++ S0) ∧ S0.Sublist S := by
  obtain ⟨S0, h1, h2⟩ := h.clear i
  obtain ⟨S', h3, h4⟩ := h1.put (i := i) (by rw [List.getElem?_set_self hi]) q
  exact ⟨S', S0, by simpa using h3, h4, h2⟩
end

/-! ### from one state to the next -/
structure Trans (F H : Hp) (S : List Addr) (F' H' : Hp) (S' : List Addr) : Prop where
  fr : ∀ a o, H a = some o → a ∉ S → H' a = some o
  ff : Ex F F'
  fn : ∀ a o, F' a = some o → (∃ u, F a = some u) ∨ a ∈ S ∨ H a = none
  sn : ∀ a ∈ S', a ∈ S ∨ H a = none
  dm : ∀ a, H' a = none → H a = none
theorem Trans.refl {F H : Hp} {S : List Addr} : Trans F H S F H S := ⟨fun _ _ h _ => h, Ex.refl _, fun _ o h => .inl ⟨o, h⟩, fun _ h => .inl h, fun _ h => h⟩
theorem Trans.trans {F H F1 H1 F2 H2 : Hp} {S S1 S2 : List Addr} (a : Trans F H S F1 H1 S1) (b : Trans F1 H1 S1 F2 H2 S2) : Trans F H S F2 H2 S2 where
  fr := fun x o h n => b.fr x o (a.fr x o h n) fun m => by
    rcases a.sn x m with z | z
    · exact n z
    · rw [z] at h; cases h
  ff := a.ff.trans b.ff
  fn := fun x o h => by
    rcases b.fn x o h with ⟨u, z⟩ | z | z
    · exact a.fn x u z
    · exact .inr (a.sn x z)
    · exact .inr (.inr (a.dm x z))
  sn := fun x m => by
    rcases b.sn x m with z | z
    · exact a.sn x z
    · exact .inr (a.dm x z)
  dm := fun x h => a.dm x (b.dm x h)
theorem Trans.sub {F H F1 H1 : Hp} {S S1 S2 : List Addr} (a : Trans F H S F1 H1 S1) (h : ∀ x ∈ S2, x ∈ S1) : Trans F H S F1 H1 S2 := ⟨a.fr, a.ff, a.fn, fun x m => a.sn x (h x m), a.dm⟩
/-- the owned part may be said larger at the start, if it is in no other's hands -/
theorem Trans.wide {F H F1 H1 : Hp} {S S' S1 : List Addr} (a : Trans F H S F1 H1 S1) (h : ∀ x ∈ S, x ∈ S') : Trans F H S' F1 H1 S1 :=
  ⟨fun x o e n => a.fr x o e fun m => n (h x m), a.ff, fun x o e => (a.fn x o e).imp_right fun z => z.imp_left fun m => h x m, fun x m => (a.sn x m).imp_left fun z => h x z, a.dm⟩
/-- what stands aside, owned by nobody here -/
structure Aside (F H : Hp) (S T : List Addr) : Prop where
  ns : ∀ a ∈ T, a ∉ S
  nf : ∀ a ∈ T, F a = none
  lv : ∀ a ∈ T, ∃ u, H a = some u
theorem Aside.over {F H F' H' : Hp} {S S' T : List Addr} (s : Aside F H S T) (t : Trans F H S F' H' S') : Aside F' H' S' T where
  ns := fun a m n => by
    obtain ⟨u, e⟩ := s.lv a m
    rcases t.sn a n with z | z
    · exact s.ns a m z
    · rw [z] at e; cases e
  nf := fun a m => by
    obtain ⟨u, e⟩ := s.lv a m
    cases q : F' a with
    | none => rfl
    | some o =>
      rcases t.fn a o q with ⟨u', z⟩ | z | z
      · rw [s.nf a m] at z; cases z
      · exact absurd z (s.ns a m)
      · rw [z] at e; cases e
  lv := fun a m => by
    obtain ⟨u, e⟩ := s.lv a m
    exact ⟨u, t.fr a u e (s.ns a m)⟩
section
variable {K : PySem.W.Frag} {F F' H H' : Hp} {S S' T : List Addr}
theorem Own.over {v : V} {o : O} (h : Own K F H v o T) (s : Aside F H S T) (t : Trans F H S F' H' S') : Own K F' H' v o T := h.keep t.ff fun a m u e => t.fr a u e (s.ns a m)
theorem Owns.over {vs : List V} {os : List O} (h : Owns K F H vs os T) (s : Aside F H S T) (t : Trans F H S F' H' S') : Owns K F' H' vs os T := h.keep t.ff fun a m u e => t.fr a u e (s.ns a m)
theorem Slots.over {σ : L2.St} {env : Env} (h : Slots K F H σ env T) (s : Aside F H S T) (t : Trans F H S F' H' S') : Slots K F' H' σ env T := h.keep t.ff fun a m u e => t.fr a u e (s.ns a m)

/-- a good state -/
structure Stt (K : PySem.W.Frag) (F H : Hp) (σ : L2.St) (env : Env) (S : List Addr) : Prop where
  own : Slots K F H σ env S
  sub : Ex F H
  nd : S.Nodup
  sep : ∀ a ∈ S, F a = none
/-- .. with values in hand: vs stand for os and own T -/
structure Sta (K : PySem.W.Frag) (F H : Hp) (σ : L2.St) (env : Env) (S : List Addr) (vs : List V) (os : List O) (T : List Addr) : Prop where
  st : Stt K F H σ env S
  val : Owns K F H vs os T
  nd : T.Nodup
  as : Aside F H S T
theorem Sta.of {σ : L2.St} {env : Env} (h : Stt K F H σ env S) : Sta K F H σ env S [] [] [] := ⟨h, .nil, List.nodup_nil, ⟨fun _ m => (nomatch m), fun _ m => (nomatch m), fun _ m => (nomatch m)⟩⟩
/-- behind a step of the slots, with the values still in hand -/
theorem Sta.over {σ σ' : L2.St} {env env' : Env} {vs : List V} {os : List O} (h : Sta K F H σ env S vs os T) (t : Trans F H S F' H' S') (s : Stt K F' H' σ' env' S') : Sta K F' H' σ' env' S' vs os T :=
  ⟨s, h.val.over h.as t, h.nd, h.as.over t⟩
end
end PyD
end

section
set_option Elab.async false
set_option linter.all false
set_option maxRecDepth 100000
namespace PyD
variable [Om]
open PySem L2

/-! ### the weakest readings; n: at least so many tokens are out -/
section
variable {M : Model} {A : Around} {α : Type} {E : Value → Shared → Prop} {s : Shared} {t : Sem α} {P Q : α → Shared → Prop}
theorem thn' {n : Nat} (hn : n ≤ s.toks) (h : wpAny M A t P E s) (k : ∀ a s1, n ≤ s1.toks → P a s1 → Q a s1) : wpAny M A t Q E s :=
  wpAny_mono (wpAny_toks_of hn h) (fun a s1 z => k a s1 z.1 z.2) fun _ _ z => z.2
end
@[irreducible] def wE (n : Nat) (X : Cx) (e : Expr) : TE := fun σ H Q => ∀ pins s, n ≤ s.toks → Inv X pins σ H s → wpAny (model X.prog X.w) X.A (eval e X.env) (EP X pins σ Q) X.xe s
theorem wE_run {n : Nat} {X : Cx} {e : Expr} {σ : L2.St} {H : Hp} {Q : VK} (h : wE n X e σ H Q) : ∀ pins s, n ≤ s.toks → Inv X pins σ H s → wpAny (model X.prog X.w) X.A (eval e X.env) (EP X pins σ Q) X.xe s := by
  unfold wE at h; exact h
theorem wE_mk {n : Nat} {X : Cx} {e : Expr} {σ : L2.St} {H : Hp} {Q : VK} (h : ∀ pins s, n ≤ s.toks → Inv X pins σ H s → wpAny (model X.prog X.w) X.A (eval e X.env) (EP X pins σ Q) X.xe s) : wE n X e σ H Q := by
  unfold wE; exact h
theorem pe_w {X : Cx} {e : Expr} : PE X e (wE 0 X e) := ⟨fun pins s σ H Q I h => wE_run h pins s (Nat.zero_le _) I⟩
theorem wE_of {n : Nat} {X : Cx} {e : Expr} {t : TE} (h : PE X e t) {σ : L2.St} {H : Hp} {Q : VK} (q : t σ H Q) : wE n X e σ H Q := wE_mk fun pins s _ I => h.run pins s σ H Q I q
theorem wE_up {n : Nat} {X : Cx} {e : Expr} {σ : L2.St} {H : Hp} {Q : VK} (h : wE 0 X e σ H Q) : wE n X e σ H Q := wE_of pe_w h
theorem wE_mono {n : Nat} {X : Cx} {e : Expr} {σ : L2.St} {H : Hp} {Q Q' : VK} (h : wE n X e σ H Q) (q : ∀ v H', Q v H' → Q' v H') : wE n X e σ H Q' := wE_mk fun pins s hn I =>
  thn (wE_run h pins s hn I) fun _ _ ⟨v, H', a, b, c⟩ => ⟨v, H', a, b, q _ _ c⟩
/-- .. two, one behind the other -/
theorem wE_bin {n : Nat} {X : Cx} {a b : Expr} {σ : L2.St} {H : Hp} {r : R2} {Q : VK} {pins : List (Addr × Obj)} {s : Shared} {T : Value → Value → Shared → Prop}
    (h : wE n X a σ H fun x H1 => wE n X b σ H1 fun y H2 => r x y H2 Q) (hn : n ≤ s.toks) (I : Inv X pins σ H s) (k : ∀ v u s2 x y H2, n ≤ s2.toks → Inv X pins σ H2 s2 → RelV x v → RelV y u → r x y H2 Q → T v u s2) :
    wpAny (model X.prog X.w) X.A (eval a X.env) (fun v s1 => wpAny (model X.prog X.w) X.A (eval b X.env) (fun u s2 => T v u s2) X.xe s1) X.xe s :=
  thn' hn (wE_run h pins s hn I) fun v s1 n1 ⟨x, H1, I1, r1, q1⟩ => thn' n1 (wE_run q1 pins s1 n1 I1) fun u s2 n2 ⟨y, H2, I2, r2, q2⟩ => k v u s2 x y H2 n2 I2 r1 r2 q2
def wT (n : Nat) (X : Cx) (e : Expr) : TT := fun σ H Q => ∀ pins s, n ≤ s.toks → Inv X pins σ H s → wpAny (model X.prog X.w) X.A (isTrue e X.env (eval e X.env)) (TP X pins σ Q) X.xe s
def wW (n : Nat) (X : Cx) (e : Expr) : TT := fun σ H Q => ∀ whole pins s, n ≤ s.toks → Inv X pins σ H s → wpAny (model X.prog X.w) X.A (isTrue e X.env whole) (TP X pins σ Q) X.xe s
def wA (n : Nat) (X : Cx) (es : List Expr) : TA := fun σ H Q => ∀ pos pins s, n ≤ s.toks → Inv X pins σ H s → wpAny (model X.prog X.w) X.A (spliced (backTo pos (starEach es X.env))) (AP X pins σ Q) X.xe s
theorem wA_of {n : Nat} {X : Cx} {es : List Expr} {t : TA} (h : PA X es t) {σ : L2.St} {H : Hp} {Q : List V → Hp → Prop} (q : t σ H Q) : wA n X es σ H Q := fun pos pins s _ I => h.run pos pins s σ H Q I q
theorem wA_cons {n : Nat} {X : Cx} {e : Expr} {es : List Expr} (hs : starEach (e :: es) X.env = (false, eval e X.env) :: starEach es X.env) {σ : L2.St} {H : Hp} {Q : List V → Hp → Prop}
    (q : wE n X e σ H fun x H1 => wA n X es σ H1 fun xs H2 => Q (x :: xs) H2) : wA n X (e :: es) σ H Q := by
  intro pos pins s hn I
  rw [hs]
  show wpAny _ _ (spliced ((false, eval e X.env) :: backTo pos (starEach es X.env))) _ _ s
  refine Calls.spliced_cons (thn' hn (wE_run q pins s hn I) fun u s1 n1 ⟨x, H1, I1, r1, q1⟩ => ?_)
  exact thn (q1 pos pins s1 n1 I1) fun us s2 ⟨xs, H2, I2, r2, q2⟩ => ⟨x :: xs, H2, I2, .cons r1 r2, q2⟩
def wS (n : Nat) (X : Cx) (st : Stmt) : TS := fun D σ H => ∀ pins s, n ≤ s.toks → Inv X pins σ H s → wpAny (model X.prog X.w) X.A (exec st X.env) (SP X pins D) X.xe s
theorem wS_of {n : Nat} {X : Cx} {st : Stmt} {t : TS} (h : PS X st t) {σ : L2.St} {H : Hp} {D : Ends} (q : t D σ H) : wS n X st D σ H := fun pins s _ I => h.run pins s σ H D I q
def wSs (n : Nat) (X : Cx) (st : List Stmt) : TS := fun D σ H => ∀ pins s, n ≤ s.toks → Inv X pins σ H s → wpAny (model X.prog X.w) X.A (execs st X.env) (SP X pins D) X.xe s
theorem wSs_of {n : Nat} {X : Cx} {st : List Stmt} {t : TS} (h : PSs X st t) {σ : L2.St} {H : Hp} {D : Ends} (q : t D σ H) : wSs n X st D σ H := fun pins s _ I => h.run pins s σ H D I q
/-- several expressions from the left -/
def wL (n : Nat) (X : Cx) : List Expr → L2.St → Hp → (List V → Hp → Prop) → Prop
  | [] => fun _ H Q => Q [] H
  | e :: es => fun σ H Q => wE n X e σ H fun v H1 => wL n X es σ H1 fun vs H2 => Q (v :: vs) H2

/-! ### results -/
inductive R (α : Type) where
  | ok (a : α) (env : Env)
  | exc (c : Str) (ds : List D) (env : Env)
  | bad

/-- the fields of the exception classes, by name -/
def fieldsOf (c : Str) : List Str :=
  if c = "InvalidText" then ["line", "word"] else
  if c = "InvalidPatterns" ∨ c = "InvalidRules" ∨ c = "InvalidCatalog" then ["index"] else
  if c = "InvalidLinks" ∨ c = "InvalidOwners" then ["link"] else
  if c = "NoEnd" then ["ring"] else if c = "TooMany" then ["limit"] else ["label"]
/-- an exception of the class named c with the fields ds -/
def ExcV (K : PySem.W.Frag) (F H : Hp) (c : Str) (ds : List D) (cls : Value) (d : Option Addr) : Prop :=
  ∃ C : Addr, cls = .ref C ∧ PySem.W.nsIn K mainGlobals c = some (some (.ref C)) ∧
    ((ds = [] ∧ d = none) ∨ ∃ dx vs, d = some dx ∧ H dx = some (.xd ((fieldsOf c).zip vs)) ∧ Reps K F vs ds ∧ vs.length = (fieldsOf c).length)
def ExcPost (K : PySem.W.Frag) (W : WX) (c : Str) (ds : List D) (env' : Env) (σ : L2.St) (F H : Hp) (S : List Addr) : Prop :=
  ∀ cls d F' H' S', Trans F H S F' H' S' → Stt K F' H' σ env' S' → ExcV K F' H' c ds cls d → (∀ x, d = some x → H x = none) → W cls d σ H'
theorem ExcPost.over {K : PySem.W.Frag} {W : WX} {c : Str} {ds : List D} {env' : Env} {σ : L2.St} {F H F1 H1 : Hp} {S S1 : List Addr} (p : ExcPost K W c ds env' σ F H S) (t : Trans F H S F1 H1 S1) : ExcPost K W c ds env' σ F1 H1 S1 :=
  fun cls d F' H' S' t' s x n => p cls d F' H' S' (t.trans t') s x fun y e => t.dm y (n y e)

def PostE (X : Cx) (W : WX) (σ : L2.St) (F H : Hp) (S : List Addr) (Q : VK) : R O → Prop
  | .ok o env' => ∀ v F' H' S' T, Trans F H S F' H' (T ++ S') → Sta X.K F' H' σ env' S' [v] [o] T → Q v H'
  | .exc c ds env' => ExcPost X.K W c ds env' σ F H S
  | .bad => False
/-- an expression computes f -/
structure SndE (n : Nat) (X : Cx) (e : Expr) (f : Env → R O) : Prop where
  run : ∀ W, L2N.Takes X W → ∀ env σ F H S Q, Stt X.K F H σ env S → PostE X W σ F H S Q (f env) → wE n X e σ H Q
/-- an operand: a variable, or a value of its own -/
inductive Opd where
  | v (i : Nat)
  | t (o : O)
/-- operands' values -/
inductive OpdsV (K : PySem.W.Frag) (F H : Hp) (σ : L2.St) : List V → List Opd → List Addr → Prop
  | nil : OpdsV K F H σ [] [] []
  | v {i : Nat} {v : V} {vs : List V} {ops : List Opd} {T : List Addr} : σ[i]? = some (some v) → OpdsV K F H σ vs ops T → OpdsV K F H σ (v :: vs) (.v i :: ops) T
  | t {o : O} {v : V} {vs : List V} {ops : List Opd} {fp T : List Addr} : Own K F H v o fp → OpdsV K F H σ vs ops T → OpdsV K F H σ (v :: vs) (.t o :: ops) (fp ++ T)
theorem OpdsV.keep {K : PySem.W.Frag} {F F' H H' : Hp} {σ : L2.St} (e : Ex F F') : ∀ {vs ops T}, OpdsV K F H σ vs ops T → (∀ a ∈ T, ∀ u, H a = some u → H' a = some u) → OpdsV K F' H' σ vs ops T
  | _, _, _, .nil, _ => .nil
  | _, _, _, .v h r, k => .v h (OpdsV.keep e r k)
  | _, _, _, .t h r, k => .t (h.keep e fun a m => k a (List.mem_append_left _ m)) (OpdsV.keep e r fun a m => k a (List.mem_append_right _ m))
theorem OpdsV.live {K : PySem.W.Frag} {F H : Hp} {σ : L2.St} : ∀ {vs ops T}, OpdsV K F H σ vs ops T → ∀ a ∈ T, ∃ u, H a = some u
  | _, _, _, .nil, a, m => by cases m
  | _, _, _, .v _ r, a, m => OpdsV.live r a m
  | _, _, _, .t h r, a, m => by
    rcases List.mem_append.mp m with m | m
    · exact h.live a m
    · exact OpdsV.live r a m
structure Stp (K : PySem.W.Frag) (F H : Hp) (σ : L2.St) (env : Env) (S : List Addr) (vs : List V) (ops : List Opd) (T : List Addr) : Prop where
  st : Stt K F H σ env S
  val : OpdsV K F H σ vs ops T
  nd : T.Nodup
  as : Aside F H S T
def PostL (X : Cx) (W : WX) (σ : L2.St) (F H : Hp) (S : List Addr) (Q : List V → Hp → Prop) : R (List Opd) → Prop
  | .ok ops env' => ∀ vs F' H' S' T, Trans F H S F' H' (T ++ S') → Stp X.K F' H' σ env' S' vs ops T → Q vs H'
  | .exc c ds env' => ExcPost X.K W c ds env' σ F H S
  | .bad => False
/-- operands from the left -/
structure SndL (n : Nat) (X : Cx) (es : List Expr) (f : Env → R (List Opd)) : Prop where
  run : ∀ W, L2N.Takes X W → ∀ env σ F H S Q, Stt X.K F H σ env S → PostL X W σ F H S Q (f env) → wL n X es σ H Q
def oNil : Env → R (List Opd) := fun env => .ok [] env
/-- a name as an operand -/
def oVar (i : Nat) (r : Env → R (List Opd)) : Env → R (List Opd) := fun env => match env[i]? with
  | some (some _) => (match r env with
    | .ok ops e => .ok (.v i :: ops) e
    | .exc c ds e => .exc c ds e
    | .bad => .bad)
  | _ => .bad
def oExp (f : Env → R O) (r : Env → R (List Opd)) : Env → R (List Opd) := fun env => match f env with
  | .ok o e1 => (match r e1 with
    | .ok ops e => .ok (.t o :: ops) e
    | .exc c ds e => .exc c ds e
    | .bad => .bad)
  | .exc c ds e => .exc c ds e
  | .bad => .bad
section
variable {n : Nat} {X : Cx}
theorem Stp.of {K : PySem.W.Frag} {F H : Hp} {σ : L2.St} {env : Env} {S : List Addr} (h : Stt K F H σ env S) : Stp K F H σ env S [] [] [] := ⟨h, .nil, List.nodup_nil, ⟨fun _ m => (nomatch m), fun _ m => (nomatch m), fun _ m => (nomatch m)⟩⟩
theorem snd_nil : SndL n X [] oNil := .mk fun W tk env σ F H S Q st q => q [] F H S [] Trans.refl (Stp.of st)
theorem Stt.val {K : PySem.W.Frag} {F H : Hp} {σ : L2.St} {env : Env} {S : List Addr} {i : Nat} {o : O} (h : Stt K F H σ env S) (e : env[i]? = some (some o)) : ∃ v, σ[i]? = some (some v) := by
  obtain ⟨v, _, _, h1, _⟩ := h.own.take e
  exact ⟨v, h1⟩
theorem snd_ovar {i : Nat} {x : Str} {p : Pos} {es : List Expr} {r : Env → R (List Opd)} (hN : X.N[i]? = some x) (hv : Vis X.env.scope x) (hr : SndL n X es r)
    (hd : (x == ("__debug__" : Str)) = false := by decide) (hcd : (x == ("__classdict__" : Str)) = false := by decide) : SndL n X (.Name x p :: es) (oVar i r) := by
  refine .mk fun W tk env σ F H S Q st q => ?_
  unfold oVar at q
  split at q
  · rename_i o ho
    obtain ⟨v, hv1⟩ := st.val ho
    show wE n X (.Name x p) σ H _
    refine wE_of (pe_var hN hv hd hcd) ⟨v, hv1, ?_⟩
    refine hr.run W tk env σ F H S _ st ?_
    revert q
    cases r env with
    | ok ops e => exact fun q vs F' H' S' T tr sp => q (v :: vs) F' H' S' T tr ⟨sp.st, .v hv1 sp.val, sp.nd, sp.as⟩
    | exc c ds e => exact fun q => q
    | bad => exact fun q => q
  · exact q.elim
theorem Aside.app {F H : Hp} {S T U : List Addr} (a : Aside F H S T) (b : Aside F H S U) : Aside F H S (T ++ U) :=
  ⟨fun x m => (List.mem_append.mp m).elim (a.ns x) (b.ns x), fun x m => (List.mem_append.mp m).elim (a.nf x) (b.nf x), fun x m => (List.mem_append.mp m).elim (a.lv x) (b.lv x)⟩
/-- what stands aside of both is apart from what comes -/
theorem Aside.apart {F H F' H' : Hp} {S S' T U : List Addr} (a : Aside F H S T) (t : Trans F H S F' H' (U ++ S')) : ∀ x ∈ T, x ∉ U := fun x m n => by
  obtain ⟨u, e⟩ := a.lv x m
  rcases t.sn x (List.mem_append_left _ n) with z | z
  · exact a.ns x m z
  · rw [z] at e; cases e
theorem snd_oexp {e : Expr} {es : List Expr} {f : Env → R O} {r : Env → R (List Opd)} (he : SndE n X e f) (hr : SndL n X es r) : SndL n X (e :: es) (oExp f r) := by
  refine .mk fun W tk env σ F H S Q st q => ?_
  show wE n X e σ H _
  refine he.run W tk env σ F H S _ st ?_
  unfold oExp at q
  revert q
  cases f env with
  | exc c ds e => exact fun q => q
  | bad => exact fun q => q
  | ok o e1 =>
    intro q v F1 H1 S1 T1 tr1 sa
    refine hr.run W tk e1 σ F1 H1 S1 _ sa.st ?_
    have t1 : Trans F H S F1 H1 S1 := tr1.sub fun x m => List.mem_append_right _ m
    revert q
    show PostL X W σ F H S Q (match r e1 with
      | .ok ops e => .ok (.t o :: ops) e
      | .exc c ds e => .exc c ds e
      | .bad => .bad) → PostL X W σ F1 H1 S1 (fun vs H2 => Q (v :: vs) H2) (r e1)
    cases r e1 with
    | exc c ds e => exact fun q => q.over t1
    | bad => exact fun q => q
    | ok ops e2 =>
      intro q vs F2 H2 S2 T2 tr2 sp
      have own : Own X.K F1 H1 v o T1 := by
        have := sa.val
        cases this with
        | cons a b =>
          cases b
          simpa using a
      have t2 : Trans F1 H1 S1 F2 H2 S2 := tr2.sub fun x m => List.mem_append_right _ m
      have ap : ∀ x ∈ T1, x ∉ T2 := sa.as.apart tr2
      have as2 : Aside F2 H2 S2 T1 := sa.as.over t2
      refine q (v :: vs) F2 H2 S2 (T1 ++ T2) ?_ ⟨sp.st, .t (own.over sa.as t2) sp.val, ?_, as2.app sp.as⟩
      · refine ⟨(t1.trans t2).fr, (t1.trans t2).ff, (t1.trans t2).fn, fun x m => ?_, (t1.trans t2).dm⟩
        rw [List.append_assoc] at m
        rcases List.mem_append.mp m with m | m
        · exact tr1.sn x (List.mem_append_left _ m)
        · rcases tr2.sn x m with z | z
          · exact t1.sn x z
          · exact .inr (t1.dm x z)
      · exact List.nodup_append.mpr ⟨sa.nd, sp.nd, fun x m y n z => ap x m (z ▸ n)⟩
end
end PyD
end

section
set_option Elab.async false
set_option linter.all false
set_option maxRecDepth 100000
namespace PyD
variable [Om]
open PySem L2

/-! ### freezing -/
def frz (F H : Hp) (T : List Addr) : Hp := fun a => if a ∈ T then H a else F a
section
variable {K : PySem.W.Frag} {F H : Hp} {S T : List Addr} {σ : L2.St} {env : Env}
theorem frz_in {a : Addr} (h : a ∈ T) : frz F H T a = H a := by unfold frz; rw [if_pos h]
theorem frz_out {a : Addr} (h : a ∉ T) : frz F H T a = F a := by unfold frz; rw [if_neg h]
theorem frz_ex (nf : ∀ a ∈ T, F a = none) : Ex F (frz F H T) := fun a o e => by
  rw [frz_out fun m => by rw [nf a m] at e; cases e]
  exact e
theorem frz_sub (s : Ex F H) : Ex (frz F H T) H := fun a o e => by
  by_cases m : a ∈ T
  · rw [frz_in m] at e; exact e
  · rw [frz_out m] at e; exact s a o e
theorem frz_trans (nf : ∀ a ∈ T, F a = none) : Trans F H (T ++ S) (frz F H T) H S :=
  ⟨fun _ _ h _ => h, frz_ex nf, fun a o e => by
    by_cases m : a ∈ T
    · exact .inr (.inl (List.mem_append_left _ m))
    · rw [frz_out m] at e; exact .inl ⟨o, e⟩, fun a m => .inl (List.mem_append_right _ m), fun _ h => h⟩
theorem Stt.frz (st : Stt K F H σ env S) (as : Aside F H S T) : Stt K (frz F H T) H σ env S :=
  ⟨st.own.keep (frz_ex as.nf) fun _ _ _ h => h, frz_sub st.sub, st.nd, fun a m => by
    rw [frz_out fun n => as.ns a n m]; exact st.sep a m⟩
end

/-! ### shallow operands -/
def O.isFz : O → Bool
  | .fz _ => true
  | _ => false
def O.shal : O → Bool
  | .fz _ => true
  | .lst os => os.all O.isFz
  | .tup os => os.all O.isFz
  | .dic kos => kos.all fun p => p.2.isFz
  | .dct _ => true
  | .seen _ => true
  | .nd _ => true
/-- a value whose own cell may still be written, all below is frozen -/
inductive Shal (K : PySem.W.Frag) (F H : Hp) : V → D → Prop
  | fz {v : V} {d : D} : Rep K F v d → Shal K F H v d
  | lst {a : Addr} {vs : List V} {ds : List D} : H a = some (.lst vs) → Reps K F vs ds → Shal K F H (.ref a) (.lst ds)
  | tup {a : Addr} {vs : List V} {ds : List D} : H a = some (.tup vs) → Reps K F vs ds → Shal K F H (.ref a) (.tup ds)
  | dic {a : Addr} {kvs : List (Key × V)} {es : List (D × D)} : H a = some (.dK kvs) → RepK K F kvs es → Shal K F H (.ref a) (.dic es)
inductive Shals (K : PySem.W.Frag) (F H : Hp) : List V → List D → Prop
  | nil : Shals K F H [] []
  | cons {v : V} {d : D} {vs : List V} {ds : List D} : Shal K F H v d → Shals K F H vs ds → Shals K F H (v :: vs) (d :: ds)
section
variable {K : PySem.W.Frag} {F F' H : Hp}
theorem Shal.mono (e : Ex F F') {v : V} {d : D} (h : Shal K F H v d) : Shal K F' H v d := by
  cases h with
  | fz r => exact .fz (r.mono e)
  | lst h r => exact .lst h (r.mono e)
  | tup h r => exact .tup h (r.mono e)
  | dic h r => exact .dic h (r.mono e)
theorem Shals.mono (e : Ex F F') : ∀ {vs ds}, Shals K F H vs ds → Shals K F' H vs ds
  | _, _, .nil => .nil
  | _, _, .cons h r => .cons (h.mono e) (Shals.mono e r)
theorem Owns.allFz : ∀ {vs os T}, Owns K F H vs os T → os.all O.isFz = true → Reps K F vs (O.erases os)
  | _, _, _, .nil, _ => by rw [O.erases]; exact .nil
  | _, _, _, .cons h r, e => by
    rw [List.all_cons, Bool.and_eq_true] at e
    rw [O.erases]
    refine .cons ?_ (Owns.allFz r e.2)
    cases h with
    | fz q => rw [O.erase]; exact q
    | lst => exact absurd e.1 (by simp [O.isFz])
    | tup => exact absurd e.1 (by simp [O.isFz])
    | dic => exact absurd e.1 (by simp [O.isFz])
    | dct => exact absurd e.1 (by simp [O.isFz])
    | seen => exact absurd e.1 (by simp [O.isFz])
    | nd => exact absurd e.1 (by simp [O.isFz])
theorem OwnK.allFz : ∀ {vs os T}, OwnK K F H vs os T → (os.all fun p => p.2.isFz) = true → RepK K F vs (O.eraseK os)
  | _, _, _, .nil, _ => by rw [O.eraseK]; exact .nil
  | _, _, _, .cons q h r, e => by
    rw [List.all_cons, Bool.and_eq_true] at e
    rw [O.eraseK]
    refine .cons q ?_ (OwnK.allFz r e.2)
    cases h with
    | fz q => rw [O.erase]; exact q
    | lst => exact absurd e.1 (by simp [O.isFz])
    | tup => exact absurd e.1 (by simp [O.isFz])
    | dic => exact absurd e.1 (by simp [O.isFz])
    | dct => exact absurd e.1 (by simp [O.isFz])
    | seen => exact absurd e.1 (by simp [O.isFz])
    | nd => exact absurd e.1 (by simp [O.isFz])
theorem Own.shal {v : V} {o : O} {T : List Addr} (h : Own K F H v o T) (s : o.shal = true) : Shal K F H v o.erase := by
  cases h with
  | fz r => rw [O.erase]; exact .fz r
  | lst h r => rw [O.erase]; exact .lst h (r.allFz s)
  | tup h r => rw [O.erase]; exact .tup h (r.allFz s)
  | dic h _ r => rw [O.erase]; exact .dic h (r.allFz s)
  | dct h r => rw [O.erase]; exact .fz (.junk _)
  | seen h r n => rw [O.erase]; exact .fz (.junk _)
  | nd h => rw [O.erase]; exact .fz (.junk _)
/-- over the whole heap -/
theorem Shal.rep (e : Ex F H) {v : V} {d : D} (h : Shal K F H v d) : Rep K H v d := by
  cases h with
  | fz r => exact r.mono e
  | lst h r => exact .lst (.inl (.inl h)) (r.mono e)
  | tup h r => exact .tup (.inl (.inl h)) (r.mono e)
  | dic h r => exact .dic (.inl h) (r.mono e)
/-- a list, told -/
theorem Shal.lst_inv (e : Ex F H) {v : V} {ds : List D} (h : Shal K F H v (.lst ds)) : ∃ a vs, v = .ref a ∧ SqL K H a vs ∧ Reps K F vs ds := by
  cases h with
  | fz r => cases r with
    | lst h r => exact ⟨_, _, rfl, e.l h, r⟩
  | lst h r => exact ⟨_, _, rfl, .inl (.inl h), r⟩
theorem Shal.tup_inv (e : Ex F H) {v : V} {ds : List D} (h : Shal K F H v (.tup ds)) : ∃ a vs, v = .ref a ∧ SqT K H a vs ∧ Reps K F vs ds := by
  cases h with
  | fz r => cases r with
    | tup h r => exact ⟨_, _, rfl, e.t h, r⟩
  | tup h r => exact ⟨_, _, rfl, .inl (.inl h), r⟩
theorem Shal.dic_inv (e : Ex F H) {v : V} {es : List (D × D)} (h : Shal K F H v (.dic es)) : ∃ a kvs, v = .ref a ∧ Rd H a (.dK kvs) ∧ RepK K F kvs es := by
  cases h with
  | fz r => cases r with
    | dic h r => exact ⟨_, _, rfl, e.rd h, r⟩
  | dic h r => exact ⟨_, _, rfl, .inl h, r⟩
theorem Shal.int_inv {v : V} {i : Int} (h : Shal K F H v (.int i)) : v = .int i := by
  cases h with
  | fz r => cases r; rfl
theorem Shal.bl_inv {v : V} {b : Bool} (h : Shal K F H v (.bl b)) : v = .bl b := by
  cases h with
  | fz r => cases r; rfl
theorem Shal.str_inv {v : V} {l : List Nat} (h : Shal K F H v (.str l)) : v = .str (sOf l) ∧ okS l := by
  cases h with
  | fz r => cases r with
    | str _ h => exact ⟨rfl, h⟩
theorem Rep.lst_inv {v : V} {ds : List D} (h : Rep K F v (.lst ds)) : ∃ a vs, v = .ref a ∧ SqL K F a vs ∧ Reps K F vs ds := by
  cases h with
  | lst h r => exact ⟨_, _, rfl, h, r⟩
theorem Rep.tup_inv {v : V} {ds : List D} (h : Rep K F v (.tup ds)) : ∃ a vs, v = .ref a ∧ SqT K F a vs ∧ Reps K F vs ds := by
  cases h with
  | tup h r => exact ⟨_, _, rfl, h, r⟩
theorem Rep.dic_inv {v : V} {es : List (D × D)} (h : Rep K F v (.dic es)) : ∃ a kvs, v = .ref a ∧ Rd F a (.dK kvs) ∧ RepK K F kvs es := by
  cases h with
  | dic h r => exact ⟨_, _, rfl, h, r⟩
theorem Rep.int_inv {v : V} {i : Int} (h : Rep K F v (.int i)) : v = .int i := by cases h; rfl
theorem Rep.bl_inv {v : V} {b : Bool} (h : Rep K F v (.bl b)) : v = .bl b := by cases h; rfl
theorem Rep.str_inv {v : V} {l : List Nat} (h : Rep K F v (.str l)) : v = .str (sOf l) ∧ okS l := by
  cases h with
  | str _ h => exact ⟨rfl, h⟩
theorem Shals.one {vs : List V} {d : D} (h : Shals K F H vs [d]) : ∃ v, vs = [v] ∧ Shal K F H v d := by
  cases h with
  | cons a b => cases b; exact ⟨_, rfl, a⟩
theorem Shals.two {vs : List V} {d e : D} (h : Shals K F H vs [d, e]) : ∃ v w, vs = [v, w] ∧ Shal K F H v d ∧ Shal K F H w e := by
  cases h with
  | cons a b =>
    obtain ⟨w, rfl, c⟩ := b.one
    exact ⟨_, _, rfl, a, c⟩
theorem Reps.one {vs : List V} {d : D} (h : Reps K F vs [d]) : ∃ v, vs = [v] ∧ Rep K F v d := by
  cases h with
  | cons a b => cases b; exact ⟨_, rfl, a⟩
theorem Reps.two {vs : List V} {d e : D} (h : Reps K F vs [d, e]) : ∃ v w, vs = [v, w] ∧ Rep K F v d ∧ Rep K F w e := by
  cases h with
  | cons a b =>
    obtain ⟨w, rfl, c⟩ := b.one
    exact ⟨_, _, rfl, a, c⟩
end

/-! ### operands resolved -/
/-- what the operands are, read only -/
def resA (env : Env) : List Opd → Option (List D)
  | [] => some []
  | .t o :: r => (resA env r).map (o.erase :: ·)
  | .v i :: r => match env[i]? with
    | some (some o) => (resA env r).map (o.erase :: ·)
    | _ => none
/-- .. and what is deeply owned is frozen -/
def resB (env : Env) : List Opd → Option (List D × Env)
  | [] => some ([], env)
  | .t o :: r => (resB env r).map fun p => (o.erase :: p.1, p.2)
  | .v i :: r => match env[i]? with
    | some (some o) => if o.shal = true then (resB env r).map fun p => (o.erase :: p.1, p.2) else (resB (env.set i (some (.fz o.erase))) r).map fun p => (o.erase :: p.1, p.2)
    | _ => none
section
variable {K : PySem.W.Frag} {F H : Hp} {σ : L2.St}
theorem resA_ok {env : Env} {S : List Addr} (st : Stt K F H σ env S) : ∀ {ops : List Opd} {vs : List V} {T : List Addr} {ds : List D}, OpdsV K F H σ vs ops T → resA env ops = some ds → Reps K H vs ds
  | _, _, _, ds, .nil, e => by simp [resA] at e; subst e; exact .nil
  | _, _, _, ds, .t h r, e => by
    simp only [resA, Option.map_eq_some_iff] at e
    obtain ⟨ds', e1, rfl⟩ := e
    exact .cons (h.rep st.sub) (resA_ok st r e1)
  | _, _, _, ds, .v (i := i) h r, e => by
    unfold resA at e
    split at e
    · rename_i o ho
      simp only [Option.map_eq_some_iff] at e
      obtain ⟨ds', e1, rfl⟩ := e
      obtain ⟨v', fp, S0, hv, ow, _⟩ := st.own.take ho
      rw [h] at hv
      cases hv
      exact .cons (ow.rep st.sub) (resA_ok st r e1)
    · cases e
/-- a slot is frozen -/
theorem Stt.freezeAt {env : Env} {S : List Addr} {i : Nat} {o : O} (st : Stt K F H σ env S) (ho : env[i]? = some (some o)) :
    ∃ F' S' v, σ[i]? = some (some v) ∧ Trans F H S F' H S' ∧ Stt K F' H σ (env.set i (some (.fz o.erase))) S' ∧ Rep K F' v o.erase := by
  obtain ⟨v, fp, S0, hv, ow, pm, sl⟩ := st.own.take ho
  have nd : (fp ++ S0).Nodup := pm.nodup_iff.mpr st.nd
  have nd' := List.nodup_append.mp nd
  have nf : ∀ a ∈ fp, F a = none := fun a m => st.sep a (pm.mem_iff.mp (List.mem_append_left _ m))
  have hi : i < env.length := (List.getElem?_eq_some_iff.mp ho).1
  have rp : Rep K (PyD.frz F H fp) v o.erase := ow.freeze (frz_ex nf) fun a m u e => by rw [frz_in m]; exact e
  obtain ⟨S', h1, h2⟩ := (sl.keep (F' := PyD.frz F H fp) (H' := H) (frz_ex nf) fun _ _ _ e => e).putBack (i := i) (o := .fz o.erase) (by rw [List.getElem?_set_self hi]) hv (.fz rp)
  refine ⟨PyD.frz F H fp, S', v, hv, ?_, ⟨by simpa using h1, frz_sub st.sub, ?_, fun a m => ?_⟩, rp⟩
  · refine ((frz_trans (S := S0) nf).wide fun a m => pm.mem_iff.mp m).sub fun a m => ?_
    have := h2.mem_iff.mp m
    simpa using this
  · exact h2.nodup_iff.mpr (by simpa using nd'.2.1)
  · have m' : a ∈ S0 := by simpa using h2.mem_iff.mp m
    rw [frz_out fun n => nd'.2.2 a n a m' rfl]
    exact st.sep a (pm.mem_iff.mp (List.mem_append_right _ m'))
/-- operands, the values in hand frozen -/
inductive OpdsR (K : PySem.W.Frag) (F : Hp) (σ : L2.St) : List V → List Opd → Prop
  | nil : OpdsR K F σ [] []
  | v {i : Nat} {v : V} {vs : List V} {ops : List Opd} : σ[i]? = some (some v) → OpdsR K F σ vs ops → OpdsR K F σ (v :: vs) (.v i :: ops)
  | t {o : O} {v : V} {vs : List V} {ops : List Opd} : Rep K F v o.erase → OpdsR K F σ vs ops → OpdsR K F σ (v :: vs) (.t o :: ops)
theorem OpdsR.mono {F' : Hp} (e : Ex F F') : ∀ {vs ops}, OpdsR K F σ vs ops → OpdsR K F' σ vs ops
  | _, _, .nil => .nil
  | _, _, .v h r => .v h (OpdsR.mono e r)
  | _, _, .t h r => .t (h.mono e) (OpdsR.mono e r)
theorem OpdsV.freeze {F' : Hp} (e : Ex F F') : ∀ {vs ops T}, OpdsV K F H σ vs ops T → (∀ a ∈ T, ∀ u, H a = some u → F' a = some u) → OpdsR K F' σ vs ops
  | _, _, _, .nil, _ => .nil
  | _, _, _, .v h r, k => .v h (OpdsV.freeze e r k)
  | _, _, _, .t h r, k => .t (h.freeze e fun a m => k a (List.mem_append_left _ m)) (OpdsV.freeze e r fun a m => k a (List.mem_append_right _ m))
theorem resB_vars : ∀ {ops : List Opd} {F : Hp} {env : Env} {S : List Addr} {vs : List V} {ds : List D} {env' : Env}, Stt K F H σ env S → OpdsR K F σ vs ops → resB env ops = some (ds, env') →
    ∃ F' S', Trans F H S F' H S' ∧ Stt K F' H σ env' S' ∧ Shals K F' H vs ds
  | [], F, env, S, _, ds, env', st, .nil, e => by
    simp [resB] at e
    obtain ⟨rfl, rfl⟩ := e
    exact ⟨F, S, Trans.refl, st, .nil⟩
  | .t o :: r, F, env, S, _, ds, env', st, .t h q, e => by
    simp only [resB, Option.map_eq_some_iff] at e
    obtain ⟨⟨ds', e'⟩, e1, e2⟩ := e
    obtain ⟨F', S', t, s, k⟩ := resB_vars st q e1
    cases e2
    exact ⟨F', S', t, s, .cons (.fz (h.mono t.ff)) k⟩
  | .v i :: r, F, env, S, _, ds, env', st, .v (v := v) h q, e => by
    unfold resB at e
    split at e
    · rename_i o ho
      split at e
      · rename_i hs
        simp only [Option.map_eq_some_iff] at e
        obtain ⟨⟨ds', e'⟩, e1, e2⟩ := e
        obtain ⟨v', fp, S0, hv, ow, _⟩ := st.own.take ho
        rw [h] at hv
        cases hv
        obtain ⟨F', S', t, s, k⟩ := resB_vars st q e1
        cases e2
        exact ⟨F', S', t, s, .cons ((ow.shal hs).mono t.ff) k⟩
      · simp only [Option.map_eq_some_iff] at e
        obtain ⟨⟨ds', e'⟩, e1, e2⟩ := e
        obtain ⟨F1, S1, v', hv, t1, s1, rp⟩ := st.freezeAt ho
        rw [h] at hv
        cases hv
        obtain ⟨F', S', t, s, k⟩ := resB_vars s1 (q.mono t1.ff) e1
        cases e2
        exact ⟨F', S', t1.trans t, s, .cons (.fz (rp.mono t.ff)) k⟩
    · cases e
theorem resB_ok {ops : List Opd} {env : Env} {S T : List Addr} {vs : List V} {ds : List D} {env' : Env} (sp : Stp K F H σ env S vs ops T) (e : resB env ops = some (ds, env')) :
    ∃ F' S', Trans F H (T ++ S) F' H S' ∧ Stt K F' H σ env' S' ∧ Shals K F' H vs ds := by
  have q := sp.val.freeze (F' := frz F H T) (frz_ex sp.as.nf) fun a m u e => by rw [frz_in m]; exact e
  obtain ⟨F', S', t, s, k⟩ := resB_vars (sp.st.frz sp.as) q e
  exact ⟨F', S', (frz_trans sp.as.nf).trans t, s, k⟩

/-- new objects alone: all that was there stays, the slots too -/
theorem Stt.grow {F' H' : Hp} {env : Env} {S T : List Addr} (st : Stt K F H σ env S) (t : Trans F H [] F' H' T) (sb : Ex F' H') (nd : T.Nodup) (sep : ∀ a ∈ T, F' a = none) (lv : ∀ a ∈ T, ∃ u, H' a = some u) :
    Trans F H S F' H' (T ++ S) ∧ Stt K F' H' σ env S ∧ Aside F' H' S T := by
  have hT : ∀ a ∈ T, H a = none := fun a m => (t.sn a m).resolve_left (fun z => nomatch z)
  refine ⟨⟨fun a o e _ => t.fr a o e (fun z => nomatch z), t.ff, fun a o e => (t.fn a o e).imp_right fun z => .inr (z.resolve_left (fun y => nomatch y)), fun a m => ?_, t.dm⟩,
    ⟨st.own.keep t.ff fun a _ u e => t.fr a u e (fun z => nomatch z), sb, st.nd, fun a m => ?_⟩, ⟨fun a m n => ?_, sep, lv⟩⟩
  · rcases List.mem_append.mp m with m | m
    · exact .inr (hT a m)
    · exact .inl m
  · obtain ⟨u, e⟩ := st.own.live a m
    cases q : F' a with
    | none => rfl
    | some o =>
      rcases t.fn a o q with ⟨w, z⟩ | z | z
      · rw [st.sep a m] at z; cases z
      · cases z
      · rw [e] at z; cases z
  · obtain ⟨u, e⟩ := st.own.live a n
    rw [hT a m] at e; cases e
end

/-! ### operations on data -/
/-- atoms -/
inductive At where
  | non | bl (b : Bool) | int (i : Int) | str (s : List Nat)
def At.d : At → D
  | .non => .non
  | .bl b => .bl b
  | .int i => .int i
  | .str s => .str s
def At.v : At → V
  | .non => .non
  | .bl b => .bl b
  | .int i => .int i
  | .str s => .str (sOf s)
def At.fits : At → Prop
  | .str s => okS s
  | _ => True
theorem At.rep {K : PySem.W.Frag} {F : Hp} : ∀ a : At, a.fits → Rep K F a.v a.d
  | .non, _ => .non
  | .bl b, _ => .bl b
  | .int i, _ => .int i
  | .str s, h => .str s h
/-- an operation that reads its operands and gives an atom -/
def OpA (K : PySem.W.Frag) (rd : List V → Hp → VK → Prop) (sem : List D → Option At) : Prop :=
  ∀ (H : Hp) (vs : List V) (ds : List D) (a : At) (Q : VK), Reps K H vs ds → sem ds = some a → (a.fits → Q a.v H) → rd vs H Q
/-- an operation that reads its operands and gives a value that may hold parts of them -/
def OpB (K : PySem.W.Frag) (rd : List V → Hp → VK → Prop) (sem : List D → Option O) : Prop :=
  ∀ (F H : Hp) (vs : List V) (ds : List D) (o : O) (Q : VK), Ex F H → Shals K F H vs ds → sem ds = some o →
    (∀ v F' H' T, Trans F H [] F' H' T → Own K F' H' v o T → Ex F' H' → T.Nodup → (∀ a ∈ T, F' a = none) → Q v H') → rd vs H Q
def eA (sem : List D → Option At) (f : Env → R (List Opd)) : Env → R O := fun env => match f env with
  | .ok ops e => (match (resA e ops).bind sem with
    | some a => .ok (.fz a.d) e
    | none => .bad)
  | .exc c ds e => .exc c ds e
  | .bad => .bad
def eB (sem : List D → Option O) (f : Env → R (List Opd)) : Env → R O := fun env => match f env with
  | .ok ops e => (match resB e ops with
    | some (ds, e') => (match sem ds with
      | some o => .ok o e'
      | none => .bad)
    | none => .bad)
  | .exc c ds e => .exc c ds e
  | .bad => .bad
section
variable {n : Nat} {X : Cx}
theorem sta_one {K : PySem.W.Frag} {F H : Hp} {σ : L2.St} {env : Env} {S T : List Addr} {v : V} {o : O} (st : Stt K F H σ env S) (ow : Own K F H v o T) (nd : T.Nodup) (as : Aside F H S T) : Sta K F H σ env S [v] [o] T :=
  ⟨st, by simpa using Owns.cons ow Owns.nil, nd, as⟩
theorem snd_A {e : Expr} {es : List Expr} {f : Env → R (List Opd)} {rd : List V → Hp → VK → Prop} {sem : List D → Option At} (hf : SndL n X es f) (hop : OpA X.K rd sem)
    (he : ∀ σ H Q, wL n X es σ H (fun vs H1 => rd vs H1 Q) → wE n X e σ H Q) : SndE n X e (eA sem f) := by
  refine .mk fun W tk env σ F H S Q st q => ?_
  refine he σ H Q (hf.run W tk env σ F H S _ st ?_)
  unfold eA at q
  revert q
  cases f env with
  | exc c ds e => exact fun q => q
  | bad => exact fun q => q
  | ok ops e1 =>
    intro q vs F1 H1 S1 T1 tr sp
    revert q
    show PostE X W σ F H S Q (match (resA e1 ops).bind sem with
      | some a => .ok (.fz a.d) e1
      | none => .bad) → rd vs H1 Q
    cases e2 : resA e1 ops with
    | none => exact fun q => q.elim
    | some ds =>
      show PostE X W σ F H S Q (match sem ds with
        | some a => .ok (.fz a.d) e1
        | none => .bad) → rd vs H1 Q
      cases e3 : sem ds with
      | none => exact fun q => q.elim
      | some a =>
        intro q
        exact hop H1 vs ds a Q (resA_ok sp.st sp.val e2) e3 fun fit => (q a.v F1 H1 S1 [] (tr.sub fun x m => List.mem_append_right _ (by simpa using m)) (sta_one sp.st (.fz (a.rep fit)) List.nodup_nil ⟨fun _ m => (nomatch m), fun _ m => (nomatch m), fun _ m => (nomatch m)⟩))
theorem snd_B {e : Expr} {es : List Expr} {f : Env → R (List Opd)} {rd : List V → Hp → VK → Prop} {sem : List D → Option O} (hf : SndL n X es f) (hop : OpB X.K rd sem)
    (he : ∀ σ H Q, wL n X es σ H (fun vs H1 => rd vs H1 Q) → wE n X e σ H Q) : SndE n X e (eB sem f) := by
  refine .mk fun W tk env σ F H S Q st q => ?_
  refine he σ H Q (hf.run W tk env σ F H S _ st ?_)
  unfold eB at q
  revert q
  cases f env with
  | exc c ds e => exact fun q => q
  | bad => exact fun q => q
  | ok ops e1 =>
    intro q vs F1 H1 S1 T1 tr sp
    revert q
    show PostE X W σ F H S Q (match resB e1 ops with
      | some (ds, e') => (match sem ds with
        | some o => .ok o e'
        | none => .bad)
      | none => .bad) → rd vs H1 Q
    cases e2 : resB e1 ops with
    | none => exact fun q => q.elim
    | some p =>
      obtain ⟨ds, e'⟩ := p
      show PostE X W σ F H S Q (match sem ds with
        | some o => .ok o e'
        | none => .bad) → rd vs H1 Q
      cases e3 : sem ds with
      | none => exact fun q => q.elim
      | some o =>
        intro q
        obtain ⟨F2, S2, t2, s2, sh⟩ := resB_ok sp e2
        refine hop F2 H1 vs ds o Q s2.sub sh e3 fun v F3 H3 T3 t3 ow sb nd sep => ?_
        obtain ⟨t4, s4, a4⟩ := s2.grow t3 sb nd sep fun a m => ow.live a m
        exact q v F3 H3 S2 T3 ((tr.trans t2).trans t4) (sta_one s4 ow nd a4)
end
end PyD
end

section
set_option Elab.async false
set_option linter.all false
set_option maxRecDepth 100000
namespace PyD
variable [Om]
open PySem L2 PySem.Spec PyProof.Rows

/-! ### composed readings -/
section
variable {n : Nat} {X : Cx} {σ : L2.St} {H : Hp}
theorem wSs_cons {st : Stmt} {rest : List Stmt} {u : TS} {D : Ends} (h : wS n X st { D with nx := fun σ' H' => u D σ' H' } σ H) (k : ∀ D σ' H', u D σ' H' → wSs n X rest D σ' H') : wSs n X (st :: rest) D σ H := by
  intro pins s hn I
  refine wpAny_execs_cons (thn' hn (h pins s hn I) fun f s1 n1 q => ?_)
  cases f with
  | next =>
    obtain ⟨σ', H', I', q⟩ := q
    exact k _ _ _ q pins s1 n1 I'
  | ret v => exact q
  | brk => exact q
  | cont => exact q
theorem wSs_one {st : Stmt} {D : Ends} (h : wS n X st D σ H) : wSs n X [st] D σ H := by
  intro pins s hn I
  refine wpAny_execs_cons (thn (h pins s hn I) fun f s1 q => ?_)
  cases f with
  | next => exact wpAny_execs_nil q
  | ret v => exact q
  | brk => exact q
  | cont => exact q
theorem wS_ret {e : Expr} {pos : Pos} {D : Ends} (h : wE n X e σ H D.rt) : wS n X (.Return (some e) pos) D σ H := fun pins s hn I =>
  wpAny_Return_some (thn (wE_run h pins s hn I) fun _ _ z => let ⟨x, H1, I1, r1, q1⟩ := z; ⟨x, σ, H1, I1, r1, q1⟩)
theorem wS_if {c : Expr} {a b : List Stmt} {pos : Pos} {D : Ends} (h : wT n X c σ H fun t H1 => if t = true then wSs n X a D σ H1 else wSs n X b D σ H1) : wS n X (.If c a b pos) D σ H := by
  intro pins s hn I
  refine wpAny_If (thn' hn (h pins s hn I) fun d s1 n1 z => ?_)
  obtain ⟨H1, I1, q1⟩ := z
  cases d with
  | true => exact q1 pins s1 n1 I1
  | false => exact q1 pins s1 n1 I1
theorem wT_val {e : Expr} {Q : Bool → Hp → Prop} (he : ∀ whole, isTrue e X.env whole = (do let v ← whole; standAt e.pos; holding [v] (truthy v))) (h : wE n X e σ H fun x H1 => ∃ b, x = .bl b ∧ Q b H1) : wT n X e σ H Q := by
  intro pins s hn I
  refine isTrue_plain (thn (wE_run h pins s hn I) fun v s1 z => ?_) (he _)
  obtain ⟨x, H1, I1, r1, d, e1, q⟩ := z
  subst e1
  cases r1
  exact wpAny_truthy_bool ⟨H1, I1, q⟩
theorem wW_or1 {a : Expr} {pos : Pos} {Q : Bool → Hp → Prop} (h : wT n X a σ H Q) : wW n X (.BoolOp .Or [a] pos) σ H Q := by
  intro wh pins s hn I
  refine isTrue_or (thn (h pins s hn I) fun c s1 z => ?_)
  cases c with
  | false => exact isTrue_or_nil z
  | true => exact z
theorem wW_or {a b : Expr} {rest : List Expr} {pos : Pos} {Q : Bool → Hp → Prop} (h : wT n X a σ H fun c H1 => if c = true then Q true H1 else wW n X (.BoolOp .Or (b :: rest) pos) σ H1 Q) : wW n X (.BoolOp .Or (a :: b :: rest) pos) σ H Q := by
  intro wh pins s hn I
  refine isTrue_or (thn' hn (h pins s hn I) fun c s1 n1 z => ?_)
  obtain ⟨H1, I1, q1⟩ := z
  cases c with
  | false => exact q1 wh pins s1 n1 I1
  | true => exact ⟨H1, I1, q1⟩
theorem wT_not {a : Expr} {pos : Pos} {Q : Bool → Hp → Prop} (h : wT n X a σ H fun c H1 => Q (!c) H1) : wT n X (.UnaryOp .Not a pos) σ H Q := fun pins s hn I => isTrue_not (h pins s hn I)
end
inductive Fl where
  | nx | rt (o : O) | bk | ct
/-- the slots that are not stored to -/
def Agree (pr : Nat → Bool) (σ σ' : L2.St) : Prop := σ'.length = σ.length ∧ ∀ i, pr i = true → σ'[i]? = σ[i]?
theorem Agree.refl {pr : Nat → Bool} {σ : L2.St} : Agree pr σ σ := ⟨rfl, fun _ _ => rfl⟩
theorem Agree.trans {pr : Nat → Bool} {σ σ1 σ2 : L2.St} (a : Agree pr σ σ1) (b : Agree pr σ1 σ2) : Agree pr σ σ2 := ⟨b.1.trans a.1, fun i h => (b.2 i h).trans (a.2 i h)⟩
theorem Agree.set {pr : Nat → Bool} {σ : L2.St} {i : Nat} {x : Option V} (h : pr i = false) : Agree pr σ (σ.set i x) := ⟨by simp, fun j hj => by
  rw [List.getElem?_set_ne]
  rintro rfl
  rw [h] at hj; cases hj⟩
def ExcPostS (K : PySem.W.Frag) (W : WX) (pr : Nat → Bool) (c : Str) (ds : List D) (env' : Env) (σ : L2.St) (F H : Hp) (S : List Addr) : Prop :=
  ∀ σ' cls d F' H' S', Trans F H S F' H' S' → Stt K F' H' σ' env' S' → Agree pr σ σ' → ExcV K F' H' c ds cls d → (∀ x, d = some x → H x = none) → W cls d σ' H'
def PostS (X : Cx) (W : WX) (pr : Nat → Bool) (σ : L2.St) (F H : Hp) (S : List Addr) (D : Ends) : R Fl → Prop
  | .ok .nx env' => ∀ σ' F' H' S', Trans F H S F' H' S' → Stt X.K F' H' σ' env' S' → Agree pr σ σ' → D.nx σ' H'
  | .ok .bk env' => ∀ σ' F' H' S', Trans F H S F' H' S' → Stt X.K F' H' σ' env' S' → Agree pr σ σ' → D.bk σ' H'
  | .ok .ct env' => ∀ σ' F' H' S', Trans F H S F' H' S' → Stt X.K F' H' σ' env' S' → Agree pr σ σ' → D.ct σ' H'
  | .ok (.rt o) env' => ∀ v σ' F' H' S' T, Trans F H S F' H' (T ++ S') → Sta X.K F' H' σ' env' S' [v] [o] T → Agree pr σ σ' → D.rt v H'
  | .exc c ds env' => ExcPostS X.K W pr c ds env' σ F H S
  | .bad => False
theorem PostS.over {X : Cx} {W : WX} {pr : Nat → Bool} {σ σ1 : L2.St} {F H F1 H1 : Hp} {S S1 : List Addr} {D : Ends} {r : R Fl} (p : PostS X W pr σ F H S D r) (t : Trans F H S F1 H1 S1) (g : Agree pr σ σ1) : PostS X W pr σ1 F1 H1 S1 D r := by
  cases r with
  | ok f e =>
    cases f with
    | nx => exact fun σ' F' H' S' t' s a => p σ' F' H' S' (t.trans t') s (g.trans a)
    | bk => exact fun σ' F' H' S' t' s a => p σ' F' H' S' (t.trans t') s (g.trans a)
    | ct => exact fun σ' F' H' S' t' s a => p σ' F' H' S' (t.trans t') s (g.trans a)
    | rt o => exact fun v σ' F' H' S' T t' s a => p v σ' F' H' S' T (t.trans t') s (g.trans a)
  | exc c ds e => exact fun σ' cls d F' H' S' t' s a x n => p σ' cls d F' H' S' (t.trans t') s (g.trans a) x fun y e => t.dm y (n y e)
  | bad => exact p
theorem ExcPostS.e {K : PySem.W.Frag} {W : WX} {pr : Nat → Bool} {c : Str} {ds : List D} {env' : Env} {σ : L2.St} {F H : Hp} {S : List Addr} (p : ExcPostS K W pr c ds env' σ F H S) : ExcPost K W c ds env' σ F H S :=
  fun cls d F' H' S' t s x n => p σ cls d F' H' S' t s Agree.refl x n
/-- a statement does g -/
structure SndS (n : Nat) (X : Cx) (pr : Nat → Bool) (st : Stmt) (g : Env → R Fl) : Prop where
  run : ∀ W, L2N.Takes X W → ∀ env σ F H S D, Stt X.K F H σ env S → PostS X W pr σ F H S D (g env) → wS n X st D σ H
structure SndSs (n : Nat) (X : Cx) (pr : Nat → Bool) (sts : List Stmt) (g : Env → R Fl) : Prop where
  run : ∀ W, L2N.Takes X W → ∀ env σ F H S D, Stt X.K F H σ env S → PostS X W pr σ F H S D (g env) → wSs n X sts D σ H
def PostT (X : Cx) (W : WX) (σ : L2.St) (F H : Hp) (S : List Addr) (Q : Bool → Hp → Prop) : R Bool → Prop
  | .ok b env' => ∀ F' H' S', Trans F H S F' H' S' → Stt X.K F' H' σ env' S' → Q b H'
  | .exc c ds env' => ExcPost X.K W c ds env' σ F H S
  | .bad => False
/-- a test tells f -/
structure SndT (n : Nat) (X : Cx) (e : Expr) (f : Env → R Bool) : Prop where
  run : ∀ W, L2N.Takes X W → ∀ env σ F H S Q, Stt X.K F H σ env S → PostT X W σ F H S Q (f env) → wT n X e σ H Q
structure SndW (n : Nat) (X : Cx) (e : Expr) (f : Env → R Bool) : Prop where
  run : ∀ W, L2N.Takes X W → ∀ env σ F H S Q, Stt X.K F H σ env S → PostT X W σ F H S Q (f env) → wW n X e σ H Q
theorem PostT.over {X : Cx} {W : WX} {σ : L2.St} {F H F1 H1 : Hp} {S S1 : List Addr} {Q : Bool → Hp → Prop} {r : R Bool} (p : PostT X W σ F H S Q r) (t : Trans F H S F1 H1 S1) : PostT X W σ F1 H1 S1 Q r := by
  cases r with
  | ok b e => exact fun F' H' S' t' s => p F' H' S' (t.trans t') s
  | exc c ds e => exact ExcPost.over p t
  | bad => exact p
theorem PostE.over {X : Cx} {W : WX} {σ : L2.St} {F H F1 H1 : Hp} {S S1 : List Addr} {Q : VK} {r : R O} (p : PostE X W σ F H S Q r) (t : Trans F H S F1 H1 S1) : PostE X W σ F1 H1 S1 Q r := by
  cases r with
  | ok o e => exact fun v F' H' S' T t' s => p v F' H' S' T (t.trans t') s
  | exc c ds e => exact ExcPost.over p t
  | bad => exact p

/-! ### sequences -/
def sNil : Env → R Fl := fun env => .ok .nx env
def sSeq (g h : Env → R Fl) : Env → R Fl := fun env => match g env with
  | .ok .nx e => h e
  | r => r
section
variable {n : Nat} {X : Cx} {pr : Nat → Bool}
theorem snd_snil : SndSs n X pr [] sNil := .mk fun W tk env σ F H S D st q => wSs_of pss_nil (q σ F H S Trans.refl st Agree.refl)
theorem snd_scons {st : Stmt} {rest : List Stmt} {g h : Env → R Fl} (hg : SndS n X pr st g) (hh : SndSs n X pr rest h) : SndSs n X pr (st :: rest) (sSeq g h) := by
  refine .mk fun W tk env σ F H S D st q => ?_
  refine wSs_cons (u := fun D σ H => wSs n X rest D σ H) ?_ fun _ _ _ z => z
  refine hg.run W tk env σ F H S _ st ?_
  unfold sSeq at q
  revert q
  cases g env with
  | ok f e =>
    cases f with
    | nx => exact fun q σ' F' H' S' t s a => hh.run W tk e σ' F' H' S' D s (PostS.over q t a)
    | bk => exact fun q => q
    | ct => exact fun q => q
    | rt o => exact fun q => q
  | exc c ds e => exact fun q => q
  | bad => exact fun q => q
theorem snd_sone {st : Stmt} {g : Env → R Fl} (hg : SndS n X pr st g) : SndSs n X pr [st] g := by
  refine .mk fun W tk env σ F H S D st q => ?_
  exact wSs_one (hg.run W tk env σ F H S D st q)
/-! ### small statements -/
def sPass : Env → R Fl := fun env => .ok .nx env
def sBreak : Env → R Fl := fun env => .ok .bk env
def sCont : Env → R Fl := fun env => .ok .ct env
def sRet (f : Env → R O) : Env → R Fl := fun env => match f env with
  | .ok o e => .ok (.rt o) e
  | .exc c ds e => .exc c ds e
  | .bad => .bad
theorem snd_ret {e : Expr} {f : Env → R O} {pos : Pos} (h : SndE n X e f) : SndS n X pr (.Return (some e) pos) (sRet f) := by
  refine .mk fun W tk env σ F H S D st q => ?_
  refine wS_ret (h.run W tk env σ F H S _ st ?_)
  unfold sRet at q
  revert q
  cases f env with
  | ok o e => exact fun q v F' H' S' T t s => q v σ F' H' S' T t s Agree.refl
  | exc c ds e => exact fun q => ExcPostS.e q
  | bad => exact fun q => q
def sExpr (f : Env → R O) : Env → R Fl := fun env => match f env with
  | .ok o e => .ok .nx e
  | .exc c ds e => .exc c ds e
  | .bad => .bad
def sIf (c : Env → R Bool) (g h : Env → R Fl) : Env → R Fl := fun env => match c env with
  | .ok b e => if b = true then g e else h e
  | .exc c ds e => .exc c ds e
  | .bad => .bad
theorem snd_if {e : Expr} {a b : List Stmt} {c : Env → R Bool} {g h : Env → R Fl} {pos : Pos} (hc : SndT n X e c) (ha : SndSs n X pr a g) (hb : SndSs n X pr b h) : SndS n X pr (.If e a b pos) (sIf c g h) := by
  refine .mk fun W tk env σ F H S D st q => ?_
  refine wS_if (hc.run W tk env σ F H S _ st ?_)
  unfold sIf at q
  revert q
  cases c env with
  | ok t e =>
    intro q F' H' S' tr s
    cases t with
    | true => exact ha.run W tk e σ F' H' S' D s (PostS.over q tr Agree.refl)
    | false => exact hb.run W tk e σ F' H' S' D s (PostS.over q tr Agree.refl)
  | exc c ds e => exact fun q => ExcPostS.e q
  | bad => exact fun q => q
/-! ### tests -/
def tBool (f : Env → R O) : Env → R Bool := fun env => match f env with
  | .ok (.fz (.bl b)) e => .ok b e
  | .exc c ds e => .exc c ds e
  | _ => .bad
theorem snd_tval {e : Expr} {f : Env → R O} (h : SndE n X e f) (he : ∀ whole, isTrue e X.env whole = (do let v ← whole; standAt e.pos; holding [v] (truthy v)) := by intro _; rfl) : SndT n X e (tBool f) := by
  refine .mk fun W tk env σ F H S Q st q => ?_
  refine wT_val he (h.run W tk env σ F H S _ st ?_)
  unfold tBool at q
  revert q
  cases f env with
  | ok o e =>
    cases o with
    | fz d =>
      cases d with
      | bl b =>
        intro q v F' H' S' T t s
        have := s.val
        cases this with
        | cons a b =>
          cases a with
          | fz r => cases r; exact ⟨_, rfl, q F' H' S' (t.sub fun x m => List.mem_append_right _ m) s.st⟩
      | _ => exact fun q => q.elim
    | _ => exact fun q => q.elim
  | exc c ds e => exact fun q => q
  | bad => exact fun q => q.elim
def tAnd' (f g : Env → R Bool) : Env → R Bool := fun env => match f env with
  | .ok b e => if b = true then g e else .ok false e
  | .exc c ds e => .exc c ds e
  | .bad => .bad
def tOr' (f g : Env → R Bool) : Env → R Bool := fun env => match f env with
  | .ok b e => if b = true then .ok true e else g e
  | .exc c ds e => .exc c ds e
  | .bad => .bad
def tNot' (f : Env → R Bool) : Env → R Bool := fun env => match f env with
  | .ok b e => .ok (!b) e
  | .exc c ds e => .exc c ds e
  | .bad => .bad
theorem snd_wor1 {a : Expr} {f : Env → R Bool} {pos : Pos} (h : SndT n X a f) : SndW n X (.BoolOp .Or [a] pos) f := .mk fun W tk env σ F H S Q st q => wW_or1 (h.run W tk env σ F H S Q st q)
theorem snd_wor {a b : Expr} {rest : List Expr} {f g : Env → R Bool} {pos : Pos} (h : SndT n X a f) (k : SndW n X (.BoolOp .Or (b :: rest) pos) g) : SndW n X (.BoolOp .Or (a :: b :: rest) pos) (tOr' f g) := by
  refine .mk fun W tk env σ F H S Q st q => ?_
  refine wW_or (h.run W tk env σ F H S _ st ?_)
  unfold tOr' at q
  revert q
  cases f env with
  | ok c e =>
    intro q F' H' S' t s
    cases c with
    | true => exact q F' H' S' t s
    | false => exact k.run W tk e σ F' H' S' Q s (PostT.over q t)
  | exc c ds e => exact fun q => q
  | bad => exact fun q => q
theorem snd_tw {e : Expr} {f : Env → R Bool} (h : SndW n X e f) : SndT n X e f := .mk fun W tk env σ F H S Q st q => by
  have := h.run W tk env σ F H S Q st q
  exact fun pins s hn I => this _ pins s hn I
theorem snd_tnot {a : Expr} {f : Env → R Bool} {pos : Pos} (h : SndT n X a f) : SndT n X (.UnaryOp .Not a pos) (tNot' f) := by
  refine .mk fun W tk env σ F H S Q st q => ?_
  refine wT_not (h.run W tk env σ F H S _ st ?_)
  unfold tNot' at q
  revert q
  cases f env with
  | ok c e => exact fun q => q
  | exc c ds e => exact fun q => q
  | bad => exact fun q => q
/-- a if t else b -/
def eIf (c : Env → R Bool) (f g : Env → R O) : Env → R O := fun env => match c env with
  | .ok b e => if b = true then f e else g e
  | .exc c ds e => .exc c ds e
  | .bad => .bad
/-! ### constants, names -/
def eC (a : At) : Env → R O := fun env => .ok (.fz a.d) env
theorem snd_c {e : Expr} {a : At} (h : PE X e (tC a.v)) (hf : a.fits) : SndE n X e (eC a) := .mk fun W tk env σ F H S Q st q =>
  wE_of h (q a.v F H S [] (Trans.refl) (sta_one st (.fz (a.rep hf)) List.nodup_nil ⟨fun _ m => (nomatch m), fun _ m => (nomatch m), fun _ m => (nomatch m)⟩))
/-- a name's value, handed on: it is frozen -/
def eVar (i : Nat) : Env → R O := fun env => match env[i]? with
  | some (some (.fz d)) => .ok (.fz d) env
  | some (some (.dct _)) => .bad
  | some (some (.seen _)) => .bad
  | some (some (.nd _)) => .bad
  | some (some o) => .ok (.fz o.erase) (env.set i (some (.fz o.erase)))
  | _ => .bad
theorem snd_var {i : Nat} {x : Str} {p : Pos} (hN : X.N[i]? = some x) (hv : Vis X.env.scope x) (hd : (x == ("__debug__" : Str)) = false := by decide) (hcd : (x == ("__classdict__" : Str)) = false := by decide) : SndE n X (.Name x p) (eVar i) := by
  refine .mk fun W tk env σ F H S Q st q => ?_
  refine wE_of (pe_var hN hv hd hcd) ?_
  unfold eVar at q
  split at q
  · rename_i d ho
    obtain ⟨v, fp, S0, hv1, ow, _⟩ := st.own.take ho
    cases ow with
    | fz r => exact ⟨v, hv1, q v F H S [] Trans.refl (sta_one st (.fz r) List.nodup_nil ⟨fun _ m => (nomatch m), fun _ m => (nomatch m), fun _ m => (nomatch m)⟩)⟩
  · exact q.elim
  · exact q.elim
  · exact q.elim
  · rename_i o hn hn2 hn3 hn4 ho
    obtain ⟨F', S', v, hv1, t, s, rp⟩ := st.freezeAt ho
    exact ⟨v, hv1, q v F' H S' [] t (sta_one s (.fz rp) List.nodup_nil ⟨fun _ m => (nomatch m), fun _ m => (nomatch m), fun _ m => (nomatch m)⟩)⟩
  · exact q.elim
/-- a name's value, moved out of a slot that is not asked again (a return) -/
def eMove (i : Nat) : Env → R O := fun env => match env[i]? with
  | some (some o) => .ok o (env.set i none)
  | _ => .bad
theorem snd_move {i : Nat} {x : Str} {p : Pos} (hN : X.N[i]? = some x) (hv : Vis X.env.scope x) (hd : (x == ("__debug__" : Str)) = false := by decide) (hcd : (x == ("__classdict__" : Str)) = false := by decide) : SndE n X (.Name x p) (eMove i) := by
  refine .mk fun W tk env σ F H S Q st q => ?_
  refine wE_of (pe_var hN hv hd hcd) ?_
  unfold eMove at q
  split at q
  · rename_i o ho
    obtain ⟨v, fp, S0, hv1, ow, pm, sl⟩ := st.own.take ho
    have nd : (fp ++ S0).Nodup := pm.nodup_iff.mpr st.nd
    have nd' := List.nodup_append.mp nd
    refine ⟨v, hv1, q v F H S0 fp (Trans.refl.sub fun x m => pm.mem_iff.mp m) (sta_one ⟨sl, st.sub, nd'.2.1, fun a m => st.sep a (pm.mem_iff.mp (List.mem_append_right _ m))⟩ ow nd'.1 ⟨fun a m n => nd'.2.2 a m a n rfl, fun a m => st.sep a (pm.mem_iff.mp (List.mem_append_left _ m)), fun a m => ow.live a m⟩)⟩
  · exact q.elim
end
end PyD
end

section
set_option Elab.async false
set_option linter.all false
set_option maxRecDepth 100000
namespace PyD
variable [Om]
open PySem L2

/-! ### values in a row -/
def PostA (X : Cx) (W : WX) (σ : L2.St) (F H : Hp) (S : List Addr) (Q : List V → Hp → Prop) : R (List O) → Prop
  | .ok os env' => ∀ vs F' H' S' T, Trans F H S F' H' (T ++ S') → Sta X.K F' H' σ env' S' vs os T → Q vs H'
  | .exc c ds env' => ExcPost X.K W c ds env' σ F H S
  | .bad => False
/-- expressions from the left, each a value of its own -/
structure SndA (n : Nat) (X : Cx) (es : List Expr) (f : Env → R (List O)) : Prop where
  run : ∀ W, L2N.Takes X W → ∀ env σ F H S Q, Stt X.K F H σ env S → PostA X W σ F H S Q (f env) → wL n X es σ H Q
def aNil : Env → R (List O) := fun env => .ok [] env
def aCons (f : Env → R O) (r : Env → R (List O)) : Env → R (List O) := fun env => match f env with
  | .ok o e1 => (match r e1 with
    | .ok os e => .ok (o :: os) e
    | .exc c ds e => .exc c ds e
    | .bad => .bad)
  | .exc c ds e => .exc c ds e
  | .bad => .bad
section
variable {n : Nat} {X : Cx}
theorem Sta.one {K : PySem.W.Frag} {F H : Hp} {σ : L2.St} {env : Env} {S T : List Addr} {v : V} {o : O} (s : Sta K F H σ env S [v] [o] T) : Own K F H v o T := by
  have := s.val
  cases this with
  | cons a b =>
    cases b
    simpa using a
theorem snd_anil : SndA n X [] aNil := .mk fun W tk env σ F H S Q st q => q [] F H S [] Trans.refl (Sta.of st)
theorem tr_app {F H F1 H1 F2 H2 : Hp} {S S1 S2 T1 T2 : List Addr} (tr1 : Trans F H S F1 H1 (T1 ++ S1)) (tr2 : Trans F1 H1 S1 F2 H2 (T2 ++ S2)) : Trans F H S F2 H2 ((T1 ++ T2) ++ S2) := by
  have t1 : Trans F H S F1 H1 S1 := tr1.sub fun x m => List.mem_append_right _ m
  refine ⟨(t1.trans tr2).fr, (t1.trans tr2).ff, (t1.trans tr2).fn, fun x m => ?_, (t1.trans tr2).dm⟩
  rw [List.append_assoc] at m
  rcases List.mem_append.mp m with m | m
  · exact tr1.sn x (List.mem_append_left _ m)
  · rcases tr2.sn x m with z | z
    · exact t1.sn x z
    · exact .inr (t1.dm x z)
theorem snd_acons {e : Expr} {es : List Expr} {f : Env → R O} {r : Env → R (List O)} (he : SndE n X e f) (hr : SndA n X es r) : SndA n X (e :: es) (aCons f r) := by
  refine .mk fun W tk env σ F H S Q st q => ?_
  show wE n X e σ H _
  refine he.run W tk env σ F H S _ st ?_
  unfold aCons at q
  revert q
  cases f env with
  | exc c ds e => exact fun q => q
  | bad => exact fun q => q
  | ok o e1 =>
    intro q v F1 H1 S1 T1 tr1 sa
    refine hr.run W tk e1 σ F1 H1 S1 _ sa.st ?_
    have t1 : Trans F H S F1 H1 S1 := tr1.sub fun x m => List.mem_append_right _ m
    revert q
    show PostA X W σ F H S Q (match r e1 with
      | .ok os e => .ok (o :: os) e
      | .exc c ds e => .exc c ds e
      | .bad => .bad) → PostA X W σ F1 H1 S1 (fun vs H2 => Q (v :: vs) H2) (r e1)
    cases r e1 with
    | exc c ds e => exact fun q => q.over t1
    | bad => exact fun q => q
    | ok os e2 =>
      intro q vs F2 H2 S2 T2 tr2 sp
      have t2 : Trans F1 H1 S1 F2 H2 S2 := tr2.sub fun x m => List.mem_append_right _ m
      have ap : ∀ x ∈ T1, x ∉ T2 := sa.as.apart tr2
      exact q (v :: vs) F2 H2 S2 (T1 ++ T2) (tr_app tr1 tr2) ⟨sp.st, .cons (sa.one.over sa.as t2) sp.val, List.nodup_append.mpr ⟨sa.nd, sp.nd, fun x m y n z => ap x m (z ▸ n)⟩, (sa.as.over t2).app sp.as⟩
/-- plain arguments: no star among them -/
def Plain (X : Cx) : List Expr → Prop
  | [] => True
  | e :: es => starEach (e :: es) X.env = (false, eval e X.env) :: starEach es X.env ∧ Plain X es
theorem wA_L : ∀ {es : List Expr} {σ : L2.St} {H : Hp} {Q : List V → Hp → Prop}, Plain X es → wL n X es σ H Q → wA n X es σ H Q
  | [], σ, H, Q, _, h => PyD.wA_of pa_nil h
  | e :: es, σ, H, Q, p, h => wA_cons p.1 (wE_mono h fun v H1 h1 => wA_L p.2 h1)
theorem wE_lst {es : List Expr} {pos : Pos} {σ : L2.St} {H : Hp} {Q : VK} (h : wA n X es σ H fun xs H1 => xs.length ≤ sizeLine ∧ ∀ p, H1 p = none → Q (.ref p) (upd H1 p (.lst xs))) : wE n X (.List es pos) σ H Q := wE_mk fun pins s hn I => by
  refine wpAny_List_spliced (thn (h pos pins s hn I) fun us s1 w => ?_)
  obtain ⟨xs, H1, I1, r, z, q⟩ := w
  have dd := I1.lnew (t' := s1.toks) r z
  exact ⟨by rw [← r.length]; exact z, .ref _, _, dd, rfl, q _ I1.fresh⟩
def eLst (f : Env → R (List O)) : Env → R O := fun env => match f env with
  | .ok os e => if os.length ≤ 1000000 then .ok (.lst os) e else .bad
  | .exc c ds e => .exc c ds e
  | .bad => .bad
def eTup (f : Env → R (List O)) : Env → R O := fun env => match f env with
  | .ok os e => if os.length ≤ 1000000 then .ok (.tup os) e else .bad
  | .exc c ds e => .exc c ds e
  | .bad => .bad
theorem new_cell {K : PySem.W.Frag} {F H F1 H1 : Hp} {σ : L2.St} {env : Env} {S S1 T : List Addr} {vs : List V} {os : List O} {p : Addr} {u : HO} {o : O} (tr : Trans F H S F1 H1 (T ++ S1)) (s : Sta K F1 H1 σ env S1 vs os T) (hp : H1 p = none)
    (ow : ∀ H2, H2 p = some u → Owns K F1 H2 vs os T → Own K F1 H2 (.ref p) o (p :: T)) : Trans F H S F1 (upd H1 p u) (p :: T ++ S1) ∧ Sta K F1 (upd H1 p u) σ env S1 [.ref p] [o] (p :: T) := by
  have nT : p ∉ T := fun m => by
    obtain ⟨w, e⟩ := s.as.lv p m
    rw [hp] at e; cases e
  have nS : p ∉ S1 := fun m => by
    obtain ⟨w, e⟩ := s.st.own.live p m
    rw [hp] at e; cases e
  have ex : Ex H1 (upd H1 p u) := Ex.new hp
  have hF : F1 p = none := by
    cases e : F1 p with
    | none => rfl
    | some w => rw [s.st.sub p w e] at hp; cases hp
  refine ⟨⟨fun a w e n => ex a w (tr.fr a w e n), tr.ff, tr.fn, fun a m => ?_, fun a e => tr.dm a ?_⟩, sta_one ⟨s.st.own.keep (Ex.refl _) fun a _ w e => ex a w e, s.st.sub.trans ex, s.st.nd, s.st.sep⟩ (ow _ upd_same (s.val.keep (Ex.refl _) fun a _ w e => ex a w e)) (List.nodup_cons.mpr ⟨nT, s.nd⟩) ⟨fun a m => ?_, fun a m => ?_, fun a m => ?_⟩⟩
  · rcases List.mem_cons.mp m with rfl | m
    · exact .inr (tr.dm _ hp)
    · exact tr.sn a m
  · by_cases h : a = p
    · subst h; exact hp
    · rw [upd_ne h] at e; exact e
  · rcases List.mem_cons.mp m with rfl | m
    · exact nS
    · exact s.as.ns a m
  · rcases List.mem_cons.mp m with rfl | m
    · exact hF
    · exact s.as.nf a m
  · rcases List.mem_cons.mp m with rfl | m
    · exact ⟨u, upd_same⟩
    · obtain ⟨w, e⟩ := s.as.lv a m
      exact ⟨w, ex a w e⟩
theorem snd_lst {es : List Expr} {f : Env → R (List O)} {pos : Pos} (h : SndA n X es f) (pl : Plain X es) : SndE n X (.List es pos) (eLst f) := by
  refine .mk fun W tk env σ F H S Q st q => ?_
  refine wE_lst (wA_L pl (h.run W tk env σ F H S _ st ?_))
  unfold eLst at q
  revert q
  cases f env with
  | exc c ds e => exact fun q => q
  | bad => exact fun q => q
  | ok os e =>
    intro q vs F1 H1 S1 T tr s
    revert q
    show PostE X W σ F H S Q (if os.length ≤ 1000000 then .ok (.lst os) e else .bad) → _
    by_cases hl : os.length ≤ 1000000
    · rw [if_pos hl]
      intro q
      refine ⟨Nat.le_trans (by rw [s.val.length]; exact hl) (by decide : 1000000 ≤ sizeLine), fun p hp => ?_⟩
      obtain ⟨t2, s2⟩ := new_cell (u := .lst vs) tr s hp fun H2 e ow => .lst e ow
      exact q _ _ _ _ _ t2 s2
    · rw [if_neg hl]
      exact fun q => q.elim
end

/-! ### targets -/
def wG (X : Cx) (tg : Expr) : TG := fun v σ H Q => ∀ pins s u, Inv X pins σ H s → RelV v u → wpAny (model X.prog X.w) X.A (assign tg X.env u) (fun _ s' => ∃ σ' H', Inv X pins σ' H' s' ∧ Q σ' H') X.xe s
theorem wG_of {X : Cx} {tg : Expr} {t : TG} (h : PG X tg t) {v : V} {σ : L2.St} {H : Hp} {Q : L2.St → Hp → Prop} (q : t v σ H Q) : wG X tg v σ H Q := fun pins s u I r => h.run pins s σ H v u Q I r q
def PostG (X : Cx) (pr : Nat → Bool) (σ : L2.St) (F H : Hp) (S : List Addr) (Q : L2.St → Hp → Prop) : Option Env → Prop
  | some env' => ∀ σ' F' H' S', Trans F H S F' H' S' → Stt X.K F' H' σ' env' S' → Agree pr σ σ' → Q σ' H'
  | none => False
theorem PostG.over {X : Cx} {pr : Nat → Bool} {σ σ1 : L2.St} {F H F1 H1 : Hp} {S S1 : List Addr} {Q : L2.St → Hp → Prop} {r : Option Env} (p : PostG X pr σ F H S Q r) (t : Trans F H S F1 H1 S1) (g : Agree pr σ σ1) : PostG X pr σ1 F1 H1 S1 Q r := by
  cases r with
  | some e => exact fun σ' F' H' S' t' s a => p σ' F' H' S' (t.trans t') s (g.trans a)
  | none => exact p
/-- a target stores by h -/
structure SndG (X : Cx) (pr : Nat → Bool) (tg : Expr) (h : O → Env → Option Env) : Prop where
  run : ∀ v o T env σ F H S Q, Sta X.K F H σ env S [v] [o] T → PostG X pr σ F H (T ++ S) Q (h o env) → wG X tg v σ H Q
def gN (i : Nat) : O → Env → Option Env := fun o env => if i < env.length then some (env.set i (some o)) else none
def gsNil : List O → Env → Option Env
  | [], env => some env
  | _ :: _, _ => none
def gsCons (h : O → Env → Option Env) (r : List O → Env → Option Env) : List O → Env → Option Env
  | o :: os, env => (h o env).bind (r os)
  | [], _ => none
/-- a pattern of n places -/
def gT (n : Nat) (hs : List O → Env → Option Env) : O → Env → Option Env
  | .tup os, env => if os.length = n then hs os env else none
  | .fz (.tup ds), env => if ds.length = n then hs (ds.map .fz) env else none
  | _, _ => none
section
variable {n : Nat} {X : Cx} {pr : Nat → Bool}
theorem stt_store {K : PySem.W.Frag} {F H : Hp} {σ : L2.St} {env : Env} {S T : List Addr} {v : V} {o : O} {i : Nat} (s : Sta K F H σ env S [v] [o] T) (hi : i < env.length) :
    ∃ S', Trans F H (T ++ S) F H S' ∧ Stt K F H (σ.set i (some v)) (env.set i (some o)) S' := by
  obtain ⟨S', S0, h1, h2, h3⟩ := s.st.own.store hi s.one
  have nd : (T ++ S0).Nodup := (List.nodup_append.mpr ⟨s.nd, s.st.nd, fun a m b n z => s.as.ns a m (z ▸ n)⟩).sublist (List.Sublist.append (List.Sublist.refl T) h3)
  have mem : ∀ a ∈ S', a ∈ T ++ S := fun a m => by
    rcases List.mem_append.mp (h2.mem_iff.mp m) with n | n
    · exact List.mem_append_left _ n
    · exact List.mem_append_right _ (h3.subset n)
  exact ⟨S', Trans.refl.sub mem, h1, s.st.sub, h2.nodup_iff.mpr nd, fun a m => (List.mem_append.mp (mem a m)).elim (s.as.nf a) (s.st.sep a)⟩
theorem snd_gn {i : Nat} {x : Str} {pos : Pos} (hN : X.N.Nodup) (hi : X.N[i]? = some x) (hx : Loc X.env.scope x) (hp : pr i = false) (hf : X.fn x = true ∨ X.env.scope.names.lookup x = some .local := by first | exact .inl rfl | exact .inr rfl | assumption) : SndG X pr (.Name x pos) (gN i) := by
  refine .mk fun v o T env σ F H S Q s q => ?_
  refine wG_of (pg_name hN hi hx hf) ?_
  unfold gN at q
  split at q
  · rename_i hl
    obtain ⟨S', t, st⟩ := stt_store s hl
    exact q _ _ _ _ t st (Agree.set hp)
  · exact q.elim
/-! ### target = value -/
theorem wS_asg {tg e : Expr} {pos : Pos} {σ : L2.St} {H : Hp} {D : Ends} (hs : swapsWithSole [tg] e pos.line X.env = pure false) (hw : swappedStores [tg] e X.env = pure none) (h1 : (assignEach [tg] X.env).map (·.2) = [assign tg X.env])
    (h : wE n X e σ H fun x H1 => wG X tg x σ H1 D.nx) : wS n X (.Assign [tg] e pos) D σ H := by
  intro pins s hn I
  refine wpAny_Assign_stores (thn (wE_run h pins s hn I) fun v s1 z => ?_) hs hw
  obtain ⟨x, H1, I1, r1, q1⟩ := z
  rw [h1]
  exact q1 pins s1 v I1 r1
def sAsg (f : Env → R O) (h : O → Env → Option Env) : Env → R Fl := fun env => match f env with
  | .ok o e => (match h o e with
    | some e' => .ok .nx e'
    | none => .bad)
  | .exc c ds e => .exc c ds e
  | .bad => .bad
theorem snd_asg {tg e : Expr} {f : Env → R O} {h : O → Env → Option Env} {pos : Pos} (he : SndE n X e f) (hg : SndG X pr tg h) (hs : swapsWithSole [tg] e pos.line X.env = pure false := by rfl) (hw : swappedStores [tg] e X.env = pure none := by rfl)
    (h1 : (assignEach [tg] X.env).map (·.2) = [assign tg X.env] := by rfl) : SndS n X pr (.Assign [tg] e pos) (sAsg f h) := by
  refine .mk fun W tk env σ F H S D st q => ?_
  refine wS_asg hs hw h1 (he.run W tk env σ F H S _ st ?_)
  unfold sAsg at q
  revert q
  cases f env with
  | exc c ds e => exact fun q => ExcPostS.e q
  | bad => exact fun q => q
  | ok o e1 =>
    intro q v F1 H1 S1 T tr s
    refine hg.run v o T e1 σ F1 H1 S1 _ s ?_
    revert q
    show PostS X W pr σ F H S D (match h o e1 with
      | some e' => .ok .nx e'
      | none => .bad) → _
    cases h o e1 with
    | none => exact fun q => q
    | some e' => exact fun q σ' F' H' S' t s a => q σ' F' H' S' (tr.trans t) s a
end
end PyD
end

section
set_option Elab.async false
set_option linter.all false
set_option maxRecDepth 100000
namespace PyD
variable [Om]
open PySem L2 PySem.Spec PyProof.Rows

/-! ### what a for walks -/
/-- a walk that gives the items os, whatever is frozen besides F0 -/
def ItOk (K : PySem.W.Frag) (J : It) (F0 : Hp) (os : List O) : Prop :=
  ∀ F H, Ex F0 F → Ex F H → ∀ i, (∀ o, os[i]? = some o → J.go i H ∧ ∀ x H', J.yld i H x H' → ∃ F' T, Trans F H [] F' H' T ∧ Own K F' H' x o T ∧ Ex F' H' ∧ T.Nodup ∧ ∀ a ∈ T, F' a = none) ∧ (os.length ≤ i → J.stop i H)
@[irreducible] def wI (n : Nat) (X : Cx) (tg iter : Expr) : TI := fun σ H R => ∀ pins s, n ≤ s.toks → Inv X pins σ H s → wpAny (model X.prog X.w) X.A (eval iter X.env) (fun v s1 => wpAny (model X.prog X.w) X.A (pyIter v) (PIE X pins σ tg R) X.xe s1) X.xe s
theorem wI_run {n : Nat} {X : Cx} {tg iter : Expr} {σ : L2.St} {H : Hp} {R : It → Hp → Prop} (h : wI n X tg iter σ H R) : ∀ pins s, n ≤ s.toks → Inv X pins σ H s → wpAny (model X.prog X.w) X.A (eval iter X.env) (fun v s1 => wpAny (model X.prog X.w) X.A (pyIter v) (PIE X pins σ tg R) X.xe s1) X.xe s := by
  unfold wI at h; exact h
theorem wI_mk {n : Nat} {X : Cx} {tg iter : Expr} {σ : L2.St} {H : Hp} {R : It → Hp → Prop} (h : ∀ pins s, n ≤ s.toks → Inv X pins σ H s → wpAny (model X.prog X.w) X.A (eval iter X.env) (fun v s1 => wpAny (model X.prog X.w) X.A (pyIter v) (PIE X pins σ tg R) X.xe s1) X.xe s) : wI n X tg iter σ H R := by
  unfold wI; exact h
theorem pi_w {X : Cx} {tg iter : Expr} : PI X tg iter (wI 0 X tg iter) := ⟨fun pins s σ H R I h => wI_run h pins s (Nat.zero_le _) I⟩
def PostI (X : Cx) (W : WX) (σ : L2.St) (F H : Hp) (S : List Addr) (Q : It → Hp → Prop) : R (List O) → Prop
  | .ok os env' => ∀ J F' H' S', Trans F H S F' H' S' → Stt X.K F' H' σ env' S' → ItOk X.K J F' os → Q J H'
  | .exc c ds env' => ExcPost X.K W c ds env' σ F H S
  | .bad => False
structure SndI (n : Nat) (X : Cx) (tg iter : Expr) (f : Env → R (List O)) : Prop where
  run : ∀ W, L2N.Takes X W → ∀ env σ F H S Q, Stt X.K F H σ env S → PostI X W σ F H S Q (f env) → wI n X tg iter σ H Q
/-- the items of a value that is walked -/
def itemsOf : D → Option (List O)
  | .lst ds => some (ds.map .fz)
  | .tup ds => some (ds.map .fz)
  | .str l => some (l.map fun c => .fz (.str [c]))
  | _ => none
def iVal (f : Env → R O) : Env → R (List O) := fun env => match f env with
  | .ok o e => (match itemsOf o.erase with
    | some os => .ok os e
    | none => .bad)
  | .exc c ds e => .exc c ds e
  | .bad => .bad
section
variable {n : Nat} {X : Cx} {tg : Expr}
theorem Aside.nil {F H : Hp} {S : List Addr} : Aside F H S [] := ⟨fun _ m => (nomatch m), fun _ m => (nomatch m), fun _ m => (nomatch m)⟩
/-- a walk whose items stand already -/
theorem itOk_old {K : PySem.W.Frag} {J : It} {F0 : Hp} {ds : List D} (h : ∀ F H, Ex F0 F → Ex F H → ∀ i, (∀ d, ds[i]? = some d → J.go i H ∧ ∀ x H', J.yld i H x H' → H' = H ∧ Rep K F x d) ∧ (ds.length ≤ i → J.stop i H)) : ItOk K J F0 (ds.map .fz) := by
  intro F H e1 e2 i
  refine ⟨fun o ho => ?_, fun hl => (h F H e1 e2 i).2 (by simpa using hl)⟩
  rw [List.getElem?_map, Option.map_eq_some_iff] at ho
  obtain ⟨d, hd, rfl⟩ := ho
  obtain ⟨g, y⟩ := (h F H e1 e2 i).1 d hd
  refine ⟨g, fun x H' hy => ?_⟩
  obtain ⟨rfl, r⟩ := y x H' hy
  exact ⟨F, [], Trans.refl, .fz r, e2, List.nodup_nil, fun _ m => nomatch m⟩
theorem itOk_rng {K : PySem.W.Frag} {F0 : Hp} {lo : Int} {n : Nat} : ItOk K (Itr lo n) F0 ((List.range n).map fun k => .fz (.int (lo + (k : Nat)))) := by
  have e : ((List.range n).map fun k => O.fz (.int (lo + (k : Nat)))) = ((List.range n).map fun k => D.int (lo + (k : Nat))).map .fz := by simp
  rw [e]
  refine itOk_old fun F H e1 e2 i => ⟨fun d hd => ?_, fun hl => show n ≤ i by simpa using hl⟩
  rw [List.getElem?_map, Option.map_eq_some_iff] at hd
  obtain ⟨k, hk, rfl⟩ := hd
  have hi : i < n := by
    have := (List.getElem?_eq_some_iff.mp hk).1
    simpa using this
  have ek : k = i := by
    rw [List.getElem?_range hi] at hk
    exact (Option.some.inj hk).symm
  subst ek
  refine ⟨hi, fun x H' y => ⟨y.1, ?_⟩⟩
  rw [y.2]
  exact .int _
/-- range(a), range(a, b) -/
def small62 (i : Int) : Bool := decide (i.natAbs ≤ 4611686018427387903)
def rng (lo : Int) (n : Nat) : List O := (List.range n).map fun k => .fz (.int (lo + (k : Nat)))
def rng1 : List D → Option (List O)
  | [.int j] => if small62 j = true then some (rng 0 j.toNat) else none
  | _ => none
/-- .. the items by a rule g -/
def iRd (g : List D → Option (List O)) (f : Env → R (List Opd)) : Env → R (List O) := fun env => match f env with
  | .ok ops e => (match (resA e ops).bind g with
    | some os => .ok os e
    | none => .bad)
  | .exc c ds e => .exc c ds e
  | .bad => .bad
theorem small62_ok {i : Int} (h : small62 i = true) : -(2 ^ 62) ≤ i ∧ i < 2 ^ 62 := by
  unfold small62 at h
  have := of_decide_eq_true h
  omega
theorem small62_of {i : Int} (h1 : -(2 ^ 60) ≤ i) (h2 : i < 2 ^ 60) : small62 i = true := by
  unfold small62
  exact decide_eq_true (by omega)
theorem wI_rng1 {a : Expr} {p pos : Pos} {σ : L2.St} {H : Hp} {R : It → Hp → Prop} (hg : Gl X "range") (hm : X.mg "range" = none) (hs : starEach [a] X.env = [(false, eval a X.env)])
    (h : wA n X [a] σ H fun vs H1 => ∃ j, vs = [.int j] ∧ -(2 ^ 62) ≤ j ∧ j < 2 ^ 62 ∧ R (Itr 0 j.toNat) H1) : wI n X tg (.Call (.Name "range" p) [a] [] pos) σ H R := wI_mk fun pins s hn I => by
  refine Call_ (ld_blt I hg hm boot_range (PyProof.Rows.callWith_type1 (thn (h pos pins s hn I) fun us s1 z => ?_) hs rfl))
  obtain ⟨vs, H1, I1, r1, j, e, q1, q2, q⟩ := z
  subst e
  cases r1 with
  | cons r rr =>
    cases rr
    obtain ⟨t, rfl⟩ := r
    exact call_range_1 (range_it I1 (by omega) (by omega) q1 q2 (by rw [Int.sub_zero]; exact q))
theorem snd_irng1 {a : Expr} {f : Env → R (List Opd)} {p pos : Pos} (hg : Gl X "range") (hm : X.mg "range" = none) (h : SndL n X [a] f) (hs : Plain X [a]) : SndI n X tg (.Call (.Name "range" p) [a] [] pos) (iRd rng1 f) := by
  refine .mk fun W tk env σ F H S Q st q => ?_
  refine wI_rng1 hg hm hs.1 ?_
  refine wA_L hs (h.run W tk env σ F H S _ st ?_)
  unfold iRd at q
  revert q
  cases f env with
  | exc c ds e => exact fun q => q
  | bad => exact fun q => q
  | ok ops e =>
    intro q vs F1 H1 S1 T tr s
    revert q
    show PostI X W σ F H S Q (match (resA e ops).bind rng1 with
      | some os => .ok os e
      | none => .bad) → _
    cases e2 : resA e ops with
    | none => exact fun q => q.elim
    | some ds =>
      have rp := resA_ok s.st s.val e2
      show PostI X W σ F H S Q (match rng1 ds with
        | some os => .ok os e
        | none => .bad) → _
      cases e3 : rng1 ds with
      | none => exact fun q => q.elim
      | some os =>
      unfold rng1 at e3
      split at e3
      · rename_i ds j
        split at e3
        · rename_i hs
          cases e3
          intro q
          obtain ⟨v, rfl, r⟩ := rp.one
          cases r.int_inv
          obtain ⟨h1, h2⟩ := small62_ok hs
          exact ⟨j, rfl, h1, h2, q _ F1 H1 S1 (tr.sub fun x m => List.mem_append_right _ m) s.st itOk_rng⟩
        · cases e3
      · cases e3
end
/-! ### for -/
def sLoop (h : O → Env → Option Env) (b : Env → R Fl) : List O → Env → R Fl
  | [] => fun env => .ok .nx env
  | o :: os => fun env => match h o env with
    | none => .bad
    | some e => match b e with
      | .ok .nx e' => sLoop h b os e'
      | .ok .ct e' => sLoop h b os e'
      | .ok .bk e' => .ok .nx e'
      | r => r
def sFor (f : Env → R (List O)) (h : O → Env → Option Env) (b : Env → R Fl) : Env → R Fl := fun env => match f env with
  | .ok os e => sLoop h b os e
  | .exc c ds e => .exc c ds e
  | .bad => .bad
section
variable {n : Nat} {X : Cx} {pr : Nat → Bool}
/-- what a loop of wS_for must bring -/
def ForW (n : Nat) (X : Cx) (tg : Expr) (body : List Stmt) (D : Ends) (J : It) (σ : L2.St) (H : Hp) : Prop := ∃ W : Nat → Nat → L2.St → Hp → Prop, (∃ m, W 0 m σ H) ∧ ∀ i m σ H, W i m σ H →
  (J.stop i H ∧ D.nx σ H) ∨ (J.go i H ∧ ∃ N : L2.St → Hp → Prop, (∀ σ' H', N σ' H' → ∃ m', m' < m ∧ W (i + 1) m' σ' H') ∧ ∀ x H', J.yld i H x H' → wG X tg x σ H' fun σ2 H2 => wSs n X body { D with nx := N, ct := N, bk := D.nx } σ2 H2)
theorem wS_for {tg iter : Expr} {body : List Stmt} {pos : Pos} {σ : L2.St} {H : Hp} {D : Ends} (hp : PassesOwn (model X.prog X.w) X.A X.env X.xe) (hc : X.calm = true) (hs : ∀ x, foldedSetIterable iter X.env x = pure x)
    (h : wI n X tg iter σ H fun J H1 => ForW n X tg body D J σ H1) : wS n X (.For tg iter body [] pos) D σ H := by
  intro pins s hn I
  refine wpAny_For (thn' hn (wI_run h pins s hn I) fun v s1 n1 h1 => thn' n1 h1 fun itv s2 n2 h2 => ?_) hs
  obtain ⟨it, fp, tn, J, H2, e, I2, T, st2, f2, W, ⟨m0, w0⟩, turn⟩ := h2
  subst e
  have still : ∀ {G : Hp}, (∀ b ∈ fp, G b = none) → ∀ b ∈ fp, FpOk X pins G b := fun z b hb => ⟨z b hb, (f2 b hb).2⟩
  refine codeAny_forLoop_any (fun m t => ∃ i τ G, n ≤ t.toks ∧ Inv X pins τ G t ∧ tn i t.heap ∧ (∀ b ∈ fp, G b = none) ∧ W i m τ G) ?_ m0 ⟨0, σ, H2, n2, I2, st2, fun b hb => (f2 b hb).1, w0⟩
  rintro m s3 ⟨i, σ3, H3, n3, I3, st3, fr3, w3⟩
  rcases turn i m σ3 H3 w3 with ⟨stop, qn⟩ | ⟨go, N, hN, step⟩
  · refine wpAny_passesOwn hp (thn (T.done X rfl rfl rfl hc i pins s3 σ3 H3 X.xe I3 (still fr3) st3 stop) fun r s4 z => ?_)
    obtain ⟨hr, I4⟩ := z
    subst hr
    exact wpAny_execs_nil ⟨σ3, H3, I4, qn⟩
  · refine wpAny_passesOwn hp (thn' n3 (T.item X rfl rfl rfl hc i pins s3 σ3 H3 X.xe I3 (still fr3) st3 go) fun r s4 n4 z => ?_)
    obtain ⟨u, hr, h4⟩ := z
    subst hr
    refine wpAny_passesOwn hp (thn' n4 h4 fun _ s5 n5 z => ?_)
    obtain ⟨x, H5, I5, r5, y5, st5, fr5⟩ := z
    have I6 := I5.pinned (still fr5) (T.obj _ _ st5)
    refine wpAny_passesOwn hp (thn' n5 (step x H5 y5 _ s5 u I6 r5) fun _ s6 n6 z => ?_)
    obtain ⟨σ6, H6, I7, q6⟩ := z
    refine wpAny_passesOwn hp (thn' n6 (q6 _ s6 n6 I7) fun f s7 n7 q7 => ?_)
    have more : ∀ {σ7 : L2.St} {H7 : Hp}, Inv X (pins ++ pinsAt fp s5.heap) σ7 H7 s7 → N σ7 H7 → ∃ k, k < m ∧ ∃ i τ G, n ≤ s7.toks ∧ Inv X pins τ G s7 ∧ tn i s7.heap ∧ (∀ b ∈ fp, G b = none) ∧ W i k τ G := by
      intro σ7 H7 I8 k7
      obtain ⟨k, hk, w7⟩ := hN σ7 H7 k7
      have pin : ∀ b ∈ fp, ∀ o, s5.heap.get? b = some o → s7.heap.get? b = some o ∧ H7 b = none := fun b hb o e =>
        let q := I8.pin (b, o) (List.mem_append_right _ (List.mem_append_right _ (mem_pinsAt hb e)))
        ⟨q.1, q.2.1⟩
      refine ⟨k, hk, i + 1, σ7, H7, n7, I8.unpinned, T.keep _ _ _ st5 fun b hb o e => (pin b hb o e).1, fun b hb => ?_, w7⟩
      obtain ⟨o, e, _⟩ := T.obj _ _ st5 b hb
      exact (pin b hb o e).2
    cases f with
    | next =>
      obtain ⟨σ7, H7, I8, k7⟩ := q7
      exact more I8 k7
    | cont =>
      obtain ⟨σ7, H7, I8, k7⟩ := q7
      exact more I8 k7
    | brk =>
      obtain ⟨σ7, H7, I8, q7⟩ := q7
      exact ⟨σ7, H7, I8.unpinned, q7⟩
    | ret v =>
      obtain ⟨x7, σ7, H7, I8, r7, q7⟩ := q7
      exact ⟨x7, σ7, H7, I8.unpinned, r7, q7⟩
theorem snd_for {tg iter : Expr} {body : List Stmt} {f : Env → R (List O)} {h : O → Env → Option Env} {b : Env → R Fl} {pos : Pos} (hp : PassesOwn (model X.prog X.w) X.A X.env X.xe) (hc : X.calm = true) (hi : SndI n X tg iter f) (hg : SndG X pr tg h) (hb : SndSs n X pr body b)
    (hs : ∀ x, foldedSetIterable iter X.env x = pure x := by intro _; rfl) : SndS n X pr (.For tg iter body [] pos) (sFor f h b) := by
  refine .mk fun W tk env σ F H S D st q => ?_
  refine wS_for hp hc hs (hi.run W tk env σ F H S _ st ?_)
  unfold sFor at q
  revert q
  cases f env with
  | exc c ds e => exact fun q => ExcPostS.e q
  | bad => exact fun q => q
  | ok os e =>
    intro q J F1 H1 S1 tr s1 it
    refine ⟨fun i m σ' H' => m = os.length - i ∧ i ≤ os.length ∧ ∃ e' F' S', Ex F1 F' ∧ Stt X.K F' H' σ' e' S' ∧ PostS X W pr σ' F' H' S' D (sLoop h b (os.drop i) e'), ⟨os.length, by simp, Nat.zero_le _, e, F1, S1, Ex.refl _, s1, by simpa using PostS.over q tr Agree.refl⟩, ?_⟩
    rintro i m σ' H' ⟨rfl, hi, e', F', S', ex, s', p⟩
    obtain ⟨go, stop⟩ := it F' H' ex s'.sub i
    by_cases hl : i < os.length
    · obtain ⟨g, y⟩ := go os[i] (by simp [hl])
      refine .inr ⟨g, fun σ2 H2 => ∃ e2 F2 S2, Ex F1 F2 ∧ Stt X.K F2 H2 σ2 e2 S2 ∧ PostS X W pr σ2 F2 H2 S2 D (sLoop h b (os.drop (i + 1)) e2), fun σ2 H2 ⟨e2, F2, S2, x2, s2, p2⟩ => ⟨os.length - (i + 1), by omega, rfl, hl, e2, F2, S2, x2, s2, p2⟩, fun x H2 hy => ?_⟩
      obtain ⟨F2, T, t2, ow, sb, nd, sep⟩ := y x H2 hy
      obtain ⟨t3, s3, a3⟩ := s'.grow t2 sb nd sep fun a m => ow.live a m
      have hdrop : os.drop i = os[i] :: os.drop (i + 1) := by rw [List.drop_eq_getElem_cons hl]
      rw [hdrop] at p
      refine hg.run x os[i] T e' σ' F2 H2 S' _ (sta_one s3 ow nd a3) ?_
      revert p
      show PostS X W pr σ' F' H' S' D (match h os[i] e' with
        | none => .bad
        | some e => match b e with
          | .ok .nx e' => sLoop h b (os.drop (i + 1)) e'
          | .ok .ct e' => sLoop h b (os.drop (i + 1)) e'
          | .ok .bk e' => .ok .nx e'
          | r => r) → _
      cases h os[i] e' with
      | none => exact fun p => p
      | some e3 =>
        intro p σ4 F4 H4 S4 t4 s4 a4
        have t14 : Trans F' H' S' F4 H4 S4 := t3.trans t4
        refine hb.run W tk e3 σ4 F4 H4 S4 _ s4 ?_
        revert p
        show PostS X W pr σ' F' H' S' D (match b e3 with
          | .ok .nx e' => sLoop h b (os.drop (i + 1)) e'
          | .ok .ct e' => sLoop h b (os.drop (i + 1)) e'
          | .ok .bk e' => .ok .nx e'
          | r => r) → _
        cases b e3 with
        | bad => exact fun p => p
        | exc c ds e5 => exact fun p => PostS.over (D := D) (r := .exc c ds e5) p t14 a4
        | ok fl e5 =>
          cases fl with
          | rt o => exact fun p => PostS.over (D := D) (r := .ok (.rt o) e5) p t14 a4
          | bk => exact fun p => PostS.over (D := D) (r := .ok .nx e5) p t14 a4
          | nx => exact fun p σ5 F5 H5 S5 t5 s5 a5 => ⟨e5, F5, S5, ex.trans (t14.trans t5).ff, s5, PostS.over p (t14.trans t5) (a4.trans a5)⟩
          | ct => exact fun p σ5 F5 H5 S5 t5 s5 a5 => ⟨e5, F5, S5, ex.trans (t14.trans t5).ff, s5, PostS.over p (t14.trans t5) (a4.trans a5)⟩
    · have e0 : i = os.length := by omega
      subst e0
      refine .inl ⟨stop (Nat.le_refl _), ?_⟩
      rw [List.drop_length] at p
      exact p σ' F' H' S' Trans.refl s' Agree.refl
/-! ### while -/
end
end PyD
end

section
set_option Elab.async false
set_option linter.all false
set_option maxRecDepth 100000
namespace PyD
variable [Om]
open PySem L2 PySem.Spec PyProof.Rows

/-! ### defs -/
inductive FR where
  | ret (o : O) (outs : List O)
  | exc (c : Str) (ds : List D) (outs : List O)
  | bad
def PostF (K : PySem.W.Frag) (vs : List V) (F H : Hp) (T : List Addr) (Q : VK) (E : XK) : FR → Prop
  | .ret o outs => ∀ v F' H' T1 T2, Trans F H T F' H' (T1 ++ T2) → Owns K F' H' vs outs T2 → Own K F' H' v o T1 → Ex F' H' → (T1 ++ T2).Nodup → (∀ a ∈ T1 ++ T2, F' a = none) → Q v H'
  | .exc c ds outs => ∀ cls d F' H' T2, Trans F H T F' H' T2 → Owns K F' H' vs outs T2 → Ex F' H' → T2.Nodup → (∀ a ∈ T2, F' a = none) → ExcV K F' H' c ds cls d → (∀ x, d = some x → H x = none) → E cls d H'
  | .bad => False
/-- the promise of a def that computes φ -/
def spF (K : PySem.W.Frag) (φ : List O → FR) (n : Nat) : Sp := fun vs H Q E => vs.length = n ∧ ∃ F os T, Ex F H ∧ Owns K F H vs os T ∧ T.Nodup ∧ (∀ a ∈ T, F a = none) ∧ PostF K vs F H T Q E (φ os)
/-! ### defs: the promise of a def, where no repr is under way around the call -/
structure RoomG (k : Nat) (A : Around) : Prop where
  r : Room k A
  gd : A.guards = some []
theorem RoomG.mono {j k : Nat} {A : Around} (h : RoomG k A) (le : j ≤ k) : RoomG j A := ⟨h.r.mono le, h.gd⟩
theorem RoomG.deeper {k : Nat} {A : Around} (h : RoomG (k + 1) A) (env : PySem.Env) : RoomG k (A.deeper env) := ⟨h.r.deeper env, h.gd⟩
structure FnG (P : Program) (w : World) (K : PySem.W.Frag) (mg : Str → Option Value) (base : Heap) (CX : CXT) (k : Nat) (f : Addr) (fd : FuncData) (ps : List Str) (sp : Sp) : Prop where
  len : ∀ {vs H Q E}, sp vs H Q E → vs.length = ps.length
  run : ∀ {A : Around} {outer : List PySem.Env} {s : Shared} {H : Hp} {args : Args} {us : List Value} {vs : List V} {Q : VK} {E : XK}, RoomG k A → Env0 P w K mg base A outer s H → BindsTo s fd args (ps.zip us) → Vals vs us → sp vs H Q E → codeAny (model P w) A (.call (.ref f) args) (CR CX outer P w H s Q E) s
theorem FnG.mono {P : Program} {w : World} {K : PySem.W.Frag} {mg : Str → Option Value} {base : Heap} {CX : CXT} {j k : Nat} {f : Addr} {fd : FuncData} {ps : List Str} {sp : Sp} (F : FnG P w K mg base CX j f fd ps sp) (h : j ≤ k) : FnG P w K mg base CX k f fd ps sp :=
  ⟨fun z => F.len z, fun r e b v z => F.run (r.mono h) e b v z⟩
/-! ### the entry of a def: a parameter that is no cell costs a token -/
section
variable {M : Model} {A : Around} {E : Value → Shared → Prop} {s₀ : Shared} {env : PySem.Env}
theorem storeL {x : Str} {v : Value} {s : Shared} {m cm : Str → Option Value} {Q : Unit → Shared → Prop} (born : InCallC s₀ env.locals m env.cells cm s) (isF : env.scope.kind = .function) (lo : env.kindOf x = some .local)
    (q : ∀ s', 1 ≤ s'.toks → InCallC s₀ env.locals (fun y => if y = x then some v else m y) env.cells cm s' → Q () s') : wpAny M A (storeName env x v) Q E s := by
  refine wpAny_storeName_local lo born.toInCall.ns (fun g hns same => q _ (by show 1 ≤ s.toks + 1; omega) ?_) (by rw [isF]; rfl)
  have below : ∀ {b : Addr} {o : Obj}, s₀.heap.get? b = some o → b ≠ env.locals := fun e => Nat.ne_of_lt (Nat.lt_of_lt_of_le (Heap.lt_size e) born.toInCall.fresh)
  obtain ⟨h₁, tk, e₁⟩ := born.toInCall.same
  refine ⟨⟨⟨g, s.toks + 1, by rw [e₁]⟩, hns, fun b o e => ?_, born.toInCall.fresh⟩, fun y c e => ?_, born.apart, born.above⟩
  · exact same.extBut b o (below e) (born.toInCall.keep b o e)
  · exact (born.cell y c e).sameBut same (Nat.ne_of_gt (born.above y c (PySem.mem_of_lookup e)))
theorem bindT (f : Str × Value → PUnit → Sem (ForInStep PUnit)) (hf : ∀ x v u, f (x, v) u = (do storeName env x v; pure (.yield ⟨⟩))) (isF : env.scope.kind = .function) :
    ∀ (bs : List (Str × Value)) (m cm : Str → Option Value) (s : Shared) (Q : PUnit → Shared → Prop), InCallC s₀ env.locals m env.cells cm s →
      (∀ x ∈ bs, env.kindOf x.1 = some .local ∨ (env.kindOf x.1 = some .cell ∧ (env.cells.lookup x.1).isSome = true)) →
      (∀ s', ((∃ x ∈ bs, env.kindOf x.1 = some .local) ∨ 1 ≤ s.toks → 1 ≤ s'.toks) → InCallC s₀ env.locals (bindL env.kindOf bs m) env.cells (bindC env.kindOf bs cm) s' → Q ⟨⟩ s') → wpAny M A (forIn bs ⟨⟩ f) Q E s := by
  intro bs
  induction bs with
  | nil =>
    intro m cm s Q born _ q
    rw [List.forIn_nil]
    exact wpAny_pure (q s (fun z => z.elim (fun ⟨_, e, _⟩ => nomatch e) id) born)
  | cons p r ih =>
    obtain ⟨x, v⟩ := p
    intro m cm s Q born kinds q
    rw [List.forIn_cons, hf]
    have kr := fun y (hy : y ∈ r) => kinds y (List.mem_cons_of_mem _ hy)
    rcases kinds (x, v) List.mem_cons_self with lo | ⟨ce, so⟩
    · refine wpAny_bind (wpAny_bind (storeL born isF lo fun s1 t1 b1 => wpAny_pure (ih _ _ s1 Q b1 kr fun s2 t2 b2 => q s2 (fun _ => t2 (.inr t1)) ?_)))
      simpa [bindL, bindC, lo] using b2
    · obtain ⟨c, ec⟩ := Option.isSome_iff_exists.mp so
      have nl : ¬ env.kindOf x = some .local := by rw [ce]; simp
      refine wpAny_bind (wpAny_bind (thn' (n := s.toks) (Nat.le_refl _) (stCC (Q := fun _ s1 => InCallC s₀ env.locals m env.cells (fun y => if y = x then some v else cm y) s1) born isF ce ec fun s1 b1 => b1) fun _ s1 t1 b1 => ?_))
      have less : (∃ y ∈ (x, v) :: r, env.kindOf y.1 = some .local) → ∃ y ∈ r, env.kindOf y.1 = some .local := by
        rintro ⟨y, my, ly⟩
        rcases List.mem_cons.mp my with rfl | my
        · exact (nl ly).elim
        · exact ⟨y, my, ly⟩
      refine wpAny_pure (ih _ _ s1 Q b1 kr fun s2 t2 b2 => q s2 (fun z => t2 (z.imp less fun h => Nat.le_trans h t1)) ?_)
      simpa [bindL, bindC, nl] using b2
theorem newEnvT {s : Shared} {scope : Scope} {globals : Addr} {bs : List (Str × Value)} {qual : Str} {func : Option Addr} {code : Value} {builtins : Addr} {Q : PySem.Env → Shared → Prop} (isF : scope.kind = .function)
    (kinds : ∀ x ∈ bs, scope.names.lookup x.1 = some .local ∨ (scope.names.lookup x.1 = some .cell ∧ ((cellsFrom (s.heap.objs.size + 1) scope.names []).lookup x.1).isSome = true))
    (q : ∀ env, env = newEnv scope s.heap.objs.size globals (cellsFrom (s.heap.objs.size + 1) scope.names []) qual func code none builtins →
      ∀ s', ((∃ x ∈ bs, scope.names.lookup x.1 = some .local) → 1 ≤ s'.toks) → InCallC s env.locals (bindL env.kindOf bs fun _ => none) env.cells (bindC env.kindOf bs fun _ => none) s' → Q env s') :
    wpAny M A (newFunctionEnv scope globals [] bs qual func code none builtins) Q E s := by
  simp only [newFunctionEnv, Option.isSome_none, Bool.false_eq_true, if_false]
  refine wpAny_bind (wpAny_alloc (wpAny_bind ?_))
  refine wpAny_layCells _ (fun y k cs => by cases e : k == NameKind.cell <;> simp [e]) _ _ _ _ ?_
  have good := cellsFrom_ok scope.names (s.heap.push { cls := .type "frame", data := .dict #[] }) (s.heap.objs.size + 1) [] ⟨fun _ _ z => (nomatch z), List.Pairwise.nil⟩ (by rw [Heap.size_push]; exact Nat.le_refl _)
  rw [Heap.size_push] at good
  rw [show ({ s with heap := s.heap.push { cls := .type "frame", data := .dict #[] } } : Shared).heap.objs.size = s.heap.objs.size + 1 from Heap.size_push ..]
  have born : InCallC s s.heap.objs.size (fun _ => none) (cellsFrom (s.heap.objs.size + 1) scope.names []) (fun _ => none) { s with heap := pushCells (s.heap.push { cls := .type "frame", data := .dict #[] }) scope.names } :=
    ⟨⟨⟨_, s.toks, rfl⟩, (Heap.Ns.new s.heap (.type "frame")).keeps (pushCells_keeps _ _), fun b o e => pushCells_keeps _ _ b o (Heap.get?_push_of_some _ e), Nat.le_refl _⟩, fun y c e => (good.empty y c (PySem.mem_of_lookup e)).1, good.apart, fun y c e => (good.empty y c e).2⟩
  refine wpAny_bind (bindT (s₀ := s) (env := newEnv scope s.heap.objs.size globals (cellsFrom (s.heap.objs.size + 1) scope.names []) qual func code none builtins) _ (fun _ _ _ => rfl) isF bs (fun _ => none) (fun _ => none) _ _ born kinds fun s1 t1 b1 => wpAny_pure (q _ rfl s1 (fun z => t1 (.inl z)) b1))
end
/-- m tokens are out when the body begins -/
def tokB (m : Nat) (scope : Scope) (ps : List Str) : Bool := match m with
  | 0 => true
  | 1 => ps.any fun p => decide (scope.names.lookup p = some .local)
  | _ => false
theorem tokB_ok {m : Nat} {scope : Scope} {ps : List Str} {us : List Value} {s : Shared} (h : tokB m scope ps = true) (hl : us.length = ps.length) (t : (∃ x ∈ ps.zip us, scope.names.lookup x.1 = some .local) → 1 ≤ s.toks) : m ≤ s.toks := by
  unfold tokB at h
  split at h
  · exact Nat.zero_le _
  · obtain ⟨p, mp, lp⟩ := List.any_eq_true.mp h
    obtain ⟨i, hi, rfl⟩ := List.getElem_of_mem mp
    refine t ⟨(ps[i], us[i]), ?_, of_decide_eq_true lp⟩
    exact List.mem_of_getElem? (i := i) (by simp [List.getElem?_zip_eq_some, hi, hl])
  · cases h
/-- the promise from the body -/
theorem fnG_of {CX : CXT} {P : Program} {w : World} {K : PySem.W.Frag} {mg : Str → Option Value} {base : Heap} {x qual : Str} {params : Arguments} {body : List Stmt} {scope : Scope} {dvs : List V} {kws : List (Str × V)} {f : Addr} {fd : FuncData} {N ps : List Str} {k m : Nat} {sp : Sp}
    (F : FunD K x qual params body scope dvs kws f fd) (S : FnScope N ps scope) (tb : tokB m scope ps = true) (len : ∀ {vs H Q E}, sp vs H Q E → vs.length = ps.length)
    (hbody : ∀ (cdv : Value) (A : Around) (outer : List PySem.Env) (s : Shared) (H : Hp) (vs : List V) (Q : VK) (E : XK), RoomG k (A.deeper (envOfC qual scope s.heap.objs.size f cdv)) → sp vs H Q E →
      wSs m (cxOf CX P w K mg base N qual scope f cdv A outer s H E) body { nx := fun _ H' => Q .non H', rt := Q } (start N vs) H) : FnG P w K mg base CX (k + 1) f fd ps sp := by
  obtain ⟨oc, od, dV, kV, doc, pm, an, cdv, ct, osl, rfl, look, inK, _, _⟩ := F.ex
  constructor
  · exact fun z => len z
  intro A outer s H args us vs Q E room e0 binds vals z
  have KX : K.In s.heap := e0.mod.kin.keeps fun b o e => (e0.bs b o e).1
  have kinds : ∀ y ∈ ps.zip us, scope.names.lookup y.1 = some .local ∨ (scope.names.lookup y.1 = some .cell ∧ ((cellsFrom (s.heap.objs.size + 1) scope.names []).lookup y.1).isSome = true) := by
    rintro ⟨n, v⟩ m
    exact (S.par n (List.of_mem_zip m).1).imp id fun q => ⟨q, PySem.W.cellsFrom_some _ _ _ (.inl q)⟩
  refine codeAny_call_function room.r.depth (KX _ _ look) rfl S.co S.gen rfl (PySem.W.codeRec_of KX inK) (binds _ _ _ _ ?_)
  refine newEnvT S.kind kinds ?_
  rintro env rfl s1 t1 born
  refine ⟨(e0.mod.nolimit.keeps fun b o e => (e0.bs b o e).1).keeps born.toInCall.keep, codeAny_func ?_⟩
  have walks := hbody cdv A outer s H vs Q E (room.deeper _) z
  have I0 : Inv (cxOf CX P w K mg base N qual scope f cdv A outer s H E) [] (start N vs) H s1 := inv_start S room.r.hd e0 (len z) vals born
  refine wpAny_mono (walks [] s1 (tokB_ok tb (by rw [← vals.length]; exact len z) t1) I0) ?_ fun _ _ bad => bad
  intro fl s' done
  cases fl with
  | ret u =>
    obtain ⟨v, _, H', J, same, q⟩ := done
    exact ⟨v, H', J.os, J.bare, J.base, J.hok, same, q⟩
  | next =>
    obtain ⟨_, H', J, q⟩ := done
    exact ⟨V.non, H', J.os, J.bare, J.base, J.hok, rfl, q⟩
  | brk => exact done.elim fun _ r => r.elim fun _ r => r.2.elim
  | cont => exact done.elim fun _ r => r.elim fun _ r => r.2.elim
section
variable {n : Nat} {X : Cx} {CX : CXT} {k : Nat} {f : Addr} {fd : FuncData} {ps : List Str} {sp : Sp} {E : L2.St → XK}
theorem run_fnG {pins : List (Addr × Obj)} {σ : L2.St} {H : Hp} {s : Shared} {Q : VK} {us : List Value} {vs : List V} (F : FnG X.prog X.w X.K X.mg X.base CX k f fd ps sp) (room : RoomG k X.A) (bind : Binds X.K fd ps []) (pass : PassesAt CX X σ (E σ)) (I : Inv X pins σ H s) (r : Vals vs us) (h : sp vs H Q (E σ)) :
    wpAny (model X.prog X.w) X.A (call (.ref f) us) (EP X pins σ Q) X.xe s := by
  have few : (us ++ []).length = ps.length := by
    rw [List.append_nil, ← r.length]
    exact F.len h
  have b := bind s us I.kIn few
  rw [List.append_nil] at b
  refine wpAny_call (codeAny_mono (F.run (args := ⟨us, []⟩) room I.env0 b r h) ?_)
  intro res s' got
  match res, got with
  | .error e, got => exact pass pins H s e s' I got
  | .ok (.ret u), got => exact I.after got
  | .ok .next, got => exact got.elim
  | .ok .brk, got => exact got.elim
  | .ok .cont, got => exact got.elim
theorem wE_callG {n : Nat} {x : Str} {p pos : Pos} {e : Expr} {es : List Expr} (F : FnG X.prog X.w X.K X.mg X.base CX k f fd ps sp) (room : RoomG k X.A) (hg : Gl X x) (hm : X.mg x = some (.ref f)) (hk : PySem.W.keepIn X.K (.ref f) = true) (bind : Binds X.K fd ps []) (pass : ∀ σ, PassesAt CX X σ (E σ))
    (nodebug : (x == ("__debug__" : Str)) = false) (stars : starEach (e :: es) X.env = (false, eval e X.env) :: starEach es X.env) (nostar : (backTo pos (starEach es X.env)).any (·.1) = false) {σ : L2.St} {H : Hp} {Q : VK}
    (h : wA n X (e :: es) σ H fun vs H1 => sp vs H1 Q (E σ)) : wE n X (.Call (.Name x p) (e :: es) [] pos) σ H Q := wE_mk fun pins s hn I => by
  refine wpAny_Call_Name_kw (ld_glob I hg hm (PySem.W.callWith_K (h₀ := X.base) I.ok.mod.kin hk (thn (h pos pins s hn I) ?_) stars nostar) nodebug)
  rintro us s1 ⟨vs, H1, I1, r, q⟩
  exact ⟨I1.kIn, run_fnG F room bind (pass σ) I1 r q⟩
end
/-- a def that stands at the module's name x -/
structure Callee (P : Program) (w : World) (K : PySem.W.Frag) (mg : Str → Option Value) (base : Heap) (x : Str) (k : Nat) (ps : List Str) (φ : List O → FR) : Prop where
  ex : ∃ f fd, mg x = some (.ref f) ∧ PySem.W.keepIn K (.ref f) = true ∧ FnG P w K mg base (L2N.CX P w) k f fd ps (spF K φ ps.length) ∧ Binds K fd ps []
/-- the operands handed over -/
def takeOps : List Opd → Env → Option (List O × Env)
  | [], e => some ([], e)
  | .t o :: r, e => (takeOps r e).map fun p => (o :: p.1, p.2)
  | .v i :: r, e => match e[i]? with
    | some (some (.fz d)) => (takeOps r e).map fun p => (.fz d :: p.1, p.2)
    | some (some o) => (takeOps r (e.set i none)).map fun p => (o :: p.1, p.2)
    | _ => none
/-- .. and given back -/
def putOps : List Opd → List O → Env → Env
  | .v i :: r, o :: os, e => (match e[i]? with
    | some none => putOps r os (e.set i (some o))
    | _ => putOps r os e)
  | .t _ :: r, _ :: os, e => putOps r os e
  | _, _, e => e
def eCall (φ : List O → FR) (f : Env → R (List Opd)) : Env → R O := fun env => match f env with
  | .ok ops e => (match takeOps ops e with
    | some (os, e2) => (match φ os with
      | .ret o outs => .ok o (putOps ops outs e2)
      | .exc c ds outs => .exc c ds (putOps ops outs e2)
      | .bad => .bad)
    | none => .bad)
  | .exc c ds e => .exc c ds e
  | .bad => .bad
section
variable {K : PySem.W.Frag} {F H : Hp} {σ : L2.St}
theorem takeOps_ok : ∀ {ops : List Opd} {env env2 : Env} {vs : List V} {os : List O} {T0 S : List Addr}, Slots K F H σ env S → OpdsV K F H σ vs ops T0 → takeOps ops env = some (os, env2) →
    ∃ T S2, Owns K F H vs os T ∧ Slots K F H σ env2 S2 ∧ (T ++ S2).Perm (T0 ++ S)
  | [], env, env2, _, os, _, S, sl, .nil, e => by
    simp [takeOps] at e
    obtain ⟨rfl, rfl⟩ := e
    exact ⟨[], S, .nil, sl, List.Perm.refl _⟩
  | .t o :: r, env, env2, _, os, _, S, sl, .t (fp := fp) (T := T) h q, e => by
    simp only [takeOps, Option.map_eq_some_iff] at e
    obtain ⟨⟨os', e'⟩, e1, e2⟩ := e
    obtain ⟨T', S2, h1, h2, h3⟩ := takeOps_ok sl q e1
    cases e2
    refine ⟨fp ++ T', S2, .cons h h1, h2, ?_⟩
    rw [List.append_assoc, List.append_assoc]
    exact List.Perm.append_left _ h3
  | .v i :: r, env, env2, _, os, T0, S, sl, .v (v := v) h q, e => by
    unfold takeOps at e
    split at e
    · rename_i d ho
      simp only [Option.map_eq_some_iff] at e
      obtain ⟨⟨os', e'⟩, e1, e2⟩ := e
      obtain ⟨v', fp, S0, hv, ow, _, _⟩ := sl.take ho
      rw [h] at hv
      cases hv
      obtain ⟨T', S2, h1, h2, h3⟩ := takeOps_ok sl q e1
      cases e2
      cases ow with
      | fz r => exact ⟨[] ++ T', S2, .cons (.fz r) h1, h2, h3⟩
    · rename_i o hn ho
      simp only [Option.map_eq_some_iff] at e
      obtain ⟨⟨os', e'⟩, e1, e2⟩ := e
      obtain ⟨v', fp, S0, hv, ow, pm, sl0⟩ := sl.take ho
      rw [h] at hv
      cases hv
      obtain ⟨T', S2, h1, h2, h3⟩ := takeOps_ok sl0 q e1
      cases e2
      refine ⟨fp ++ T', S2, .cons ow h1, h2, ?_⟩
      have p1 : (fp ++ T' ++ S2).Perm (fp ++ (T0 ++ S0)) := by
        rw [List.append_assoc]
        exact List.Perm.append_left _ h3
      have p2 : (fp ++ (T0 ++ S0)).Perm (T0 ++ (fp ++ S0)) := by
        rw [← List.append_assoc, ← List.append_assoc]
        exact List.Perm.append_right _ List.perm_append_comm
      exact p1.trans (p2.trans (List.Perm.append_left _ pm))
    · cases e
theorem putOps_ok : ∀ {ops : List Opd} {env : Env} {vs : List V} {outs : List O} {T S : List Addr} {T0 : List Addr} {F0 H0 : Hp}, Slots K F H σ env S → OpdsV K F0 H0 σ vs ops T0 → Owns K F H vs outs T → (T ++ S).Nodup →
    ∃ S3, Slots K F H σ (putOps ops outs env) S3 ∧ S3.Nodup ∧ ∀ a ∈ S3, a ∈ T ++ S
  | [], env, _, outs, T, S, _, _, _, sl, .nil, ow, nd => by
    cases ow
    exact ⟨S, by simpa [putOps] using sl, by simpa using nd, fun a m => by simpa using m⟩
  | .t o :: r, env, _, _, _, S, _, _, _, sl, .t h q, .cons (fp := fp) (fq := fq) a b, nd => by
    obtain ⟨S3, h1, h2, h3⟩ := putOps_ok sl q b (nd.sublist (by rw [List.append_assoc]; exact List.sublist_append_right _ _))
    refine ⟨S3, by simpa [putOps] using h1, h2, fun x m => ?_⟩
    rw [List.append_assoc]
    exact List.mem_append_right _ (h3 x m)
  | .v i :: r, env, _, _, _, S, _, _, _, sl, .v h q, .cons (o := o) (os := os) (fp := fp) (fq := fq) a b, nd => by
    unfold putOps
    split
    · rename_i he
      obtain ⟨S', h1, h2⟩ := sl.putBack he h a
      have nd2 : (fq ++ S').Nodup := by
        have p : (fq ++ S').Perm (fp ++ fq ++ S) := by
          refine (List.Perm.append_left fq h2).trans ?_
          rw [← List.append_assoc]
          exact List.Perm.append_right _ List.perm_append_comm
        exact p.nodup_iff.mpr nd
      obtain ⟨S3, k1, k2, k3⟩ := putOps_ok h1 q b nd2
      refine ⟨S3, k1, k2, fun x m => ?_⟩
      rw [List.append_assoc]
      rcases List.mem_append.mp (k3 x m) with n | n
      · exact List.mem_append_right _ (List.mem_append_left _ n)
      · rcases List.mem_append.mp (h2.mem_iff.mp n) with n | n
        · exact List.mem_append_left _ n
        · exact List.mem_append_right _ (List.mem_append_right _ n)
    · obtain ⟨S3, h1, h2, h3⟩ := putOps_ok sl q b (nd.sublist (by rw [List.append_assoc]; exact List.sublist_append_right _ _))
      refine ⟨S3, h1, h2, fun x m => ?_⟩
      rw [List.append_assoc]
      exact List.mem_append_right _ (h3 x m)
end
section
variable {n : Nat} {X : Cx}
/-- the values are in hand: the def's promise is asked -/
theorem call_post {W : WX} {φ : List O → FR} {ops : List Opd} {e : Env} {σ : L2.St} {F H F1 H1 : Hp} {S S1 T : List Addr} {vs : List V} {Q : VK} {n : Nat} (hn : vs.length = n) (tr : Trans F H S F1 H1 (T ++ S1)) (s : Stp X.K F1 H1 σ e S1 vs ops T)
    (q : PostE X W σ F H S Q (match takeOps ops e with
      | some (os, e2) => (match φ os with
        | .ret o outs => .ok o (putOps ops outs e2)
        | .exc c ds outs => .exc c ds (putOps ops outs e2)
        | .bad => .bad)
      | none => .bad)) : spF X.K φ n vs H1 Q (WE W σ) := by
  refine ⟨hn, ?_⟩
  cases ht : takeOps ops e with
  | none => rw [ht] at q; exact q.elim
  | some p =>
    obtain ⟨os, e2⟩ := p
    rw [ht] at q
    obtain ⟨T', S2, ow, sl, pm⟩ := takeOps_ok s.st.own s.val ht
    have nd : (T' ++ S2).Nodup := pm.nodup_iff.mpr (List.nodup_append.mpr ⟨s.nd, s.st.nd, fun a m b n z => s.as.ns a m (z ▸ n)⟩)
    have nd' := List.nodup_append.mp nd
    have nf : ∀ a ∈ T' ++ S2, F1 a = none := fun a m => (List.mem_append.mp (pm.mem_iff.mp m)).elim (s.as.nf a) (s.st.sep a)
    have as2 : Aside F1 H1 T' S2 := ⟨fun a m n => nd'.2.2 a n a m rfl, fun a m => nf a (List.mem_append_right _ m), fun a m => sl.live a m⟩
    have tr1 : Trans F H S F1 H1 (T' ++ S2) := tr.sub fun a m => pm.mem_iff.mp m
    refine ⟨F1, os, T', s.st.sub, ow, nd'.1, fun a m => nf a (List.mem_append_left _ m), ?_⟩
    have wide : ∀ {F' H' : Hp} {U : List Addr}, Trans F1 H1 T' F' H' U → Trans F1 H1 (T' ++ S2) F' H' (U ++ S2) := fun {F' H' U} t =>
      ⟨fun a u e m => t.fr a u e fun z => m (List.mem_append_left _ z), t.ff, fun a u e => (t.fn a u e).imp_right fun z => z.imp_left fun y => List.mem_append_left _ y, fun a m => (List.mem_append.mp m).elim (fun z => (t.sn a z).imp_left fun y => List.mem_append_left _ y) fun z => .inl (List.mem_append_right _ z), t.dm⟩
    revert q
    show PostE X W σ F H S Q (match φ os with
        | .ret o outs => .ok o (putOps ops outs e2)
        | .exc c ds outs => .exc c ds (putOps ops outs e2)
        | .bad => .bad) → _
    cases φ os with
    | bad => exact fun q => q
    | ret o outs =>
      intro q v F2 H2 T1 T2 t2 ow2 ov sb nd2 nf2
      have sl2 : Slots X.K F2 H2 σ e2 S2 := sl.over as2 t2
      have as3 := as2.over t2
      have nd3 := List.nodup_append.mp nd2
      have ndS : (T2 ++ S2).Nodup := List.nodup_append.mpr ⟨nd3.2.1, nd'.2.1, fun a m b n z => as3.ns a (z ▸ n) (List.mem_append_right _ m)⟩
      obtain ⟨S3, h1, h2, h3⟩ := putOps_ok sl2 s.val ow2 ndS
      have t3 := tr1.trans (wide t2)
      refine q v F2 H2 S3 T1 (t3.sub fun a m => ?_) (sta_one ⟨h1, sb, h2, fun a m => ?_⟩ ov nd3.1 ⟨fun a m n => ?_, fun a m => nf2 a (List.mem_append_left _ m), fun a m => ov.live a m⟩)
      · rw [List.append_assoc]
        rcases List.mem_append.mp m with m | m
        · exact List.mem_append_left _ m
        · exact List.mem_append_right _ (h3 a m)
      · rcases List.mem_append.mp (h3 a m) with n | n
        · exact nf2 a (List.mem_append_right _ n)
        · exact as3.nf a n
      · rcases List.mem_append.mp (h3 a n) with n | n
        · exact nd3.2.2 a m a n rfl
        · exact as3.ns a n (List.mem_append_left _ m)
    | exc c ds outs =>
      intro q cls d F2 H2 T2 t2 ow2 sb nd2 nf2 x fn
      have sl2 : Slots X.K F2 H2 σ e2 S2 := sl.over as2 t2
      have as3 := as2.over t2
      have ndS : (T2 ++ S2).Nodup := List.nodup_append.mpr ⟨nd2, nd'.2.1, fun a m b n z => as3.ns a (z ▸ n) m⟩
      obtain ⟨S3, h1, h2, h3⟩ := putOps_ok sl2 s.val ow2 ndS
      have t3 := tr1.trans (wide t2)
      refine q cls d F2 H2 S3 (t3.sub h3) ⟨h1, sb, h2, fun a m => ?_⟩ x fun y e => tr1.dm y (fn y e)
      rcases List.mem_append.mp (h3 a m) with n | n
      · exact nf2 a n
      · exact as3.nf a n
theorem wL_mono : ∀ {es : List Expr} {σ : L2.St} {H : Hp} {Q Q' : List V → Hp → Prop}, wL n X es σ H Q → (∀ vs H', Q vs H' → Q' vs H') → wL n X es σ H Q'
  | [], _, _, _, _, h, q => q _ _ h
  | _ :: _, _, _, _, _, h, q => wE_mono h fun v H1 h1 => wL_mono h1 fun vs H2 h2 => q _ _ h2
theorem wL_len : ∀ {es : List Expr} {σ : L2.St} {H : Hp} {Q : List V → Hp → Prop}, wL n X es σ H (fun vs H1 => vs.length = es.length → Q vs H1) → wL n X es σ H Q
  | [], _, _, _, h => h rfl
  | _ :: _, _, _, _, h => wE_mono h fun v H1 h1 => wL_len (wL_mono h1 fun vs H2 h2 e => h2 (by simp [e]))
theorem OpdsV.len {K : PySem.W.Frag} {F H : Hp} {σ : L2.St} : ∀ {vs ops T}, OpdsV K F H σ vs ops T → vs.length = ops.length
  | _, _, _, .nil => rfl
  | _, _, _, .v _ r => by simp [OpdsV.len r]
  | _, _, _, .t _ r => by simp [OpdsV.len r]
theorem snd_call {x : Str} {e : Expr} {es : List Expr} {f : Env → R (List Opd)} {p pos : Pos} {k : Nat} {ps : List Str} {φ : List O → FR} (C : Callee X.prog X.w X.K X.mg X.base x k ps φ) (hr : RoomG k X.A) (hg : Gl X x) (h : SndL n X (e :: es) f) (pl : Plain X (e :: es))
    (hn : (e :: es).length = ps.length := by rfl) (hpl : (backTo pos (starEach es X.env)).any (·.1) = false := by rfl) (hdb : (x == ("__debug__" : Str)) = false := by decide) : SndE n X (.Call (.Name x p) (e :: es) [] pos) (eCall φ f) := by
  refine .mk fun W tk env σ F H S Q st q => ?_
  obtain ⟨fa, fd, hm, hk, ok, hb⟩ := C.ex
  refine wE_callG (E := WE W) ok hr hg hm hk hb (fun σ => L2N.passAt tk σ) hdb pl.1 hpl ?_
  refine wA_L pl (wL_len (h.run W tk env σ F H S _ st ?_))
  unfold eCall at q
  revert q
  cases f env with
  | exc c ds e => exact fun q => q
  | bad => exact fun q => q
  | ok ops e1 =>
    intro q vs F1 H1 S1 T tr s hl
    exact call_post (hl.trans hn) tr s q
end

/-! ### a def by its body -/
/-- the values at the entry: a parameter that the body stores to is frozen -/
def entryO : List Bool → List O → List O
  | true :: r, o :: os => .fz o.erase :: entryO r os
  | false :: r, o :: os => o :: entryO r os
  | _, _ => []
/-- what the parameters are at the end -/
def outsO : List Bool → List O → Env → Option (List O)
  | [], [], _ => some []
  | true :: r, o :: os, _ :: e => (outsO r os e).map (.fz o.erase :: ·)
  | false :: r, _ :: os, some o' :: e => (outsO r os e).map (o' :: ·)
  | _, _, _ => none
/-- a def of the parameters told by reb (whether the body stores to them), with n more names -/
def fnSem (reb : List Bool) (n : Nat) (body : Env → R Fl) : List O → FR := fun os =>
  if os.length = reb.length then
    match body ((entryO reb os).map some ++ List.replicate n none) with
    | .ok (.rt o) e => (match outsO reb os e with
      | some outs => .ret o outs
      | none => .bad)
    | .ok .nx e => (match outsO reb os e with
      | some outs => .ret (.fz .non) outs
      | none => .bad)
    | .exc c ds e => (match outsO reb os e with
      | some outs => .exc c ds outs
      | none => .bad)
    | _ => .bad
  else .bad
def prOf (reb : List Bool) : Nat → Bool := fun i => reb[i]? == some false
section
variable {K : PySem.W.Frag} {F H : Hp}
theorem entry_ok : ∀ {reb : List Bool} {os : List O} {vs : List V} {T : List Addr} {F : Hp}, os.length = reb.length → Ex F H → Owns K F H vs os T → T.Nodup → (∀ a ∈ T, F a = none) →
    ∃ F' T', Trans F H T F' H T' ∧ Owns K F' H vs (entryO reb os) T' ∧ Ex F' H ∧ T'.Nodup ∧ (∀ a ∈ T', F' a = none) ∧ (∀ a ∈ T', a ∈ T) ∧ ∀ (i : Nat) (o : O) (v : V), reb[i]? = some true → os[i]? = some o → vs[i]? = some v → Rep K F' v o.erase
  | [], [], _, _, F, _, s, .nil, nd, nf => ⟨F, [], Trans.refl, .nil, s, nd, nf, fun a m => m, fun i o v h => by simp at h⟩
  | true :: reb, o :: os, _, _, F, hl, s, .cons (v := v) (fp := fp) (fq := fq) a b, nd, nf => by
    have nd' := List.nodup_append.mp nd
    have nf1 : ∀ x ∈ fp, F x = none := fun x m => nf x (List.mem_append_left _ m)
    have rp : Rep K (frz F H fp) v o.erase := a.freeze (frz_ex nf1) fun x m u e => by rw [frz_in m]; exact e
    have nf2 : ∀ x ∈ fq, frz F H fp x = none := fun x m => by
      rw [frz_out fun n => nd'.2.2 x n x m rfl]
      exact nf x (List.mem_append_right _ m)
    obtain ⟨F', T', t, ow, sb, ndT, nfT, mem, rr⟩ := entry_ok (reb := reb) (by simpa using hl) (frz_sub s) (b.keep (frz_ex nf1) fun _ _ _ e => e) nd'.2.1 nf2
    refine ⟨F', T', (frz_trans (S := fq) nf1).trans t, .cons (fp := []) (.fz (rp.mono t.ff)) ow, sb, ndT, nfT, fun x m => List.mem_append_right _ (mem x m), fun i o' v' h1 h2 h3 => ?_⟩
    cases i with
    | zero =>
      simp at h2 h3
      subst h2 h3
      exact rp.mono t.ff
    | succ i => exact rr i o' v' (by simpa using h1) (by simpa using h2) (by simpa using h3)
  | false :: reb, o :: os, _, _, F, hl, s, .cons (v := v) (fp := fp) (fq := fq) a b, nd, nf => by
    have nd' := List.nodup_append.mp nd
    obtain ⟨F', T', t, ow, sb, ndT, nfT, mem, rr⟩ := entry_ok (reb := reb) (by simpa using hl) s b nd'.2.1 fun x m => nf x (List.mem_append_right _ m)
    have as : Aside F H fq fp := ⟨fun x m n => nd'.2.2 x m x n rfl, fun x m => nf x (List.mem_append_left _ m), fun x m => a.live x m⟩
    have as' := as.over t
    refine ⟨F', fp ++ T', ⟨fun x u e n => e, t.ff, fun x u e => (t.fn x u e).imp_right fun z => z.imp_left fun y => List.mem_append_right _ y, fun x m => ?_, t.dm⟩, .cons (a.over as t) ow, sb, ?_, fun x m => ?_, fun x m => ?_, fun i o' v' h1 h2 h3 => ?_⟩
    · rcases List.mem_append.mp m with m | m
      · exact .inl (List.mem_append_left _ m)
      · exact (t.sn x m).imp_left fun y => List.mem_append_right _ y
    · exact List.nodup_append.mpr ⟨nd'.1, ndT, fun x m y n z => nd'.2.2 x m y (mem y n) z⟩
    · rcases List.mem_append.mp m with m | m
      · exact as'.nf x m
      · exact nfT x m
    · rcases List.mem_append.mp m with m | m
      · exact List.mem_append_left _ m
      · exact List.mem_append_right _ (mem x m)
    · cases i with
      | zero => simp at h1
      | succ i => exact rr i o' v' (by simpa using h1) (by simpa using h2) (by simpa using h3)
theorem slots_of : ∀ {vs : List V} {os : List O} {T : List Addr}, Owns K F H vs os T → ∀ n, Slots K F H (vs.map some ++ List.replicate n none) (os.map some ++ List.replicate n none) T
  | _, _, _, .nil, n => by
    induction n with
    | zero => exact .nil
    | succ n ih => exact .no ih
  | _, _, _, .cons a b, n => .yes a (slots_of b n)
theorem outs_ok {F' H' : Hp} : ∀ {reb : List Bool} {os outs : List O} {vs : List V} {σ' : L2.St} {env' : Env} {S' : List Addr}, vs.length = reb.length → Slots K F' H' σ' env' S' → outsO reb os env' = some outs →
    (∀ (i : Nat) (v : V), reb[i]? = some false → vs[i]? = some v → σ'[i]? = some (some v)) → (∀ (i : Nat) (o : O) (v : V), reb[i]? = some true → os[i]? = some o → vs[i]? = some v → Rep K F' v o.erase) → ∃ T2, Owns K F' H' vs outs T2 ∧ T2.Sublist S'
  | [], [], outs, [], _, _, S', _, sl, e, _, _ => by
    simp [outsO] at e
    subst e
    exact ⟨[], .nil, List.nil_sublist _⟩
  | [], _ :: _, outs, _, _, _, _, _, sl, e, _, _ => by simp [outsO] at e
  | b :: reb, [], outs, _, _, _, _, _, sl, e, _, _ => by cases b <;> simp [outsO] at e
  | true :: reb, o :: os, outs, v :: vs, _, [], S', hl, sl, e, h1, h2 => by simp [outsO] at e
  | true :: reb, o :: os, outs, v :: vs, _, none :: env', S', hl, .no sl, e, h1, h2 => by
    simp only [outsO, Option.map_eq_some_iff] at e
    obtain ⟨outs', e1, rfl⟩ := e
    obtain ⟨T2, ow, sb⟩ := outs_ok (by simpa using hl) sl e1 (fun i v k1 k2 => by simpa using h1 (i + 1) v (by simpa using k1) (by simpa using k2)) fun i o v k1 k2 k3 => h2 (i + 1) o v (by simpa using k1) (by simpa using k2) (by simpa using k3)
    exact ⟨T2, .cons (fp := []) (.fz (h2 0 o v rfl rfl rfl)) ow, sb⟩
  | true :: reb, o :: os, outs, v :: vs, _, some _ :: env', _, hl, .yes (fp := fq) q sl, e, h1, h2 => by
    simp only [outsO, Option.map_eq_some_iff] at e
    obtain ⟨outs', e1, rfl⟩ := e
    obtain ⟨T2, ow, sb⟩ := outs_ok (by simpa using hl) sl e1 (fun i v k1 k2 => by simpa using h1 (i + 1) v (by simpa using k1) (by simpa using k2)) fun i o v k1 k2 k3 => h2 (i + 1) o v (by simpa using k1) (by simpa using k2) (by simpa using k3)
    exact ⟨T2, .cons (fp := []) (.fz (h2 0 o v rfl rfl rfl)) ow, sb.trans (List.sublist_append_right _ _)⟩
  | false :: reb, o :: os, outs, v :: vs, _, [], S', hl, sl, e, h1, h2 => by simp [outsO] at e
  | false :: reb, o :: os, outs, v :: vs, _, none :: env', S', hl, sl, e, h1, h2 => by simp [outsO] at e
  | false :: reb, o :: os, outs, v :: vs, _, some o' :: env', _, hl, .yes (v := v') (fp := fq) q sl, e, h1, h2 => by
    simp only [outsO, Option.map_eq_some_iff] at e
    obtain ⟨outs', e1, rfl⟩ := e
    obtain ⟨T2, ow, sb⟩ := outs_ok (by simpa using hl) sl e1 (fun i v k1 k2 => by simpa using h1 (i + 1) v (by simpa using k1) (by simpa using k2)) fun i o v k1 k2 k3 => h2 (i + 1) o v (by simpa using k1) (by simpa using k2) (by simpa using k3)
    have ev := h1 0 v rfl rfl
    simp at ev
    subst ev
    exact ⟨fq ++ T2, .cons q ow, List.Sublist.append (List.Sublist.refl _) sb⟩
theorem start_eq (N : List Str) (vs : List V) : L2.start N vs = vs.map some ++ List.replicate (N.length - vs.length) none := rfl
/-- THE RULE: the body does g, so the def computes fnSem -/
theorem body_post {X : Cx} {reb : List Bool} {m n : Nat} {body : List Stmt} {g : Env → R Fl} {E : XK} (hb : SndSs m X (prOf reb) body g) (tk : L2N.Takes X (fun cls d _ H => E cls d H)) {vs : List V} {H : Hp} {Q : VK} (h : spF X.K (fnSem reb n g) reb.length vs H Q E) :
    wSs m X body { nx := fun _ H' => Q .non H', rt := Q } (vs.map some ++ List.replicate n none) H := by
  obtain ⟨hl, F, os, T, sb, ow, nd, nf, p⟩ := h
  have hos : os.length = reb.length := by rw [← ow.length, hl]
  obtain ⟨F1, T1, t1, ow1, sb1, nd1, nf1, mem1, rr⟩ := entry_ok hos sb ow nd nf
  refine hb.run _ tk _ _ F1 H T1 _ ⟨slots_of ow1 n, sb1, nd1, nf1⟩ ?_
  unfold fnSem at p
  rw [if_pos hos] at p
  have outsE : ∀ {σ' : L2.St} {F' H' : Hp} {S' : List Addr} {env' : Env} {outs : List O}, Trans F1 H T1 F' H' S' → Stt X.K F' H' σ' env' S' → Agree (prOf reb) (vs.map some ++ List.replicate n none) σ' → outsO reb os env' = some outs → ∃ T2, Owns X.K F' H' vs outs T2 ∧ T2.Sublist S' := fun {σ' F' H' S' env' outs} t s a e =>
    outs_ok (by rw [hl]) s.own e (fun i v k1 k2 => by
      rw [a.2 i (by simp [prOf, k1])]
      rw [List.getElem?_append_left (by have := (List.getElem?_eq_some_iff.mp k2).1; simpa using this), List.getElem?_map, k2]
      rfl) fun i o v k1 k2 k3 => (rr i o v k1 k2 k3).mono t.ff
  revert p
  generalize hr : g ((entryO reb os).map some ++ List.replicate n none) = r
  cases r with
  | bad => exact fun p => p
  | exc c ds e =>
    show PostF X.K vs F H T Q E (match outsO reb os e with
      | some outs => .exc c ds outs
      | none => .bad) → _
    cases ho : outsO reb os e with
    | none => exact fun p => p.elim
    | some outs =>
      intro p σ' cls d F' H' S' t s a x fn
      obtain ⟨T2, ow2, sb2⟩ := outsE t s a ho
      exact p cls d F' H' T2 ((t1.trans t).sub sb2.subset) ow2 s.sub (s.nd.sublist sb2) (fun a m => s.sep a (sb2.subset m)) x fn
  | ok fl e =>
    cases fl with
    | bk => exact fun p => p.elim
    | ct => exact fun p => p.elim
    | nx =>
      show PostF X.K vs F H T Q E (match outsO reb os e with
        | some outs => .ret (.fz .non) outs
        | none => .bad) → _
      cases ho : outsO reb os e with
      | none => exact fun p => p.elim
      | some outs =>
        intro p σ' F' H' S' t s a
        obtain ⟨T2, ow2, sb2⟩ := outsE t s a ho
        exact p .non F' H' [] T2 ((t1.trans t).sub sb2.subset) ow2 (.fz .non) s.sub (s.nd.sublist sb2) (fun a m => s.sep a (sb2.subset m))
    | rt o =>
      show PostF X.K vs F H T Q E (match outsO reb os e with
        | some outs => .ret o outs
        | none => .bad) → _
      cases ho : outsO reb os e with
      | none => exact fun p => p.elim
      | some outs =>
        intro p v σ' F' H' S' T3 t s a
        obtain ⟨T2, ow2, sb2⟩ := outsE (t.sub fun x m => List.mem_append_right _ m) s.st a ho
        have sub : (T3 ++ T2).Sublist (T3 ++ S') := List.Sublist.append (List.Sublist.refl _) sb2
        have nd3 : (T3 ++ S').Nodup := List.nodup_append.mpr ⟨s.nd, s.st.nd, fun x m y n z => s.as.ns x m (z ▸ n)⟩
        exact p v F' H' T3 T2 ((t1.trans t).sub sub.subset) ow2 s.one s.st.sub (nd3.sublist sub) fun x m => (List.mem_append.mp (sub.subset m)).elim (s.as.nf x) (s.st.sep x)
end
end PyD
end

section
set_option Elab.async false
set_option linter.all false
set_option maxRecDepth 100000
namespace PyD
variable [Om]
open PySem L2 PySem.Spec PyProof.Rows

/-- the bound of lists and texts that are made -/
def LIM : Nat := 1000000
theorem lim_line {n : Nat} (h : n ≤ LIM) : n ≤ sizeLine := Nat.le_trans h (by decide)
/-- the bound of factors and bases -/
def BIG : Nat := 2 ^ 2000000
section
variable {n : Nat} {X : Cx} {K : PySem.W.Frag} {F H : Hp}
/-! ### new objects -/
theorem tr_new {o : HO} {p : Addr} (s : Ex F H) (hp : H p = none) : Trans F H [] F (upd H p o) [p] :=
  ⟨fun a u e _ => Ex.new hp a u e, Ex.refl _, fun a u e => .inl ⟨u, e⟩, fun a m => .inr (by simp at m; subst m; exact hp), fun a e => by
    by_cases h : a = p
    · subst h; exact hp
    · rw [upd_ne h] at e; exact e⟩
theorem Ex.none {a : Addr} (s : Ex F H) (h : H a = none) : F a = none := by
  cases e : F a with
  | none => rfl
  | some o => rw [s a o e] at h; cases h
theorem owns_fz {H' : Hp} : ∀ {vs ds}, Reps K F vs ds → Owns K F H' vs (ds.map O.fz) []
  | _, _, .nil => .nil
  | _, _, .cons h r => .cons (fp := []) (fq := []) (.fz h) (owns_fz r)
/-- a result that is a new list of known values -/
theorem new_lst {vs : List V} {ds : List D} {p : Addr} {Q : VK} (s : Ex F H) (r : Reps K F vs ds) (hp : H p = none)
    (q : ∀ v F' H' T, Trans F H [] F' H' T → Own K F' H' v (.lst (ds.map O.fz)) T → Ex F' H' → T.Nodup → (∀ a ∈ T, F' a = none) → Q v H') : Q (.ref p) (upd H p (.lst vs)) :=
  q _ F _ [p] (tr_new s hp) (.lst upd_same (owns_fz r)) (s.trans (Ex.new hp)) (by simp) fun a m => by simp at m; subst m; exact s.none hp
theorem new_tup {vs : List V} {ds : List D} {p : Addr} {Q : VK} (s : Ex F H) (r : Reps K F vs ds) (hp : H p = none)
    (q : ∀ v F' H' T, Trans F H [] F' H' T → Own K F' H' v (.tup (ds.map O.fz)) T → Ex F' H' → T.Nodup → (∀ a ∈ T, F' a = none) → Q v H') : Q (.ref p) (upd H p (.tup vs)) :=
  q _ F _ [p] (tr_new s hp) (.tup upd_same (owns_fz r)) (s.trans (Ex.new hp)) (by simp) fun a m => by simp at m; subst m; exact s.none hp
/-- a result that stands already -/
theorem old_val {v : V} {d : D} {Q : VK} (s : Ex F H) (r : Rep K F v d)
    (q : ∀ v F' H' T, Trans F H [] F' H' T → Own K F' H' v (.fz d) T → Ex F' H' → T.Nodup → (∀ a ∈ T, F' a = none) → Q v H') : Q v H :=
  q _ F _ [] Trans.refl (.fz r) s (by simp) (fun a m => by cases m)

/-! ### a op b -/
def r2 (r : R2) : List V → Hp → VK → Prop := fun vs H Q => ∃ x y, vs = [x, y] ∧ r x y H Q
theorem wL2 {a b : Expr} {σ : L2.St} {H : Hp} {r : R2} {Q : VK} (h : wL n X [a, b] σ H fun vs H1 => r2 r vs H1 Q) : wE n X a σ H fun x H1 => wE n X b σ H1 fun y H2 => r x y H2 Q := by
  refine wE_mono h fun x H1 h1 => wE_mono h1 fun y H2 h2 => ?_
  obtain ⟨x', y', e, q⟩ := h2
  cases e
  exact q
theorem wE_op {op : Operator} {r : R2} {a b : Expr} {pos : Pos} (ho : OpR X (binaryOp op) r) (σ : L2.St) (H : Hp) (Q : VK) (h : wL n X [a, b] σ H fun vs H1 => r2 r vs H1 Q) : wE n X (.BinOp a op b pos) σ H Q := by
  exact wE_mk fun pins s hn I => wpAny_BinOp (wE_bin (wL2 h) hn I fun v u s2 x y H2 _ I2 a1 a2 q => ho pins s2 σ H2 x y v u Q I2 a1 a2 q)
theorem OpR.or {f : Value → Value → Sem Value} {r r' : R2} (h : OpR X f r) (h' : OpR X f r') : OpR X f (fun x y H Q => r x y H Q ∨ r' x y H Q) := fun pins s σ H x y v u Q I rx ry q =>
  q.elim (h pins s σ H x y v u Q I rx ry) (h' pins s σ H x y v u Q I rx ry)
/-- a list that is read, as an object -/
theorem rdL {pins : List (Addr × Obj)} {σ : L2.St} {s : Shared} {l : Addr} {xs : List V} (I : Inv X pins σ H s) (hH : SqL X.K H l xs) :
    xs.length ≤ sizeLine ∧ ∃ (its : List Value) (n : Nat) (sl : Array (Option Value)), Vals xs its ∧ xs.length = its.length ∧ s.heap.get? l = some { cls := .type "list", data := .seq its.toArray n, slots := sl } := by
  obtain ⟨its, r, ⟨⟨cls, dd, data, sl⟩, n, ho, hc, hd, hs⟩, z⟩ := I.list hH
  simp only at hc hd hs
  subst hc hd hs
  exact ⟨z, its, n, sl, r, r.length, ho⟩
theorem meets_addL (l b : Addr) (its js : Array Value) (n m : Nat) (sl sk : Array (Option Value)) (few : its.size + js.size ≤ sizeLine) :
    Meets (Builtin.«list.__add__» ⟨[.ref l, .ref b], []⟩) (fun _ R s => s.heap.get? l = some { cls := .type "list", dict := none, data := .seq its n, slots := sl } ∧
      s.heap.get? b = some { cls := .type "list", dict := none, data := .seq js m, slots := sk } ∧ R (.ok (.ret (Value.ref s.heap.objs.size))) { s with heap := s.heap.push { cls := Value.type "list", data := Data.seq (its ++ js) }, toks := s.toks }) :=
  .of_wp fun prog w A R s h => by
    obtain ⟨hp, g, d, tk, os⟩ := s
    obtain ⟨hl, hb, h⟩ := h
    have f1 := AutoSeq1.idx_int
    have f2 := AutoSeq1.sub_tuple_tuple
    have f3 := AutoSeq1.sub_list_list
    have f4 := AutoSeq1.sub_tuple_list
    have f5 := AutoSeq1.sub_list_tuple
    wp_walk using AutoSeq1.wpAny_loadPart' hl, AutoSeq1.wpAny_loadPart' hb
    exact ⟨_, rfl, h⟩
def rCat' (K : PySem.W.Frag) : R2 := fun x y H Q => ∃ l b xs zs, x = .ref l ∧ y = .ref b ∧ SqL K H l xs ∧ SqL K H b zs ∧ xs.length + zs.length ≤ sizeLine ∧ ∀ p, H p = none → Q (.ref p) (upd H p (.lst (xs ++ zs)))
theorem op_cat' : OpR X (binaryOp .Add) (rCat' X.K) := by
  intro pins s σ H x y v u Q I rx ry h
  obtain ⟨l, b, xs, zs, rfl, rfl, hH, hB, hz, q⟩ := h
  cases rx
  cases ry
  obtain ⟨z, its, n, sl, r, hl, e⟩ := rdL I hH
  obtain ⟨z2, its2, n2, sk, r2, hl2, e2⟩ := rdL I hB
  have few : its.toArray.size + its2.toArray.size ≤ sizeLine := by
    rw [List.size_toArray, List.size_toArray, ← hl, ← hl2]
    exact hz
  refine concat_meets ⟨_, e, rfl⟩ ⟨_, e2, rfl⟩ noFill_list_add seq_list_add F.slot_list_add F.entry_list_add (F.args_list_add_2 _ _)
    (meets_addL l b its.toArray its2.toArray n n2 sl sk few) ⟨e, e2, ?_⟩
  have ea : its.toArray ++ its2.toArray = (its ++ its2).toArray := by simp
  rw [ea]
  exact ⟨.ref _, _, I.lnew (t' := s.toks) (r.append r2) (by rw [List.length_append]; omega), rfl, q _ I.fresh⟩
abbrev rStrs : R2 := fun x y H Q => ∃ i j, x = .str i ∧ y = .str j ∧ i.length + j.length ≤ sizeLine ∧ Q (.str (i ++ j)) H
def rAddAll (K : PySem.W.Frag) : R2 := fun x y H Q => rI0 (fun i j => .int (i + j)) x y H Q ∨ rStrs x y H Q ∨ rCat' K x y H Q ∨ rCatT K x y H Q
theorem op_addAll : OpR X (binaryOp .Add) (rAddAll X.K) := OpR.or op_add (OpR.or op_add_str (OpR.or op_cat' op_catT))
def semAdd : List D → Option O
  | [.int i, .int j] => some (.fz (.int (i + j)))
  | [.str a, .str b] => if a.length + b.length ≤ LIM then some (.fz (.str (a ++ b))) else none
  | [.lst xs, .lst ys] => if xs.length + ys.length ≤ LIM then some (.lst ((xs ++ ys).map .fz)) else none
  | [.tup xs, .tup ys] => if xs.length + ys.length ≤ LIM ∧ xs ≠ [] ∧ ys ≠ [] then some (.tup ((xs ++ ys).map .fz)) else none
  | _ => none
theorem sOf_append (a b : List Nat) : sOf a ++ sOf b = sOf (a ++ b) := by
  show (⟨a.toArray ++ b.toArray⟩ : Str) = ⟨(a ++ b).toArray⟩
  simp
theorem okS_app {a b : List Nat} (h : okS a) (k : okS b) (hl : a.length + b.length ≤ LIM) : okS (a ++ b) := ⟨by rw [List.length_append]; exact lim_line hl, fun c m => (List.mem_append.mp m).elim (h.2 c) (k.2 c)⟩
theorem opb_add : OpB K (r2 (rAddAll K)) semAdd := by
  intro F H vs ds o Q s sh e q
  unfold semAdd at e
  split at e
  · cases e
    obtain ⟨x, y, rfl, h1, h2⟩ := sh.two
    cases h1.int_inv; cases h2.int_inv
    exact ⟨_, _, rfl, .inl ⟨_, _, rfl, rfl, old_val s (.int _) q⟩⟩
  · split at e
    · rename_i a b hl
      cases e
      obtain ⟨x, y, rfl, h1, h2⟩ := sh.two
      obtain ⟨rfl, l1⟩ := h1.str_inv
      obtain ⟨rfl, l2⟩ := h2.str_inv
      refine ⟨_, _, rfl, .inr (.inl ⟨_, _, rfl, rfl, by rw [length_sOf, length_sOf]; exact lim_line hl, ?_⟩)⟩
      rw [sOf_append]
      exact old_val s (.str _ (okS_app l1 l2 hl)) q
    · cases e
  · split at e
    · rename_i xs ys hl
      cases e
      obtain ⟨x, y, rfl, h1, h2⟩ := sh.two
      obtain ⟨a, us, rfl, g1, k1⟩ := h1.lst_inv s
      obtain ⟨b, ws, rfl, g2, k2⟩ := h2.lst_inv s
      exact ⟨_, _, rfl, .inr (.inr (.inl ⟨a, b, us, ws, rfl, rfl, g1, g2, by rw [k1.length, k2.length]; exact lim_line hl, fun p hp => new_lst s (k1.append k2) hp q⟩))⟩
    · cases e
  · split at e
    · rename_i xs ys hl
      cases e
      obtain ⟨x, y, rfl, h1, h2⟩ := sh.two
      obtain ⟨a, us, rfl, g1, k1⟩ := h1.tup_inv s
      obtain ⟨b, ws, rfl, g2, k2⟩ := h2.tup_inv s
      have n1 : us ≠ [] := fun z => hl.2.1 (by have := k1.length; rw [z] at this; exact List.length_eq_zero_iff.mp this.symm)
      have n2 : ws ≠ [] := fun z => hl.2.2 (by have := k2.length; rw [z] at this; exact List.length_eq_zero_iff.mp this.symm)
      exact ⟨_, _, rfl, .inr (.inr (.inr ⟨a, b, us, ws, rfl, rfl, g1, g2, n1, by rw [k1.length, k2.length]; exact lim_line hl.1, fun z => absurd z n2, fun _ p hp => new_tup s (k1.append k2) hp q⟩))⟩
    · cases e
  · cases e
theorem snd_add {a b : Expr} {pos : Pos} {f : Env → R (List Opd)} (h : SndL n X [a, b] f) : SndE n X (.BinOp a .Add b pos) (eB semAdd f) := snd_B h opb_add fun σ H Q => wE_op op_addAll σ H Q

/-! ### forms -/
theorem wE_cmp {op : CmpOp} {r : R2} {a b : Expr} {pos : Pos} (ho : OpR X (compareOp op) r) (hm : behindInMarks op b = false) (σ : L2.St) (H : Hp) (Q : VK) (h : wL n X [a, b] σ H fun vs H1 => r2 r vs H1 Q) : wE n X (.Compare a [op] [b] pos) σ H Q := by
  exact wE_mk fun pins s hn I => wpAny_Compare1 (wE_bin (wL2 h) hn I fun v u s2 x y H2 _ I2 a1 a2 q => ho pins s2 σ H2 x y v u Q I2 a1 a2 q) hm
theorem snd_tcmp {op : CmpOp} {a b : Expr} {pos : Pos} {f : Env → R (List Opd)} {r : R2} {sem : List D → Option At} (h : SndL n X [a, b] f) (hop : OpA X.K (r2 r) sem) (ho : OpR X (compareOp op) r) (hm : behindInMarks op b = false) : SndT n X (.Compare a [op] [b] pos) (tBool (eA sem f)) := by
  refine .mk fun W tk env σ F H S Q st q => ?_
  have key := snd_A (e := .Compare a [op] [b] pos) (es := [a, b]) h hop (fun σ H Q => wE_cmp ho hm σ H Q)
  -- the same reading, its value a bool
  have hl : wL n X [a, b] σ H fun vs H1 => r2 r vs H1 fun x H' => ∃ k, x = .bl k ∧ Q k H' := by
    refine h.run W tk env σ F H S _ st ?_
    unfold tBool eA at q
    revert q
    cases f env with
    | exc c ds e => exact fun q => q
    | bad => exact fun q => q.elim
    | ok ops e1 =>
      intro q vs F1 H1 S1 T1 tr sp
      revert q
      show PostT X W σ F H S Q (match (match (resA e1 ops).bind sem with
        | some a => R.ok (O.fz a.d) e1
        | none => R.bad) with
        | .ok (.fz (.bl b)) e => .ok b e
        | .exc c ds e => .exc c ds e
        | _ => .bad) → _
      cases e2 : resA e1 ops with
      | none => exact fun q => q.elim
      | some ds =>
        show PostT X W σ F H S Q (match (match sem ds with
          | some a => R.ok (O.fz a.d) e1
          | none => R.bad) with
          | .ok (.fz (.bl b)) e => .ok b e
          | .exc c ds e => .exc c ds e
          | _ => .bad) → _
        cases e3 : sem ds with
        | none => exact fun q => q.elim
        | some a =>
          cases a with
          | bl k => exact fun q => hop H1 vs ds (.bl k) _ (resA_ok sp.st sp.val e2) e3 fun _ => ⟨k, rfl, q F1 H1 S1 (tr.sub fun x m => List.mem_append_right _ m) sp.st⟩
          | _ => exact fun q => q.elim
  intro pins s hn I
  refine wpAny_isTrue_Compare1 (wE_bin (wL2 hl) hn I fun v u s2 x y H2 _ I2 a1 a2 q => thn (ho pins s2 σ H2 x y v u _ I2 a1 a2 q) fun c s3 z => ?_) hm
  obtain ⟨_, H3, I3, a3, k, e, q3⟩ := z
  subst e
  cases a3
  exact wpAny_truthy_bool ⟨H3, I3, q3⟩
theorem wE_callB {id : String} {x : Str} {e : Expr} {es : List Expr} {p pos : Pos} {r : List V → Hp → VK → Prop} (hc : CallR X (.builtin id) r) (hg : Gl X x) (hm : X.mg x = none) (hv : bootBuiltins x = some (.builtin id)) (pl : Plain X (e :: es))
    (hn : x ≠ "__name__") (hdb : (x == ("__debug__" : Str)) = false) (hpl : (backTo pos (starEach es X.env)).any (·.1) = false) (σ : L2.St) (H : Hp) (Q : VK) (h : wL n X (e :: es) σ H fun vs H1 => r vs H1 Q) : wE n X (.Call (.Name x p) (e :: es) [] pos) σ H Q :=
  wE_mk fun pins s h0 I => wpAny_Call_Name_kw (ld_blt I hg hm hv (PyProof.Rows.callWith_builtin1 (thn (wA_L pl h pos pins s h0 I) fun us s1 z => let ⟨vs, H1, I1, a1, q1⟩ := z; hc pins s1 σ H1 vs us Q I1 a1 q1) pl.1 hpl) hn hdb)
theorem wE_callTy {T : String} {x : Str} {e : Expr} {es : List Expr} {p pos : Pos} {r : List V → Hp → VK → Prop} (hc : CallR X (.type T) r) (hg : Gl X x) (hm : X.mg x = none) (hv : bootBuiltins x = some (.type T)) (pl : Plain X (e :: es))
    (hn : x ≠ "__name__") (hdb : (x == ("__debug__" : Str)) = false) (hpl : (backTo pos (starEach es X.env)).any (·.1) = false) (σ : L2.St) (H : Hp) (Q : VK) (h : wL n X (e :: es) σ H fun vs H1 => r vs H1 Q) : wE n X (.Call (.Name x p) (e :: es) [] pos) σ H Q :=
  wE_mk fun pins s h0 I => wpAny_Call_Name_kw (ld_blt I hg hm hv (PyProof.Rows.callWith_type1 (thn (wA_L pl h pos pins s h0 I) fun us s1 z => let ⟨vs, H1, I1, a1, q1⟩ := z; hc pins s1 σ H1 vs us Q I1 a1 q1) pl.1 hpl) hn hdb)
theorem wE_ix {r : R2} {a b : Expr} {pos : Pos} (hr : IxR X r) (hs : PlainIx b) (σ : L2.St) (H : Hp) (Q : VK) (h : wL n X [a, b] σ H fun vs H1 => r2 r vs H1 Q) : wE n X (.Subscript a b pos) σ H Q := by
  exact wE_mk fun pins s hn I => Subscript_ (wE_bin (wL2 h) hn I fun v u s2 x y H2 _ I2 a1 a2 q => hr a b pins s2 σ H2 x y v u Q I2 a1 a2 q (hs _ _))
theorem wE_un {op : UnaryOp} {r : V → Hp → VK → Prop} {a : Expr} {pos : Pos} (ho : UnR X (unaryOp op) r) (σ : L2.St) (H : Hp) (Q : VK) (h : wL n X [a] σ H fun vs H1 => ∃ x, vs = [x] ∧ r x H1 Q) : wE n X (.UnaryOp op a pos) σ H Q := by
  refine wE_mk fun pins s hn I => UnaryOp_ (thn (wE_run h pins s hn I) fun v s1 z => ?_)
  obtain ⟨x, H1, I1, a1, x', e, q⟩ := z
  cases e
  exact ho pins s1 σ H1 x v Q I1 a1 q

/-! ### whole numbers -/
theorem CallR.or {f : Value} {r r' : List V → Hp → VK → Prop} (h : CallR X f r) (h' : CallR X f r') : CallR X f (fun xs H Q => r xs H Q ∨ r' xs H Q) := fun pins s σ H xs us Q I rs q => q.elim (h pins s σ H xs us Q I rs) (h' pins s σ H xs us Q I rs)
def semInt2 (c : Int → Int → Bool) (g : Int → Int → Int) : List D → Option At
  | [.int i, .int j] => if c i j = true then some (.int (g i j)) else none
  | _ => none
theorem opa_int2 {C : Int → Int → Prop} {c : Int → Int → Bool} {g g' : Int → Int → Int} (hc : ∀ i j, c i j = true → C i j ∧ g' i j = g i j) : OpA K (r2 (rI C fun i j => .int (g' i j))) (semInt2 c g) := by
  intro H vs ds a Q r e q
  unfold semInt2 at e
  split at e
  · split at e
    · rename_i i j hh
      cases e
      obtain ⟨v, w, rfl, h1, h2⟩ := r.two
      cases h1.int_inv; cases h2.int_inv
      obtain ⟨k1, k2⟩ := hc i j hh
      refine ⟨_, _, rfl, i, j, rfl, rfl, k1, ?_⟩
      show Q (V.int (g' i j)) H
      rw [k2]
      exact q trivial
    · cases e
  · cases e
/-- bounded by BIG -/
def isBig (i : Int) : Bool := decide (i.natAbs < BIG)
theorem log2_big {i : Int} (h : isBig i = true) : i.natAbs < 2 ^ 2000000 := of_decide_eq_true h
def semSub : List D → Option At := semInt2 (fun _ _ => true) fun i j => i - j
def semMod : List D → Option At := semInt2 (fun _ j => decide (0 < j)) fun i j => i % j
theorem snd_mod {a b : Expr} {pos : Pos} {f : Env → R (List Opd)} (h : SndL n X [a, b] f) : SndE n X (.BinOp a .Mod b pos) (eA semMod f) :=
  snd_A h (opa_int2 (g' := fun i j => i % j) fun i j hh => ⟨of_decide_eq_true hh, rfl⟩) fun σ H Q => wE_op op_mod σ H Q
def smallDiv (j : Int) : Bool := decide (0 < j) && decide (j.natAbs < 2 ^ 8000)
def semDiv : List D → Option At := semInt2 (fun _ j => smallDiv j) fun i j => i / j
theorem snd_div {a b : Expr} {pos : Pos} {f : Env → R (List Opd)} (h : SndL n X [a, b] f) : SndE n X (.BinOp a .FloorDiv b pos) (eA semDiv f) :=
  snd_A h (opa_int2 (g' := fun i j => i / j) fun i j hh => by
    unfold smallDiv at hh
    rw [Bool.and_eq_true, decide_eq_true_iff, decide_eq_true_iff] at hh
    exact ⟨wide_div hh.1 hh.2 (by decide) (by decide), rfl⟩) fun σ H Q => wE_op op_fdivW σ H Q
def powOk (i j : Int) : Bool := isBig i && (decide (0 ≤ j) && decide (j ≤ 64))
def semPow : List D → Option At := semInt2 powOk fun i j => i ^ j.toNat
abbrev CPowW (i j : Int) : Prop := 0 ≤ j ∧ (Builtin.Int.intBits i : Int) * j ≤ 2 ^ 27
theorem op_powW : OpR X (binaryOp .Pow) (rI CPowW fun i j => .int (i ^ j.toNat)) := opI fun _ _ _ _ _ _ _ hc q => pow_int hc.1 hc.2 q
theorem snd_pow {a b : Expr} {pos : Pos} {f : Env → R (List Opd)} (h : SndL n X [a, b] f) : SndE n X (.BinOp a .Pow b pos) (eA semPow f) :=
  snd_A h (opa_int2 (g' := fun i j => i ^ j.toNat) fun i j hh => by
    unfold powOk at hh
    rw [Bool.and_eq_true, Bool.and_eq_true, decide_eq_true_iff, decide_eq_true_iff] at hh
    have hb : Builtin.Int.intBits i ≤ 2000000 := PySem.intBits_le_iff.mpr (log2_big hh.1)
    refine ⟨⟨hh.2.1, ?_⟩, rfl⟩
    have h1 : (Builtin.Int.intBits i : Int) ≤ 2000000 := by omega
    have h2 : (Builtin.Int.intBits i : Int) * j ≤ 2000000 * 64 := Int.mul_le_mul h1 hh.2.2 hh.2.1 (by decide)
    have h3 : (2000000 : Int) * 64 ≤ 2 ^ 27 := by decide
    omega) fun σ H Q => wE_op op_powW σ H Q
/-- + of an int and a truth value too -/
def semNeg : List D → Option At
  | [.int i] => some (.int (-i))
  | _ => none
theorem snd_neg {a : Expr} {pos : Pos} {f : Env → R (List Opd)} (h : SndL n X [a] f) : SndE n X (.UnaryOp .USub a pos) (eA semNeg f) :=
  snd_A (rd := fun vs H Q => ∃ x, vs = [x] ∧ (rU fun i => .int (-i)) x H Q) h (by
    intro H vs ds a Q r e q
    unfold semNeg at e
    split at e
    · cases e
      obtain ⟨v, rfl, h1⟩ := r.one
      cases h1.int_inv
      exact ⟨_, rfl, _, rfl, q trivial⟩
    · cases e) fun σ H Q => wE_un un_neg σ H Q
end
end PyD
end

section
set_option Elab.async false
set_option linter.all false
set_option maxRecDepth 100000
namespace PyD
variable [Om]
open PySem L2 PySem.Spec PyProof.Rows

/-! ### equality of data without dicts -/
mutual
def deq : D → D → Bool
  | .non, .non => true
  | .bl a, .bl b => a == b
  | .bl a, .int j => (if a then 1 else 0) == j
  | .int i, .bl b => i == (if b then 1 else 0)
  | .int i, .int j => i == j
  | .str a, .str b => a == b
  | .lst xs, .lst ys => deqs xs ys
  | .tup xs, .tup ys => deqs xs ys
  | _, _ => false
def deqs : List D → List D → Bool
  | [], [] => true
  | x :: xs, y :: ys => deq x y && deqs xs ys
  | _, _ => false
end
/-- no dict, not deeper than n -/
def okq : Nat → D → Bool
  | _, .non => true
  | _, .bl _ => true
  | _, .int _ => true
  | _, .str _ => true
  | n + 1, .lst xs => xs.all (okq n)
  | n + 1, .tup xs => xs.all (okq n)
  | _, _ => false
mutual
def toP : D → PyData
  | .non => .none
  | .bl b => .bool b
  | .int i => .int i
  | .str l => .str (sOf l)
  | .lst xs => .list (toPs xs)
  | .tup xs => .tuple (toPs xs)
  | _ => .none
def toPs : List D → List PyData
  | [] => []
  | x :: xs => toP x :: toPs xs
end
theorem sOf_beq (a b : List Nat) : (sOf a == sOf b) = (a == b) := by
  rw [Bool.eq_iff_iff, beq_iff_eq, beq_iff_eq]
  constructor
  · intro h
    have := congrArg (fun x : Str => x.cps.toList) h
    simpa [sOf] using this
  · intro h; rw [h]
mutual
theorem eqv_deq : ∀ (n m : Nat) (d e : D), okq n d = true → okq m e = true → PyData.eqv (toP d) (toP e) = deq d e
  | n, m, .non, e, _, h => by cases e <;> first | (simp [toP, deq, PyData.eqv]; done) | (cases m <;> simp [okq] at h)
  | n, m, .bl b, e, _, h => by cases e <;> first | (simp [toP, deq, PyData.eqv]; done) | (cases m <;> simp [okq] at h)
  | n, m, .int i, e, _, h => by cases e <;> first | (simp [toP, deq, PyData.eqv]; done) | (cases m <;> simp [okq] at h)
  | n, m, .str l, e, _, h => by cases e <;> first | (simp [toP, deq, PyData.eqv, sOf_beq]; done) | (cases m <;> simp [okq] at h)
  | 0, m, .lst xs, e, h, _ => by simp [okq] at h
  | 0, m, .tup xs, e, h, _ => by simp [okq] at h
  | n + 1, m, .lst xs, e, k, h => by
    cases e with
    | lst ys =>
      cases m with
      | zero => simp [okq] at h
      | succ m => simp only [toP, deq, PyData.eqv]; exact eqvs_deqs n m xs ys (by simpa [okq] using k) (by simpa [okq] using h)
    | dic _ => cases m <;> simp [okq] at h
    | set _ => cases m <;> simp [okq] at h
    | _ => simp [toP, deq, PyData.eqv]
  | n + 1, m, .tup xs, e, k, h => by
    cases e with
    | tup ys =>
      cases m with
      | zero => simp [okq] at h
      | succ m => simp only [toP, deq, PyData.eqv]; exact eqvs_deqs n m xs ys (by simpa [okq] using k) (by simpa [okq] using h)
    | dic _ => cases m <;> simp [okq] at h
    | set _ => cases m <;> simp [okq] at h
    | _ => simp [toP, deq, PyData.eqv]
  | n, m, .dic _, e, h, _ => by cases n <;> simp [okq] at h
  | n, m, .set _, e, h, _ => by cases n <;> simp [okq] at h
theorem eqvs_deqs : ∀ (n m : Nat) (xs ys : List D), (∀ d ∈ xs, okq n d = true) → (∀ d ∈ ys, okq m d = true) → PyData.eqvAll (toPs xs) (toPs ys) = deqs xs ys
  | n, m, [], [], _, _ => by simp [toPs, deqs, PyData.eqvAll]
  | n, m, [], y :: ys, _, _ => by simp [toPs, deqs, PyData.eqvAll]
  | n, m, x :: xs, [], _, _ => by simp [toPs, deqs, PyData.eqvAll]
  | n, m, x :: xs, y :: ys, h, k => by
    simp only [toPs, deqs, PyData.eqvAll]
    rw [eqv_deq n m x y (h x List.mem_cons_self) (k y List.mem_cons_self), eqvs_deqs n m xs ys (fun d hd => h d (List.mem_cons_of_mem _ hd)) fun d hd => k d (List.mem_cons_of_mem _ hd)]
end
section
variable {K : PySem.W.Frag} {H : Hp}
mutual
theorem dp_of : ∀ (n : Nat) {v : V} {d : D}, Rep K H v d → okq n d = true → Dp K H v (toP d) ∧ (toP d).canLay0 = true ∧ (toP d).depth ≤ n
  | n, _, _, .non, _ => by simp only [toP]; exact ⟨.non, by simp [PyData.canLay0], by simp [PyData.depth]⟩
  | n, _, _, .bl b, _ => by simp only [toP]; exact ⟨.bl b, by simp [PyData.canLay0], by simp [PyData.depth]⟩
  | n, _, _, .int i, _ => by simp only [toP]; exact ⟨.int i, by simp [PyData.canLay0], by simp [PyData.depth]⟩
  | n, _, _, .str l ok, _ => by
    simp only [toP]
    refine ⟨.str _, ?_, by simp [PyData.depth]⟩
    simp only [PyData.canLay0]
    show (sOf l).cps.all _ = true
    simp only [sOf, List.all_toArray, List.all_eq_true, decide_eq_true_iff]
    intro c hc
    have := ok.2 c hc
    omega
  | 0, _, _, .lst _ _, h => by simp [okq] at h
  | 0, _, _, .tup _ _, h => by simp [okq] at h
  | n + 1, _, _, .lst h r, k => by
    simp only [toP]
    obtain ⟨a, b, c⟩ := dps_of n r (by simpa [okq] using k)
    exact ⟨.lst h a, by simp only [PyData.canLay0]; exact b, by simp only [PyData.depth]; omega⟩
  | n + 1, _, _, .tup h r, k => by
    simp only [toP]
    obtain ⟨a, b, c⟩ := dps_of n r (by simpa [okq] using k)
    exact ⟨.tup h a, by simp only [PyData.canLay0]; exact b, by simp only [PyData.depth]; omega⟩
  | n, _, _, .dic _ _, h => by cases n <;> simp [okq] at h
  | n, _, _, .junk _, h => by cases n <;> simp [okq] at h
  | n, _, _, .x0 _ _, h => by cases n <;> simp [okq] at h
  | n, _, _, .xc _ _, h => by cases n <;> simp [okq] at h
  | n, _, _, .e0 _ _ _, h => by cases n <;> simp [okq] at h
  | n, _, _, .e1 _ _ _ _ _, h => by cases n <;> simp [okq] at h
theorem dps_of : ∀ (n : Nat) {vs : List V} {ds : List D}, Reps K H vs ds → (∀ d ∈ ds, okq n d = true) → DpAll K H vs (toPs ds) ∧ PyData.canLayAll0 (toPs ds) = true ∧ PyData.depthAll (toPs ds) ≤ n
  | n, _, _, .nil, _ => by simp only [toPs]; exact ⟨.nil, by simp [PyData.canLayAll0], by simp [PyData.depthAll]⟩
  | n, _, _, .cons h r, k => by
    simp only [toPs]
    obtain ⟨a, b, c⟩ := dp_of n h (k _ List.mem_cons_self)
    obtain ⟨a', b', c'⟩ := dps_of n r fun d hd => k d (List.mem_cons_of_mem _ hd)
    exact ⟨.cons a a', by simp only [PyData.canLayAll0, b, b', Bool.and_self], by simp only [PyData.depthAll]; omega⟩
end
theorem dp_shaped {v : V} {d : D} (h : Rep K H v d) (k : okq 20 d = true) : Dp K H v (toP d) ∧ SeqAt.shaped (toP d) = true := by
  obtain ⟨a, b, c⟩ := dp_of 20 h k
  refine ⟨a, ?_⟩
  unfold SeqAt.shaped
  rw [b, decide_eq_true (by omega)]
  rfl
end
/-- lists of different lengths are not equal, whatever is in them -/
def semEqE (neg : Bool) : D → D → Option At
  | .lst xs, .lst ys => if xs.length = ys.length then none else some (.bl neg)
  | _, _ => none
def semEq (neg : Bool) : List D → Option At
  | [d, e] => if okq 20 d = true ∧ okq 20 e = true then some (.bl (if neg then !deq d e else deq d e)) else semEqE neg d e
  | _ => none
section
variable {n : Nat} {X : Cx} {K : PySem.W.Frag} {F H : Hp}
def rEqE (K : PySem.W.Frag) (neg : Bool) : R2 := fun x y H Q => ∃ a b xs ys, x = .ref a ∧ y = .ref b ∧ SqL K H a xs ∧ SqL K H b ys ∧ xs.length ≠ ys.length ∧ Q (.bl neg) H
theorem isL_of {h : Heap} {a : Addr} {its : List Value} (p : PlainL h a its.toArray) : h.IsList a its.toArray := by
  obtain ⟨o, m, ho, hc, _, hd⟩ := p
  exact ⟨o, ho, hc, m, hd⟩
theorem op_eqE (hu : X.A.units + 64 < cLine) : OpR X (compareOp .Eq) (rEqE X.K false) := by
  intro pins s σ H x y v u Q I rx ry h
  obtain ⟨a, b, xs, ys, rfl, rfl, h1, h2, ne, q⟩ := h
  obtain rfl : v = Value.ref a := rx
  obtain rfl : u = Value.ref b := ry
  obtain ⟨i1, r1, p1, _⟩ := I.list h1
  obtain ⟨i2, r2, p2, _⟩ := I.list h2
  have e1 := r1.length
  have e2 := r2.length
  exact SeqAt.RcAt.lists_lengths (isL_of p1) (isL_of p2) (by simp; omega) (by omega) _ _ _ _ ⟨.bl _, H, I, rfl, q⟩
theorem op_neE (hu : X.A.units + 64 < cLine) : OpR X (compareOp .NotEq) (rEqE X.K true) := by
  intro pins s σ H x y v u Q I rx ry h
  obtain ⟨a, b, xs, ys, rfl, rfl, h1, h2, ne, q⟩ := h
  obtain rfl : v = Value.ref a := rx
  obtain rfl : u = Value.ref b := ry
  obtain ⟨i1, r1, p1, _⟩ := I.list h1
  obtain ⟨i2, r2, p2, _⟩ := I.list h2
  have e1 := r1.length
  have e2 := r2.length
  exact SeqAt.RcNeAt.lists_lengths (isL_of p1) (isL_of p2) (by simp; omega) (by omega) _ _ _ _ ⟨.bl _, H, I, rfl, q⟩
def rEqX (K : PySem.W.Frag) : R2 := fun x y H Q => rEqD K x y H Q ∨ rEqE K false x y H Q
def rNeX (K : PySem.W.Frag) : R2 := fun x y H Q => rNeD K x y H Q ∨ rEqE K true x y H Q
theorem op_eqX (hu : X.A.units + 64 < cLine) : OpR X (compareOp .Eq) (rEqX X.K) := fun pins s σ H x y v u Q I rx ry h => h.elim (op_eqD hu pins s σ H x y v u Q I rx ry) (op_eqE hu pins s σ H x y v u Q I rx ry)
theorem op_neX (hu : X.A.units + 64 < cLine) : OpR X (compareOp .NotEq) (rNeX X.K) := fun pins s σ H x y v u Q I rx ry h => h.elim (op_neD hu pins s σ H x y v u Q I rx ry) (op_neE hu pins s σ H x y v u Q I rx ry)
theorem semEqE_inv {neg : Bool} {d e : D} {a : At} (h : semEqE neg d e = some a) : ∃ xs ys, d = .lst xs ∧ e = .lst ys ∧ xs.length ≠ ys.length ∧ a = .bl neg := by
  unfold semEqE at h
  split at h
  · split at h
    · cases h
    · rename_i ne
      cases h
      exact ⟨_, _, rfl, rfl, ne, rfl⟩
  · cases h
theorem opa_eq : OpA K (r2 (rEqX K)) (semEq false) := by
  intro H vs ds a Q r e q
  unfold semEq at e
  split at e
  · split at e
    · rename_i d e' hh
      cases e
      obtain ⟨v, w, rfl, h1, h2⟩ := r.two
      obtain ⟨k1, s1⟩ := dp_shaped h1 hh.1
      obtain ⟨k2, s2⟩ := dp_shaped h2 hh.2
      refine ⟨_, _, rfl, .inl ⟨_, _, k1, k2, s1, s2, ?_⟩⟩
      rw [eqv_deq 20 20 _ _ hh.1 hh.2]
      exact q trivial
    · obtain ⟨xs, ys, rfl, rfl, ne, rfl⟩ := semEqE_inv e
      obtain ⟨v, w, rfl, h1, h2⟩ := r.two
      obtain ⟨_, us, rfl, s1, q1⟩ := h1.lst_inv
      obtain ⟨_, ws, rfl, s2, q2⟩ := h2.lst_inv
      exact ⟨_, _, rfl, .inr ⟨_, _, _, _, rfl, rfl, s1, s2, by rw [q1.length, q2.length]; exact ne, q trivial⟩⟩
  · cases e
theorem opa_ne : OpA K (r2 (rNeX K)) (semEq true) := by
  intro H vs ds a Q r e q
  unfold semEq at e
  split at e
  · split at e
    · rename_i d e' hh
      cases e
      obtain ⟨v, w, rfl, h1, h2⟩ := r.two
      obtain ⟨k1, s1⟩ := dp_shaped h1 hh.1
      obtain ⟨k2, s2⟩ := dp_shaped h2 hh.2
      refine ⟨_, _, rfl, .inl ⟨_, _, k1, k2, s1, s2, ?_⟩⟩
      rw [eqv_deq 20 20 _ _ hh.1 hh.2]
      exact q trivial
    · obtain ⟨xs, ys, rfl, rfl, ne, rfl⟩ := semEqE_inv e
      obtain ⟨v, w, rfl, h1, h2⟩ := r.two
      obtain ⟨_, us, rfl, s1, q1⟩ := h1.lst_inv
      obtain ⟨_, ws, rfl, s2, q2⟩ := h2.lst_inv
      exact ⟨_, _, rfl, .inr ⟨_, _, _, _, rfl, rfl, s1, s2, by rw [q1.length, q2.length]; exact ne, q trivial⟩⟩
  · cases e
theorem snd_eq {a b : Expr} {pos : Pos} {f : Env → R (List Opd)} {k : Nat} (hr : Room k X.A) (h : SndL n X [a, b] f) : SndE n X (.Compare a [.Eq] [b] pos) (eA (semEq false) f) :=
  snd_A h opa_eq fun σ H Q => wE_cmp (op_eqX hr.units) (nomark b) σ H Q
theorem snd_tne {a b : Expr} {pos : Pos} {f : Env → R (List Opd)} {k : Nat} (hr : Room k X.A) (h : SndL n X [a, b] f) : SndT n X (.Compare a [.NotEq] [b] pos) (tBool (eA (semEq true) f)) :=
  snd_tcmp h opa_ne (op_neX hr.units) (nomark b)

/-! ### order -/
def ordD (p : Int → Int → Bool) (s : List Nat → List Nat → Bool) : List D → Option At
  | [.int i, .int j] => some (.bl (p i j))
  | [.str a, .str b] => some (.bl (s a b))
  | _ => none
abbrev rOrd (p : Int → Int → Bool) (s : List Nat → List Nat → Bool) : R2 := fun x y H Q => rI0 (fun i j => .bl (p i j)) x y H Q ∨ ∃ i j : Str, x = .str i ∧ y = .str j ∧ Q (.bl (s i.cps.toList j.cps.toList)) H
theorem opa_ord {p : Int → Int → Bool} {s : List Nat → List Nat → Bool} : OpA K (r2 (rOrd p s)) (ordD p s) := by
  intro H vs ds a Q r e q
  unfold ordD at e
  split at e
  · cases e
    obtain ⟨v, w, rfl, h1, h2⟩ := r.two
    cases h1.int_inv; cases h2.int_inv
    exact ⟨_, _, rfl, .inl ⟨_, _, rfl, rfl, q trivial⟩⟩
  · rename_i a b
    cases e
    obtain ⟨v, w, rfl, h1, h2⟩ := r.two
    obtain ⟨rfl, _⟩ := h1.str_inv
    obtain ⟨rfl, _⟩ := h2.str_inv
    refine ⟨_, _, rfl, .inr ⟨_, _, rfl, rfl, ?_⟩⟩
    rw [toList_sOf, toList_sOf]
    exact q trivial
  · cases e
def sltB (a b : List Nat) : Bool := decide (a < b)
def semLt := ordD (fun i j => decide (i < j)) sltB
def semLe := ordD (fun i j => decide (i ≤ j)) fun a b => !sltB b a
def semGt := ordD (fun i j => decide (j < i)) fun a b => sltB b a
def semGe := ordD (fun i j => decide (j ≤ i)) fun a b => !sltB a b
theorem op_ltO : OpR X (compareOp .Lt) (rOrd (fun i j => decide (i < j)) sltB) := OpR.or op_lt op_lt_str
theorem op_geO : OpR X (compareOp .GtE) (rOrd (fun i j => decide (j ≤ i)) fun a b => !sltB a b) := OpR.or op_ge op_ge_str
theorem snd_tord {op : CmpOp} {p : Int → Int → Bool} {s : List Nat → List Nat → Bool} (ho : OpR X (compareOp op) (rOrd p s)) (hm : ∀ b, behindInMarks op b = false) {a b : Expr} {pos : Pos} {f : Env → R (List Opd)} (h : SndL n X [a, b] f) :
    SndT n X (.Compare a [op] [b] pos) (tBool (eA (ordD p s) f)) := snd_tcmp h opa_ord ho (hm b)
/-! ### is None -/
/-! ### built-in calls on numbers -/
def semAbs : List D → Option At
  | [.int i] => some (.int (if i < 0 then -i else i))
  | _ => none
def semMax2 : List D → Option At
  | [.int i, .int j] => some (.int (if j > i then j else i))
  | _ => none
def semMin2 : List D → Option At
  | [.int i, .int j] => some (.int (if j < i then j else i))
  | _ => none
def semInt : List D → Option At
  | [.int i] => some (.int i)
  | [.bl k] => some (.int (if k then 1 else 0))
  | _ => none
theorem opa_int : OpA K (fun xs H Q => (∃ i, xs = [.int i] ∧ Q (.int i) H) ∨ ∃ k, xs = [.bl k] ∧ Q (.int (if k then 1 else 0)) H) semInt := by
  intro H vs ds a Q r e q
  unfold semInt at e
  split at e
  · cases e
    obtain ⟨v, rfl, h1⟩ := r.one
    cases h1.int_inv
    exact .inl ⟨_, rfl, q trivial⟩
  · cases e
    obtain ⟨v, rfl, h1⟩ := r.one
    cases h1.bl_inv
    exact .inr ⟨_, rfl, q trivial⟩
  · cases e
/-- a built-in function of the language, called by its name -/
structure BuiltinAt (X : Cx) (x : Str) (u : Value) : Prop where
  gl : Gl X x
  mg : X.mg x = none
  bt : bootBuiltins x = some u
  nn : x ≠ "__name__"
  db : (x == ("__debug__" : Str)) = false
theorem snd_bA {id : String} {x : Str} {e : Expr} {es : List Expr} {p pos : Pos} {f : Env → R (List Opd)} {rd : List V → Hp → VK → Prop} {sem : List D → Option At} (B : BuiltinAt X x (.builtin id)) (hc : CallR X (.builtin id) rd) (hop : OpA X.K rd sem) (h : SndL n X (e :: es) f) (pl : Plain X (e :: es))
    (hpl : (backTo pos (starEach es X.env)).any (·.1) = false := by rfl) : SndE n X (.Call (.Name x p) (e :: es) [] pos) (eA sem f) := snd_A h hop fun σ H Q => wE_callB hc B.gl B.mg B.bt pl B.nn B.db hpl σ H Q
theorem snd_tyA {T : String} {x : Str} {e : Expr} {es : List Expr} {p pos : Pos} {f : Env → R (List Opd)} {rd : List V → Hp → VK → Prop} {sem : List D → Option At} (B : BuiltinAt X x (.type T)) (hc : CallR X (.type T) rd) (hop : OpA X.K rd sem) (h : SndL n X (e :: es) f) (pl : Plain X (e :: es))
    (hpl : (backTo pos (starEach es X.env)).any (·.1) = false := by rfl) : SndE n X (.Call (.Name x p) (e :: es) [] pos) (eA sem f) := snd_A h hop fun σ H Q => wE_callTy hc B.gl B.mg B.bt pl B.nn B.db hpl σ H Q
end
end PyD
end

section
set_option Elab.async false
set_option linter.all false
set_option maxRecDepth 100000
namespace PyD
variable [Om]
open PySem L2 PySem.Spec PyProof.Rows
section
variable {n : Nat} {X : Cx} {K : PySem.W.Frag} {F H : Hp}
/-! ### len -/
def semLen : List D → Option At
  | [.str l] => some (.int l.length)
  | [.lst l] => some (.int l.length)
  | [.tup l] => some (.int l.length)
  | [.dic l] => some (.int l.length)
  | _ => none
def rLenAll (K : PySem.W.Frag) : List V → Hp → VK → Prop := fun xs H Q => (∃ x n, xs = [x] ∧ LenV K x H n ∧ Q (.int n) H) ∨ ∃ d kvs, xs = [.ref d] ∧ Rd H d (.dK kvs) ∧ Q (.int kvs.length) H
theorem RepK.length : ∀ {kvs : List (Key × V)} {es : List (D × D)}, RepK K F kvs es → kvs.length = es.length
  | _, _, .nil => rfl
  | _, _, .cons _ _ r => by simp [RepK.length r]
theorem opa_len : OpA K (rLenAll K) semLen := by
  intro H vs ds a Q r e q
  unfold semLen at e
  split at e
  · rename_i l
    cases e
    obtain ⟨v, rfl, h1⟩ := r.one
    obtain ⟨rfl, ok⟩ := h1.str_inv
    exact .inl ⟨_, _, rfl, ⟨by rw [length_sOf]; exact ok.1, rfl⟩, by rw [length_sOf]; exact q trivial⟩
  · cases e
    obtain ⟨v, rfl, h1⟩ := r.one
    obtain ⟨a, us, rfl, g, k⟩ := h1.lst_inv
    exact .inl ⟨_, _, rfl, .inl ⟨us, g, rfl⟩, by rw [k.length]; exact q trivial⟩
  · cases e
    obtain ⟨v, rfl, h1⟩ := r.one
    obtain ⟨a, us, rfl, g, k⟩ := h1.tup_inv
    exact .inl ⟨_, _, rfl, .inr ⟨us, g, rfl⟩, by rw [k.length]; exact q trivial⟩
  · cases e
    obtain ⟨v, rfl, h1⟩ := r.one
    obtain ⟨a, us, rfl, g, k⟩ := h1.dic_inv
    exact .inr ⟨_, _, rfl, g, by rw [k.length]; exact q trivial⟩
  · cases e
theorem call_lenD' : CallR X (.builtin "len") (fun xs H Q => ∃ d kvs, xs = [.ref d] ∧ Rd H d (.dK kvs) ∧ Q (.int kvs.length) H) := by
  intro pins s σ H xs us Q I r h
  obtain ⟨d, kvs, rfl, hd, q⟩ := h
  obtain ⟨u, rfl, ru⟩ := vals1 r
  cases ru
  exact d_len I hd fun t s' I' => ⟨.int kvs.length, H, I', ⟨t, rfl⟩, q⟩
theorem op_lenAll : CallR X (.builtin "len") (rLenAll X.K) := CallR.or call_len call_lenD'
/-! ### dicts: keys that are ints and texts -/
def kEq : D → D → Bool
  | .int i, .int j => i == j
  | .str a, .str b => a == b
  | _, _ => false
def isKey : D → Bool
  | .int _ => true
  | .str _ => true
  | _ => false
def dget {α : Type} : List (D × α) → D → Option α
  | [], _ => none
  | (e, d) :: r, k => if kEq e k = true then some d else dget r k
def dput {α : Type} : List (D × α) → D → α → List (D × α)
  | [], k, v => [(k, v)]
  | (e, d) :: r, k, v => if kEq e k = true then (e, v) :: r else (e, d) :: dput r k v
theorem kEq_iff {k k' : Key} {e e' : D} (h : KeyD k e) (h' : KeyD k' e') : kEq e e' = decide (k = k') := by
  cases k with
  | inl i =>
    cases k' with
    | inl j => cases h; cases h'; simp [kEq]; rw [Bool.eq_iff_iff]; simp
    | inr y => cases h; cases h'.1; simp [kEq]
  | inr x =>
    cases k' with
    | inl j => cases h.1; cases h'; simp [kEq]
    | inr y =>
      cases h.1; cases h'.1
      simp only [kEq]
      rw [Bool.eq_iff_iff, beq_iff_eq, decide_eq_true_iff]
      constructor
      · intro z
        have : x = y := by rw [← sOf_toList x, ← sOf_toList y, z]
        rw [this]
      · intro z; cases z; rfl
theorem KeyD.kV {k : Key} {e : D} (h : KeyD k e) : Rep K F (kV k) e := by
  cases k with
  | inl i => cases h; exact .int i
  | inr x =>
    obtain ⟨rfl, s⟩ := h
    have := Rep.str (K := K) (F := F) x.cps.toList s
    rw [sOf_toList] at this
    exact this
theorem key_of_rep {v : V} {d : D} (h : Rep K F v d) (k : isKey d = true) : ∃ y : Key, v = L2.kV y ∧ KeyD y d := by
  cases h with
  | int i => exact ⟨.inl i, rfl, rfl⟩
  | str l hl => exact ⟨.inr (sOf l), rfl, by show D.str l = .str (sOf l).cps.toList; rw [toList_sOf], by rw [toList_sOf]; exact hl⟩
  | _ => simp [isKey] at k
theorem repK_get : ∀ {kvs : List (Key × V)} {es : List (D × D)} {k : Key} {e : D}, RepK K F kvs es → KeyD k e → (∀ d, dget es e = some d → ∃ v, valV kvs k = some v ∧ Rep K F v d) ∧ (dget es e = none → valV kvs k = none)
  | [], [], k, e, .nil, _ => ⟨fun d h => by simp [dget] at h, fun _ => rfl⟩
  | (k0, v0) :: r, (e0, d0) :: s, k, e, .cons h0 hv h, he => by
    have q := kEq_iff h0 he
    obtain ⟨i1, i2⟩ := repK_get h he
    by_cases hk : k0 = k
    · have q1 : kEq e0 e = true := by rw [q]; exact decide_eq_true hk
      rw [dget, if_pos q1, valV_pos (p := (k0, v0)) hk]
      exact ⟨fun d z => by cases z; exact ⟨v0, rfl, hv⟩, fun z => by cases z⟩
    · have q1 : ¬ kEq e0 e = true := by rw [q]; simpa using hk
      rw [dget, if_neg q1, valV_neg (p := (k0, v0)) hk]
      exact ⟨i1, i2⟩
/-! ### x[i] -/
def semIx : List D → Option O
  | [.lst xs, .int i] => (atI xs i).map .fz
  | [.tup xs, .int i] => (atI xs i).map .fz
  | [.str l, .int i] => (atI l i).map fun c => .fz (.str [c])
  | [.dic es, k] => if isKey k = true then (dget es k).map .fz else none
  | _ => none
def rDic : R2 := fun x y H Q => ∃ a v, x = .ref a ∧ DGet H a y (some v) ∧ Q v H
theorem ix_dic (hu : X.A.units + 1 < cLine) : IxR X rDic := by
  intro value slice pins s σ H x y v u Q I rx ry h hs
  obtain ⟨a, w, rfl, g, q⟩ := h
  obtain rfl : v = Value.ref a := rx
  have hT := dict_typeIs I g
  exact tail_any hT PySem.F.slot_dict_getitem.lookup (d_getItem hu I g ry fun w' s3 I3 rw' => ⟨w, H, I3, rw', q⟩) hs
abbrev rIxAll (K : PySem.W.Frag) : R2 := fun x y H Q => rIx K x y H Q ∨ rDic x y H Q
theorem reps_at {vs : List V} {ds : List D} {i : Int} {d : D} (r : Reps K F vs ds) (h : atI ds i = some d) : ∃ v, atI vs i = some v ∧ Rep K F v d := by
  unfold atI at h ⊢
  rw [r.length]
  cases e : ixN ds.length i with
  | none => rw [e] at h; cases h
  | some j =>
    rw [e] at h
    exact r.get' (i := j) h
theorem opb_ix : OpB K (r2 (rIxAll K)) semIx := by
  intro F H vs ds o Q s sh e q
  unfold semIx at e
  split at e
  · rw [Option.map_eq_some_iff] at e
    obtain ⟨d, hd, rfl⟩ := e
    obtain ⟨x, y, rfl, h1, h2⟩ := sh.two
    cases h2.int_inv
    obtain ⟨a, us, rfl, g, k⟩ := h1.lst_inv s
    obtain ⟨v, hv, rv⟩ := reps_at k hd
    exact ⟨_, _, rfl, .inl (.inl ⟨a, us, _, v, rfl, rfl, g, hv, old_val s rv q⟩)⟩
  · rw [Option.map_eq_some_iff] at e
    obtain ⟨d, hd, rfl⟩ := e
    obtain ⟨x, y, rfl, h1, h2⟩ := sh.two
    cases h2.int_inv
    obtain ⟨a, us, rfl, g, k⟩ := h1.tup_inv s
    obtain ⟨v, hv, rv⟩ := reps_at k hd
    exact ⟨_, _, rfl, .inl (.inr (.inl ⟨a, us, _, v, rfl, rfl, g, hv, old_val s rv q⟩))⟩
  · rw [Option.map_eq_some_iff] at e
    obtain ⟨c, hc, rfl⟩ := e
    obtain ⟨x, y, rfl, h1, h2⟩ := sh.two
    cases h2.int_inv
    obtain ⟨rfl, ok⟩ := h1.str_inv
    have cm : c < 128 := by
      obtain ⟨j, _, hj, _⟩ := atI_get hc
      exact ok.2 c (List.mem_of_getElem? hj)
    refine ⟨_, _, rfl, .inl (.inr (.inr ⟨_, _, c, rfl, rfl, by rw [length_sOf]; exact ok.1, by rw [toList_sOf]; exact hc, ?_⟩))⟩
    exact old_val s (.str [c] ⟨(by show 1 ≤ sizeLine; decide), fun x m => by simp at m; subst m; exact cm⟩) q
  · split at e
    · rename_i es k hk
      rw [Option.map_eq_some_iff] at e
      obtain ⟨d, hd, rfl⟩ := e
      obtain ⟨x, y, rfl, h1, h2⟩ := sh.two
      obtain ⟨a, kvs, rfl, g, r⟩ := h1.dic_inv s
      obtain ⟨ky, rfl, hky⟩ := key_of_rep (h2.rep s) hk
      obtain ⟨v, hv, rv⟩ := (repK_get r hky).1 d hd
      exact ⟨_, _, rfl, .inr ⟨a, v, rfl, .inl ⟨kvs, ky, g, rfl, hv.symm⟩, old_val s rv q⟩⟩
    · cases e
  · cases e
theorem snd_ix {a b : Expr} {pos : Pos} {f : Env → R (List Opd)} {k : Nat} (hr : Room k X.A) (h : SndL n X [a, b] f) (hs : PlainIx b := by exact fun _ _ => rfl) : SndE n X (.Subscript a b pos) (eB semIx f) :=
  snd_B h opb_ix fun σ H Q => wE_ix (IxR.or ix_seq (ix_dic (by have := hr.un; omega))) hs σ H Q
/-! ### x[a:b] -/
def cutL {α : Type} (xs : List α) (lo hi : Option Int) : List α := (xs.drop (HT.sIx xs.length 0 lo)).take (HT.sIx xs.length xs.length hi - HT.sIx xs.length 0 lo)
theorem cutL_len {α : Type} (xs : List α) (lo hi : Option Int) : (cutL xs lo hi).length ≤ xs.length := by
  unfold cutL
  rw [List.length_take, List.length_drop]
  omega
theorem reps_cut {vs : List V} {ds : List D} (r : Reps K F vs ds) (lo hi : Option Int) : Reps K F (cutL vs lo hi) (cutL ds lo hi) := by
  have drop : ∀ (n : Nat) {vs : List V} {ds : List D}, Reps K F vs ds → Reps K F (vs.drop n) (ds.drop n) := by
    intro n
    induction n with
    | zero => exact fun r => r
    | succ n ih =>
      intro vs ds r
      cases r with
      | nil => exact .nil
      | cons a b => exact ih b
  have take : ∀ (n : Nat) {vs : List V} {ds : List D}, Reps K F vs ds → Reps K F (vs.take n) (ds.take n) := by
    intro n
    induction n with
    | zero => exact fun _ => .nil
    | succ n ih =>
      intro vs ds r
      cases r with
      | nil => exact .nil
      | cons a b => exact .cons a (ih b)
  unfold cutL
  rw [r.length]
  exact take _ (drop _ r)
def sliceD (lo hi : Option Int) : D → Option O
  | .lst xs => some (.lst ((cutL xs lo hi).map .fz))
  | .str l => some (.fz (.str (cutL l lo hi)))
  | .tup xs => if HT.sIx xs.length 0 lo = 0 ∧ HT.sIx xs.length xs.length hi = xs.length then some (.fz (.tup xs)) else some (.tup ((cutL xs lo hi).map .fz))
  | _ => none
abbrev rSlAll (K : PySem.W.Frag) : V → Option Int → Option Int → Hp → VK → Prop := fun x lo hi H Q => rSlL K x lo hi H Q ∨ rSlS x lo hi H Q ∨ rSlT K x lo hi H Q
theorem sl_all : SlR X (rSlAll X.K) := SlR.or sl_list (SlR.or sl_str sl_tup)
theorem cutS_eq (l : List Nat) (lo hi : Option Int) : cutS (sOf l) lo hi = sOf (cutL l lo hi) := by
  unfold cutS cutL sOf
  simp [Str.length]
theorem okS_cut {l : List Nat} (h : okS l) (lo hi : Option Int) : okS (cutL l lo hi) :=
  ⟨Nat.le_trans (cutL_len l lo hi) h.1, fun c m => h.2 c (List.mem_of_mem_drop (List.mem_of_mem_take m))⟩
theorem sl_post {d : D} {o : O} {lo hi : Option Int} {v : V} {Q : VK} (s : Ex F H) (h1 : Shal K F H v d) (e : sliceD lo hi d = some o) (nt : ∀ xs, d = .tup xs → ¬ (HT.sIx xs.length 0 lo = 0 ∧ HT.sIx xs.length xs.length hi = xs.length))
    (q : ∀ v F' H' T, Trans F H [] F' H' T → Own K F' H' v o T → Ex F' H' → T.Nodup → (∀ a ∈ T, F' a = none) → Q v H') : rSlAll K v lo hi H Q := by
  unfold sliceD at e
  split at e
  · rename_i xs
    cases e
    obtain ⟨a, us, rfl, g, k⟩ := h1.lst_inv s
    exact .inl ⟨a, us, rfl, g, fun p hp => new_lst s (reps_cut k lo hi) hp q⟩
  · rename_i l
    cases e
    obtain ⟨rfl, ok⟩ := h1.str_inv
    refine .inr (.inl ⟨_, rfl, by rw [length_sOf]; exact ok.1, ?_⟩)
    rw [cutS_eq]
    exact old_val s (.str _ (okS_cut ok lo hi)) q
  · rename_i xs
    rw [if_neg (nt xs rfl)] at e
    cases e
    obtain ⟨a, us, rfl, g, k⟩ := h1.tup_inv s
    exact .inr (.inr ⟨a, us, rfl, g, by rw [k.length]; exact nt xs rfl, fun p hp => new_tup s (reps_cut k lo hi) hp q⟩)
  · cases e
def tupCut (lo hi : Option Int) : D → Bool
  | .tup xs => !(decide (HT.sIx xs.length 0 lo = 0) && decide (HT.sIx xs.length xs.length hi = xs.length))
  | _ => true
theorem tupCut_ok {lo hi : Option Int} {d : D} (h : tupCut lo hi d = true) : ∀ xs, d = .tup xs → ¬ (HT.sIx xs.length 0 lo = 0 ∧ HT.sIx xs.length xs.length hi = xs.length) := fun xs e => by
  subst e
  intro z
  simp [tupCut, z.1, z.2] at h
def semSlSN : List D → Option O
  | [d, .int i] => if tupCut (some i) none d = true then sliceD (some i) none d else none
  | _ => none
def semSlNS : List D → Option O
  | [d, .int j] => if tupCut none (some j) d = true then sliceD none (some j) d else none
  | _ => none
def semSlSS : List D → Option O
  | [d, .int i, .int j] => if tupCut (some i) (some j) d = true then sliceD (some i) (some j) d else none
  | _ => none
/-- a bound of a slice -/
def wO (n : Nat) (X : Cx) (e : Option Expr) (σ : L2.St) (H : Hp) (Q : Option Int → Hp → Prop) : Prop := match e with
  | none => Q none H
  | some a => wE n X a σ H fun x H1 => ∃ i, x = .int i ∧ Q (some i) H1
theorem wO_run {e : Option Expr} {σ : L2.St} {H : Hp} {Q : Option Int → Hp → Prop} (h : wO n X e σ H Q) {pins : List (Addr × Obj)} {s : Shared} (hn : n ≤ s.toks) (I : Inv X pins σ H s) :
    wpAny (model X.prog X.w) X.A (evalPart e X.env) (fun u s' => ∃ o H', Inv X pins σ H' s' ∧ IsPart u o ∧ Q o H') X.xe s := by
  cases e with
  | none =>
    rw [evalPart_none]
    exact wpAny_pure ⟨none, H, I, .none, h⟩
  | some a =>
    rw [evalPart_some]
    refine thn (wE_run h pins s hn I) fun u s1 z => ?_
    obtain ⟨x, H1, I1, r1, i, e1, q⟩ := z
    subst e1
    obtain ⟨t, e2⟩ := r1
    subst e2
    exact ⟨some i, H1, I1, .int i t, q⟩
theorem wE_slice {r : V → Option Int → Option Int → Hp → VK → Prop} {e : Expr} {lo hi : Option Expr} {p2 pos : Pos} {σ : L2.St} {H : Hp} {Q : VK} (hr : SlR X r)
    (h : wE n X e σ H fun x H1 => wO n X lo σ H1 fun l H2 => wO n X hi σ H2 fun u H3 => r x l u H3 Q) : wE n X (.Subscript e (.Slice lo hi none p2) pos) σ H Q := wE_mk fun pins s hn I => by
  refine Subscript_ (thn' hn (wE_run h pins s hn I) fun v s1 n1 z => ?_)
  obtain ⟨x, H1, I1, r1, q1⟩ := z
  refine wpAny_Slice (thn' n1 (wO_run q1 n1 I1) fun vl s2 n2 z2 => ?_)
  obtain ⟨l, H2, I2, pl, q2⟩ := z2
  refine thn (wO_run q2 n2 I2) fun vu s3 z3 => ?_
  obtain ⟨u, H3, I3, pu, q3⟩ := z3
  rw [evalPart_none]
  refine wpAny_pure ?_
  have I4 : Inv X pins σ H3 { s3 with heap := s3.heap.push { cls := .type "slice", data := .fields #[vl, vu, .none] } } := I3.kept (t' := s3.toks) fun b ob w => Heap.get?_push_of_some _ w
  obtain ⟨T, id, hT, ht, hg⟩ := hr pins _ σ H3 x v vl vu l u s3.heap.objs.size Q I4 r1 (Heap.IsSliceOf.new ..) pl pu q3
  show wpAny (model X.prog X.w) X.A (subscriptTail e (.Slice lo hi none p2) v (.ref s3.heap.objs.size)) _ X.xe _
  exact tail_any (ops := [.ref s3.heap.objs.size, v]) ht hT hg (by with_unfolding_all rfl)
theorem snd_slNS {a b : Expr} {p2 pos : Pos} {f : Env → R (List Opd)} (h : SndL n X [a, b] f) : SndE n X (.Subscript a (.Slice none (some b) none p2) pos) (eB semSlNS f) :=
  snd_B (rd := fun vs H Q => ∃ x i, vs = [x, .int i] ∧ rSlAll X.K x none (some i) H Q) h (by
    intro F H vs ds o Q s sh e q
    unfold semSlNS at e
    split at e
    · split at e
      · rename_i d i ht
        obtain ⟨x, y, rfl, h1, h2⟩ := sh.two
        cases h2.int_inv
        exact ⟨_, _, rfl, sl_post s h1 e (tupCut_ok ht) q⟩
      · cases e
    · cases e) fun σ H Q hw => by
      refine wE_slice sl_all (wE_mono hw fun x H1 h1 => wE_mono h1 fun y H2 h2 => ?_)
      obtain ⟨x', i, e, q⟩ := h2
      cases e
      exact ⟨i, rfl, q⟩
end
end PyD
end

section
set_option Elab.async false
set_option linter.all false
set_option maxRecDepth 100000
namespace PyD
variable [Om]
open PySem L2 PySem.Spec PyProof.Rows
section
variable {n : Nat} {X : Cx} {K : PySem.W.Frag} {F H : Hp} {σ : L2.St}
/-- a slot's own cell at l is written -/
theorem stt_mut {env : Env} {S T : List Addr} {vs : List V} {os : List O} {i : Nat} {l : Addr} {o o' : O} {u : HO} {fp fp' S0 : List Addr} (s : Sta K F H σ env S vs os T) (hv : σ[i]? = some (some (.ref l))) (pm : ((l :: fp) ++ S0).Perm S) (sl : Slots K F H σ (env.set i none) S0) (hi : i < env.length)
    (ow : Own K F (upd H l u) (.ref l) o' fp') (sub : ∀ a ∈ fp', a ∈ (l :: fp) ++ T) (nd' : fp'.Nodup) :
    ∃ S', Trans F H (T ++ S) F (upd H l u) S' ∧ Stt K F (upd H l u) σ (env.set i (some o')) S' := by
  have nd : ((l :: fp) ++ S0).Nodup := pm.nodup_iff.mpr s.st.nd
  have ndd := List.nodup_append.mp nd
  have lS : l ∈ S := pm.mem_iff.mp (List.mem_append_left _ List.mem_cons_self)
  have lF : F l = none := s.st.sep l lS
  have ne : ∀ a ∈ S0, a ≠ l := fun a m e => ndd.2.2 l List.mem_cons_self a m e.symm
  have sl2 : Slots K F (upd H l u) σ (env.set i none) S0 := sl.keep (Ex.refl _) fun a m w e => by rw [upd_ne (ne a m)]; exact e
  obtain ⟨S', h1, h2⟩ := sl2.putBack (i := i) (by rw [List.getElem?_set_self hi]) hv ow
  have mem : ∀ a ∈ S', a ∈ T ++ S := fun a m => by
    rcases List.mem_append.mp (h2.mem_iff.mp m) with n | n
    · rcases List.mem_append.mp (sub a n) with n | n
      · exact List.mem_append_right _ (pm.mem_iff.mp (List.mem_append_left _ n))
      · exact List.mem_append_left _ n
    · exact List.mem_append_right _ (pm.mem_iff.mp (List.mem_append_right _ n))
  refine ⟨S', ⟨fun a w e n => ?_, Ex.refl _, fun a w e => .inl ⟨w, e⟩, fun a m => .inl (mem a m), fun a e => ?_⟩, by simpa using h1, fun a w e => ?_, h2.nodup_iff.mpr (List.nodup_append.mpr ⟨nd', ndd.2.1, fun a m b n z => ?_⟩), fun a m => ?_⟩
  · rw [upd_ne fun z => n (by rw [z]; exact List.mem_append_right _ lS)]; exact e
  · by_cases z : a = l
    · subst z; rw [upd_same] at e; cases e
    · rw [upd_ne z] at e; exact e
  · rw [upd_ne fun z => by rw [z, lF] at e; cases e]
    exact s.st.sub a w e
  · subst z
    rcases List.mem_append.mp (sub a m) with k | k
    · exact ndd.2.2 a k a n rfl
    · exact s.as.ns a k (pm.mem_iff.mp (List.mem_append_right _ n))
  · rcases List.mem_append.mp (mem a m) with n | n
    · exact s.as.nf a n
    · exact s.st.sep a n
theorem Slots.takeL {env : Env} {S : List Addr} {i : Nat} {os : List O} (h : Slots K F H σ env S) (e : env[i]? = some (some (.lst os))) :
    ∃ l vs fp S0, σ[i]? = some (some (.ref l)) ∧ H l = some (.lst vs) ∧ Owns K F H vs os fp ∧ ((l :: fp) ++ S0).Perm S ∧ Slots K F H σ (env.set i none) S0 := by
  obtain ⟨v, fp, S0, h1, ow, pm, sl⟩ := h.take e
  cases ow with
  | lst a b => exact ⟨_, _, _, S0, h1, a, b, pm, sl⟩
theorem Slots.takeD {env : Env} {S : List Addr} {i : Nat} {os : List (D × O)} (h : Slots K F H σ env S) (e : env[i]? = some (some (.dic os))) :
    ∃ l kvs fp S0, σ[i]? = some (some (.ref l)) ∧ H l = some (.dK kvs) ∧ (kvs.map (·.1)).Nodup ∧ OwnK K F H kvs os fp ∧ ((l :: fp) ++ S0).Perm S ∧ Slots K F H σ (env.set i none) S0 := by
  obtain ⟨v, fp, S0, h1, ow, pm, sl⟩ := h.take e
  cases ow with
  | dic a n b => exact ⟨_, _, _, S0, h1, a, n, b, pm, sl⟩
theorem Owns.append : ∀ {vs ws : List V} {os ps : List O} {fp fq : List Addr}, Owns K F H vs os fp → Owns K F H ws ps fq → Owns K F H (vs ++ ws) (os ++ ps) (fp ++ fq)
  | _, _, _, _, _, _, .nil, s => s
  | _, _, _, _, _, _, .cons a b, s => by rw [List.append_assoc]; exact .cons a (Owns.append b s)
/-- an item exchanged -/
theorem Owns.set : ∀ {vs : List V} {os : List O} {fp : List Addr} (n : Nat) {v : V} {o : O} {T : List Addr}, Owns K F H vs os fp → Own K F H v o T → (fp ++ T).Nodup → ∃ fp', Owns K F H (vs.set n v) (os.set n o) fp' ∧ (∀ a ∈ fp', a ∈ fp ++ T) ∧ fp'.Nodup
  | _, _, _, n, _, _, T, .nil, _, nd => ⟨[], by simpa using Owns.nil, ⟨fun a m => (nomatch m), List.nodup_nil⟩⟩
  | _, _, _, 0, v, o, T, .cons (fp := fp) (fq := fq) a b, q, nd => by
    have n1 : (fq ++ T).Nodup := nd.sublist (by rw [List.append_assoc]; exact List.sublist_append_right _ _)
    refine ⟨T ++ fq, .cons q b, fun x m => ?_, ?_⟩
    · rcases List.mem_append.mp m with m | m
      · exact List.mem_append_right _ m
      · exact List.mem_append_left _ (List.mem_append_right _ m)
    · exact (List.perm_append_comm).nodup_iff.mpr n1
  | _, _, _, n + 1, v, o, T, .cons (fp := fp) (fq := fq) a b, q, nd => by
    have n1 : (fq ++ T).Nodup := nd.sublist (by rw [List.append_assoc]; exact List.sublist_append_right _ _)
    obtain ⟨fp', h1, h2, h3⟩ := Owns.set n b q n1
    have nd' : (fp ++ (fq ++ T)).Nodup := by rw [← List.append_assoc]; exact nd
    have d := List.nodup_append.mp nd'
    refine ⟨fp ++ fp', .cons a h1, fun x m => ?_, List.nodup_append.mpr ⟨d.1, h3, fun x m y k z => d.2.2 x m y (h2 y k) z⟩⟩
    rw [List.append_assoc]
    rcases List.mem_append.mp m with m | m
    · exact List.mem_append_left _ m
    · exact List.mem_append_right _ (h2 x m)

/-! ### o.m(e, ..), m of a built-in type -/
/-! ### x.append(e), x.extend(e) -/
def eAppend (i : Nat) (f : Env → R O) : Env → R O := fun env => match env[i]? with
  | some (some (.lst _)) => (match f env with
    | .ok o e => (match e[i]? with
      | some (some (.lst os)) => if os.length < 1000000 then .ok (.fz .non) (e.set i (some (.lst (os ++ [o])))) else .bad
      | _ => .bad)
    | .exc c ds e => .exc c ds e
    | .bad => .bad)
  | _ => .bad
/-! ### x[k] = v -/
theorem takes_false : L2N.Takes X (fun _ _ _ _ => False) := fun u s' x => by
  obtain ⟨_, _, _, _, _, _, _, _, _, _, _, _, _, _, _, _, w⟩ := x
  exact w.elim
def okPut (os : List (D × O)) : Bool := decide (os.length < 1000000)
def setAt (i : Nat) (o : O) (k : List D) (e : Env) : Option Env := match k, e[i]? with
  | [.int j], some (some (.lst os)) => (ixN os.length j).map fun n => e.set i (some (.lst (os.set n o)))
  | [k], some (some (.dic os)) => if isKey k = true ∧ okPut os = true then some (e.set i (some (.dic (dput os k o)))) else none
  | _, _ => none
def gSet (i : Nat) (f : Env → R (List Opd)) : O → Env → Option Env := fun o env => match env[i]? with
  | some (some _) => (match f env with
    | .ok ops e => (resA e ops).bind fun k => setAt i o k e
    | _ => none)
  | _ => none
def rSetAll : TSet := fun o i v H Q => rSetL o i v H Q ∨ ∃ a H', o = .ref a ∧ DPut H a i v H' ∧ Q H'
theorem set_all (hu : X.A.units + 1 < cLine) : PSet X rSetAll := by
  intro pins s σ H o i v ov iv u Q I ro ri rv h
  rcases h with h | ⟨a, H', rfl, g, q⟩
  · exact set_list pins s σ H o i v ov iv u Q I ro ri rv h
  · obtain rfl : ov = Value.ref a := ro
    exact d_setItem hu I g ri rv fun s4 I4 => ⟨H', I4, q⟩
theorem putK_cons_ne {p : Key × V} {r : List (Key × V)} {k : Key} {v : V} (h : ¬ p.1 = k) : putK (p :: r) k v = p :: putK r k v := by
  unfold putK
  simp only [List.any_cons, decide_eq_false h, Bool.false_or]
  split
  · simp only [List.map_cons, if_neg h]
  · rfl
theorem putK_cons_eq {p : Key × V} {r : List (Key × V)} {k : Key} {v : V} (h : p.1 = k) (n : k ∉ r.map (·.1)) : putK (p :: r) k v = (p.1, v) :: r := by
  unfold putK
  simp only [List.any_cons, decide_eq_true h, Bool.true_or, if_true, List.map_cons, if_pos h]
  congr 1
  have : ∀ q ∈ r, (if q.1 = k then (q.1, v) else q) = q := fun q m => if_neg fun e : q.1 = k => n (by rw [← e]; exact List.mem_map.mpr ⟨q, m, rfl⟩)
  rw [List.map_congr_left this]
  simp
theorem putK_keys {kvs : List (Key × V)} {k : Key} {v : V} : (kvs.map (·.1)).Nodup → ((putK kvs k v).map (·.1)).Nodup ∧ (putK kvs k v).length ≤ kvs.length + 1 ∧ ∀ x ∈ (putK kvs k v).map (·.1), x = k ∨ x ∈ kvs.map (·.1) := by
  induction kvs with
  | nil => intro _; exact ⟨by simp [putK], by simp [putK], fun x m => by simp [putK] at m; exact .inl m⟩
  | cons p r ih =>
    intro nd
    have nd' := List.nodup_cons.mp nd
    by_cases h : p.1 = k
    · rw [putK_cons_eq h (h ▸ nd'.1)]
      exact ⟨by simpa using nd, by simp, fun x m => .inr (by simpa using m)⟩
    · rw [putK_cons_ne h]
      obtain ⟨a, b, c⟩ := ih nd'.2
      refine ⟨?_, by simp only [List.length_cons]; omega, fun x m => ?_⟩
      · rw [List.map_cons, List.nodup_cons]
        exact ⟨fun m => (c _ m).elim h nd'.1, a⟩
      · rw [List.map_cons, List.mem_cons] at m
        rcases m with rfl | m
        · exact .inr (by simp)
        · exact (c x m).imp_right fun z => by simp only [List.map_cons, List.mem_cons]; exact .inr z
theorem ownK_put : ∀ {kvs : List (Key × V)} {os : List (D × O)} {fp : List Addr} {k : Key} {e : D} {v : V} {o : O} {T : List Addr}, (kvs.map (·.1)).Nodup → OwnK K F H kvs os fp → KeyD k e → Own K F H v o T → (fp ++ T).Nodup →
    ∃ fp', OwnK K F H (putK kvs k v) (dput os e o) fp' ∧ (∀ a ∈ fp', a ∈ fp ++ T) ∧ fp'.Nodup
  | [], [], _, k, e, v, o, T, _, .nil, hk, q, nd => ⟨T ++ [], by simpa [putK, dput] using OwnK.cons hk q OwnK.nil, fun a m => by simpa using m, by simpa using nd⟩
  | (k0, v0) :: r, (e0, o0) :: s, _, k, e, v, o, T, ndk, .cons (fp := fp) (fq := fq) h0 a b, hk, q, nd => by
    have ndk' := List.nodup_cons.mp ndk
    have keq := kEq_iff h0 hk
    have n1 : (fq ++ T).Nodup := nd.sublist (by rw [List.append_assoc]; exact List.sublist_append_right _ _)
    by_cases h : k0 = k
    · have q1 : kEq e0 e = true := by rw [keq]; exact decide_eq_true h
      rw [dput, if_pos q1, putK_cons_eq (p := (k0, v0)) h (h ▸ ndk'.1)]
      refine ⟨T ++ fq, .cons h0 q b, fun x m => ?_, (List.perm_append_comm).nodup_iff.mpr n1⟩
      rcases List.mem_append.mp m with m | m
      · exact List.mem_append_right _ m
      · exact List.mem_append_left _ (List.mem_append_right _ m)
    · have q1 : ¬ kEq e0 e = true := by rw [keq]; simpa using h
      rw [dput, if_neg q1, putK_cons_ne (p := (k0, v0)) h]
      obtain ⟨fp', h1, h2, h3⟩ := ownK_put ndk'.2 b hk q n1
      have nd' : (fp ++ (fq ++ T)).Nodup := by rw [← List.append_assoc]; exact nd
      have d := List.nodup_append.mp nd'
      refine ⟨fp ++ fp', .cons h0 a h1, fun x m => ?_, List.nodup_append.mpr ⟨d.1, h3, fun x m y k z => d.2.2 x m y (h2 y k) z⟩⟩
      rw [List.append_assoc]
      rcases List.mem_append.mp m with m | m
      · exact List.mem_append_left _ m
      · exact List.mem_append_right _ (h2 x m)
theorem OwnK.length : ∀ {kvs : List (Key × V)} {os : List (D × O)} {fp : List Addr}, OwnK K F H kvs os fp → kvs.length = os.length
  | _, _, _, .nil => rfl
  | _, _, _, .cons _ _ r => by simp [OwnK.length r]
/-- a slot's container at index, key k -/
theorem snd_gset {pr : Nat → Bool} {i : Nat} {x : Str} {p pos : Pos} {k : Expr} {f : Env → R (List Opd)} {kk : Nat} (hr : Room kk X.A) (hN : X.N[i]? = some x) (hvis : Vis X.env.scope x) (hf : SndL 0 X [k] f)
    (hd : (x == ("__debug__" : Str)) = false := by decide) (hcd : (x == ("__classdict__" : Str)) = false := by decide)
    (ha : ∀ v, assign (.Subscript (.Name x p) k pos) X.env v = (do
      let ov ← holding [v] (eval (.Name x p) X.env)
      let iv ← holding [v, ov] (eval k X.env)
      standAt pos
      holding [v, ov, iv] (setItem ov iv v)
      release [v, ov, iv] []) := by intro _; rfl) : SndG X pr (.Subscript (.Name x p) k pos) (gSet i f) := by
  refine .mk fun v o T env σ F H S Q s q => ?_
  have hu : X.A.units + 1 < cLine := by have := hr.un; omega
  refine wG_of (pg_sub (pe_var hN hvis hd hcd) pe_w (set_all hu) ha) ?_
  unfold gSet at q
  split at q
  · rename_i o0 ho0
    obtain ⟨w0, hw0⟩ := s.st.val ho0
    refine ⟨w0, hw0, ?_⟩
    have hl : wL 0 X [k] σ H fun vs H2 => ∃ y, vs = [y] ∧ rSetAll w0 y v H2 fun H3 => Q σ H3 := by
      refine hf.run _ takes_false env σ F H S _ s.st ?_
      revert q
      cases f env with
      | exc c ds e => exact fun q => q.elim
      | bad => exact fun q => q.elim
      | ok ops e1 =>
        intro q vs F1 H1 S1 T1 tr sp
        revert q
        show PostG X pr σ F H (T ++ S) Q ((resA e1 ops).bind fun k => setAt i o k e1) → _
        cases e2 : resA e1 ops with
        | none => exact fun q => q.elim
        | some ks =>
          show PostG X pr σ F H (T ++ S) Q (setAt i o ks e1) → _
          have rp := resA_ok sp.st sp.val e2
          have t1 : Trans F H S F1 H1 S1 := tr.sub fun x m => List.mem_append_right _ m
          have sa : Sta X.K F1 H1 σ e1 S1 [v] [o] T := s.over t1 sp.st
          have t2 : Trans F H (T ++ S) F1 H1 (T ++ S1) := ⟨fun a u e n => t1.fr a u e fun m => n (List.mem_append_right _ m), t1.ff, fun a u e => (t1.fn a u e).imp_right fun z => z.imp_left fun y => List.mem_append_right _ y,
            fun a m => (List.mem_append.mp m).elim (fun n => .inl (List.mem_append_left _ n)) fun n => (t1.sn a n).imp_left fun y => List.mem_append_right _ y, t1.dm⟩
          unfold setAt
          split
          · rename_i j os ho
            intro q
            cases hx : ixN os.length j with
            | none => rw [hx] at q; exact q.elim
            | some n =>
              rw [hx] at q
              obtain ⟨y, rfl, r1⟩ := rp.one
              cases r1.int_inv
              obtain ⟨l, us, fp, S0, hv, hl, ow, pm, sl⟩ := sp.st.own.takeL ho
              rw [hw0] at hv
              cases hv
              have nd : ((l :: fp) ++ S0).Nodup := pm.nodup_iff.mpr sp.st.nd
              have ndd := List.nodup_cons.mp (List.nodup_append.mp nd).1
              have lS : l ∈ S1 := pm.mem_iff.mp (List.mem_append_left _ List.mem_cons_self)
              have lT : l ∉ T := fun m => sa.as.ns l m lS
              have fpT : (fp ++ T).Nodup := List.nodup_append.mpr ⟨ndd.2, sa.nd, fun a m b n z => sa.as.ns b n (z ▸ pm.mem_iff.mp (List.mem_append_left _ (List.mem_cons_of_mem _ m)))⟩
              obtain ⟨fp', o1, m1, n1⟩ := Owns.set (H := upd H1 l (.lst (us.set n v))) n (ow.keep (Ex.refl _) fun a m w e => by rw [upd_ne (fun z => ndd.1 (by rw [← z]; exact m))]; exact e) (sa.one.keep (Ex.refl _) fun a m w e => by rw [upd_ne (fun z => lT (by rw [← z]; exact m))]; exact e) fpT
              obtain ⟨S', t3, st3⟩ := stt_mut (o := .lst os) sa hw0 pm sl (List.getElem?_eq_some_iff.mp ho).1 (.lst upd_same o1) (fun a m => by
                rcases List.mem_cons.mp m with rfl | m
                · exact List.mem_append_left _ List.mem_cons_self
                · exact (List.mem_append.mp (m1 a m)).elim (fun z => List.mem_append_left _ (List.mem_cons_of_mem _ z)) fun z => List.mem_append_right _ z) (List.nodup_cons.mpr ⟨fun m => (List.mem_append.mp (m1 l m)).elim ndd.1 lT, n1⟩)
              exact ⟨_, rfl, .inl ⟨l, us, j, n, rfl, rfl, hl, by rw [ow.length]; exact hx, q σ F1 _ S' (t2.trans t3) st3 Agree.refl⟩⟩
          · rename_i ky os ho
            intro q
            by_cases hk : isKey ky = true ∧ okPut os = true
            · rw [if_pos hk] at q
              obtain ⟨y, rfl, r1⟩ := rp.one
              obtain ⟨kk', rfl, hkk⟩ := key_of_rep r1 hk.1
              obtain ⟨l, kvs, fp, S0, hv, hl, nk, ow, pm, sl⟩ := sp.st.own.takeD ho
              rw [hw0] at hv
              cases hv
              have nd : ((l :: fp) ++ S0).Nodup := pm.nodup_iff.mpr sp.st.nd
              have ndd := List.nodup_cons.mp (List.nodup_append.mp nd).1
              have lS : l ∈ S1 := pm.mem_iff.mp (List.mem_append_left _ List.mem_cons_self)
              have lT : l ∉ T := fun m => sa.as.ns l m lS
              have fpT : (fp ++ T).Nodup := List.nodup_append.mpr ⟨ndd.2, sa.nd, fun a m b n z => sa.as.ns b n (z ▸ pm.mem_iff.mp (List.mem_append_left _ (List.mem_cons_of_mem _ m)))⟩
              obtain ⟨fp', o1, m1, n1⟩ := ownK_put (H := upd H1 l (.dK (putK kvs kk' v))) nk (ow.keep (Ex.refl _) fun a m w e => by rw [upd_ne (fun z => ndd.1 (by rw [← z]; exact m))]; exact e) hkk (sa.one.keep (Ex.refl _) fun a m w e => by rw [upd_ne (fun z => lT (by rw [← z]; exact m))]; exact e) fpT
              obtain ⟨S', t3, st3⟩ := stt_mut (o := .dic os) sa hw0 pm sl (List.getElem?_eq_some_iff.mp ho).1 (.dic upd_same (putK_keys nk).1 o1) (fun a m => by
                rcases List.mem_cons.mp m with rfl | m
                · exact List.mem_append_left _ List.mem_cons_self
                · exact (List.mem_append.mp (m1 a m)).elim (fun z => List.mem_append_left _ (List.mem_cons_of_mem _ z)) fun z => List.mem_append_right _ z) (List.nodup_cons.mpr ⟨fun m => (List.mem_append.mp (m1 l m)).elim ndd.1 lT, n1⟩)
              have hlen : kvs.length < sizeLine := by
                rw [ow.length]
                exact Nat.lt_of_lt_of_le (of_decide_eq_true hk.2) (by decide)
              exact ⟨_, rfl, .inr ⟨l, _, rfl, .inl ⟨kvs, kk', hl, rfl, hlen, rfl⟩, q σ F1 _ S' (t2.trans t3) st3 Agree.refl⟩⟩
            · rw [if_neg hk] at q
              exact q.elim
          · exact fun q => q.elim
    refine wE_mono hl fun y H1 h1 => ?_
    obtain ⟨y', e, h⟩ := h1
    cases e
    exact h
  · exact q.elim
end
end PyD
end

section
set_option Elab.async false
set_option linter.all false
set_option maxRecDepth 100000
namespace PyD
variable [Om]
open PySem L2 PySem.Spec PyProof.Rows

/-! ### the block's own slots -/
def offE (p : Nat → Bool) : Nat → Env → Env
  | _, [] => []
  | k, x :: r => (if p k then none else x) :: offE p (k + 1) r
/-- .. given back -/
def onE (p : Nat → Bool) : Nat → Env → Env → Env
  | k, x :: r, y :: s => (if p k then y else x) :: onE p (k + 1) r s
  | _, e, _ => e
def offS (p : Nat → Bool) : Nat → L2.St → L2.St
  | _, [] => []
  | k, x :: r => (if p k then none else x) :: offS p (k + 1) r
theorem offS_get {p : Nat → Bool} : ∀ {σ : L2.St} {k i : Nat}, (offS p k σ)[i]? = (σ[i]?).map fun x => if p (k + i) then none else x
  | [], k, i => by simp [offS]
  | x :: r, k, 0 => by simp [offS]
  | x :: r, k, i + 1 => by
    simp only [offS, List.getElem?_cons_succ]
    rw [offS_get (σ := r)]
    have : k + 1 + i = k + (i + 1) := by omega
    rw [this]
theorem wipe_get {σ : L2.St} {i : Nat} : ∀ {vs : List Nat}, (wipe σ vs)[i]? = (σ[i]?).map fun x => if vs.contains i then none else x
  | [] => by simp [wipe]
  | v :: vs => by
    unfold wipe
    by_cases h : v = i
    · subst h
      by_cases hl : v < (wipe σ vs).length
      · rw [List.getElem?_set_self hl]
        rw [wipe_length] at hl
        simp [hl]
      · rw [List.getElem?_eq_none (by simpa using hl)]
        rw [wipe_length] at hl
        rw [List.getElem?_eq_none (by omega)]
        rfl
    · rw [List.getElem?_set_ne h, wipe_get (vs := vs)]
      have : (v :: vs).contains i = vs.contains i := by
        simp only [List.contains_cons]
        rw [show (i == v) = false by simpa using fun e => h e.symm]
        rfl
      rw [this]
theorem wipe_off {σ : L2.St} {vs : List Nat} : wipe σ vs = offS (fun i => vs.contains i) 0 σ := by
  apply List.ext_getElem?
  intro i
  rw [wipe_get, offS_get]
  simp
section
variable {K : PySem.W.Frag} {F H : Hp}
theorem off_slots {p : Nat → Bool} : ∀ {k : Nat} {σ : L2.St} {env : Env} {S : List Addr}, Slots K F H σ env S →
    ∃ S1 S2, Slots K F H (offS p k σ) (offE p k env) S1 ∧ (S1 ++ S2).Perm S ∧ Slots K F H σ (offE (fun i => !p i) k env) S2
  | k, _, _, _, .nil => ⟨[], [], .nil, List.Perm.refl _, .nil⟩
  | k, _, _, _, .no r => by
    obtain ⟨S1, S2, a, b, c⟩ := off_slots (p := p) (k := k + 1) r
    refine ⟨S1, S2, ?_, b, ?_⟩
    · simp only [offS, offE, ite_self]
      exact .no a
    · simp only [offE, ite_self]
      exact .no c
  | k, _, _, _, .yes (fp := fp) q r => by
    obtain ⟨S1, S2, a, b, c⟩ := off_slots (p := p) (k := k + 1) r
    by_cases h : p k = true
    · refine ⟨S1, fp ++ S2, ?_, ?_, ?_⟩
      · simp only [offS, offE, h, if_true]
        exact .no a
      · rw [← List.append_assoc]
        refine (List.Perm.append_right S2 (List.perm_append_comm (l₁ := S1) (l₂ := fp))).trans ?_
        rw [List.append_assoc]
        exact List.Perm.append_left _ b
      · simp only [offE, h, Bool.not_true, Bool.false_eq_true, if_false]
        exact .yes q c
    · simp only [Bool.not_eq_true] at h
      refine ⟨fp ++ S1, S2, ?_, ?_, ?_⟩
      · simp only [offS, offE, h, Bool.false_eq_true, if_false]
        exact .yes q a
      · rw [List.append_assoc]
        exact List.Perm.append_left _ b
      · simp only [offE, h, Bool.not_false, if_true]
        exact .no c
theorem on_slots {p : Nat → Bool} : ∀ {k : Nat} {σ : L2.St} {env env1 : Env} {S1 S2 : List Addr}, env.length = σ.length → Slots K F H (offS p k σ) (offE p k env) S1 → Slots K F H σ (offE (fun i => !p i) k env1) S2 →
    ∃ S, Slots K F H σ (onE p k (offE p k env) env1) S ∧ S.Perm (S1 ++ S2)
  | k, [], env, env1, S1, S2, hl, a, c => by
    cases env with
    | cons _ _ => simp at hl
    | nil =>
    cases a
    cases env1 with
    | cons _ _ => simp only [offE] at c; split at c <;> cases c
    | nil => cases c; exact ⟨[], .nil, List.Perm.refl _⟩
  | k, x :: σ, [], env1, S1, S2, hl, a, c => by simp at hl
  | k, x :: σ, y :: env, [], S1, S2, hl, a, c => by simp only [offE] at c; cases c
  | k, x :: σ, y :: env, z :: env1, S1, S2, hl, a, c => by
    have hl' : env.length = σ.length := by simpa using hl
    by_cases h : p k = true
    · simp only [offS, offE, h, if_true] at a
      simp only [offE, h, Bool.not_true, Bool.false_eq_true, if_false] at c
      simp only [offE, onE, h, if_true]
      cases a with
      | no a =>
        cases c with
        | no c =>
          obtain ⟨S, s, pm⟩ := on_slots hl' a c
          exact ⟨S, .no s, pm⟩
        | yes q c =>
          rename_i fp S3
          obtain ⟨S, s, pm⟩ := on_slots hl' a c
          refine ⟨fp ++ S, .yes q s, (List.Perm.append_left fp pm).trans ?_⟩
          rw [← List.append_assoc, ← List.append_assoc]
          exact List.Perm.append_right _ List.perm_append_comm
    · simp only [Bool.not_eq_true] at h
      simp only [offS, offE, h, Bool.false_eq_true, if_false] at a
      simp only [offE, h, Bool.not_false, if_true] at c
      simp only [offE, onE, h, Bool.false_eq_true, if_false]
      cases c with
      | no c =>
        cases a with
        | no a =>
          obtain ⟨S, s, pm⟩ := on_slots hl' a c
          exact ⟨S, .no s, pm⟩
        | yes q a =>
          rename_i fp S3
          obtain ⟨S, s, pm⟩ := on_slots hl' a c
          refine ⟨fp ++ S, .yes q s, ?_⟩
          rw [List.append_assoc]
          exact List.Perm.append_left _ pm
end
/-! ### [e for x in xs if t] -/
def compLoop (own : Nat → Bool) (h : O → Env → Option Env) (t : Env → R Bool) (e : Env → R O) : List O → Env → Option (List O × Env)
  | [], env => some ([], env)
  | o :: os, env => match h o env with
    | none => none
    | some e1 => match t e1 with
      | .ok true e2 => (match e e2 with
        | .ok y e3 => (compLoop own h t e os (offE own 0 e3)).map fun p => (y :: p.1, p.2)
        | _ => none)
      | .ok false e2 => compLoop own h t e os (offE own 0 e2)
      | _ => none
def tTrue : Env → R Bool := fun env => .ok true env
def ownP (own : List Nat) : Nat → Bool := fun i => own.contains i
def eComp (own : List Nat) (f : Env → R (List O)) (h : O → Env → Option Env) (t : Env → R Bool) (e : Env → R O) : Env → R O := fun env => match f env with
  | .ok os e1 => if os.length ≤ 1000000 then (match compLoop (ownP own) h t e os (offE (ownP own) 0 e1) with
    | some (ys, e2) => .ok (.lst ys) (onE (ownP own) 0 e2 e1)
    | none => .bad) else .bad
  | .exc c ds e => .exc c ds e
  | .bad => .bad
structure SndTs (X : Cx) (ifs : List Expr) (f : Env → R Bool) : Prop where
  run : ∀ W, L2N.Takes X W → ∀ env σ F H S Q, Stt X.K F H σ env S → PostT X W σ F H S Q (f env) → ∀ pins s, Inv X pins σ H s →
    wpAny (model X.prog X.w) X.A (forIn ifs true fun c r => if r = true then do let ok ← isTrue c X.env (eval c X.env); pure (ForInStep.yield ok) else pure (ForInStep.yield r)) (TP X pins σ Q) X.xe s
section
variable {n : Nat} {X : Cx}
theorem snd_tsnil : SndTs X [] tTrue := .mk fun W tk env σ F H S Q st q pins s I => pts_nil.run pins s σ H Q I (q F H S Trans.refl st)
/-- the list that grows, and the slots that wait outside -/
structure Acc (K : PySem.W.Frag) (σ : L2.St) (envB : Env) (SB : List Addr) (Dl : Addr) (F H : Hp) (S : List Addr) (accV : List V) (accO : List O) (A : List Addr) : Prop where
  at_ : H Dl = some (.lst accV)
  ow : Owns K F H accV accO A
  out : Slots K F H σ envB SB
  as : Aside F H S ((Dl :: A) ++ SB)
  nd : ((Dl :: A) ++ SB).Nodup
theorem Acc.over {K : PySem.W.Frag} {σ : L2.St} {envB : Env} {SB : List Addr} {Dl : Addr} {F H F' H' : Hp} {S S' : List Addr} {accV : List V} {accO : List O} {A : List Addr} (a : Acc K σ envB SB Dl F H S accV accO A) (t : Trans F H S F' H' S') : Acc K σ envB SB Dl F' H' S' accV accO A where
  at_ := t.fr _ _ a.at_ (a.as.ns _ (List.mem_append_left _ List.mem_cons_self))
  ow := a.ow.keep t.ff fun x m u e => t.fr x u e (a.as.ns x (List.mem_append_left _ (List.mem_cons_of_mem _ m)))
  out := a.out.keep t.ff fun x m u e => t.fr x u e (a.as.ns x (List.mem_append_right _ m))
  as := a.as.over t
  nd := a.nd
theorem Acc.sub {K : PySem.W.Frag} {σ : L2.St} {envB : Env} {SB : List Addr} {Dl : Addr} {F H : Hp} {S S' : List Addr} {accV : List V} {accO : List O} {A : List Addr} (a : Acc K σ envB SB Dl F H S accV accO A) (h : ∀ x ∈ S', x ∈ S) : Acc K σ envB SB Dl F H S' accV accO A :=
  ⟨a.at_, a.ow, a.out, ⟨fun x m n => a.as.ns x m (h x n), a.as.nf, a.as.lv⟩, a.nd⟩
/-- what is owned in all: the list, the block's slots, the waiting ones -/
theorem Trans.acc {F H F1 H1 F' H' : Hp} {S S1 S' B : List Addr} (a : Trans F H S F1 H1 (B ++ S1)) (t : Trans F1 H1 S1 F' H' S') : Trans F H S F' H' (B ++ S') :=
  a.trans ⟨fun x u e n => t.fr x u e fun m => n (List.mem_append_right _ m), t.ff, fun x u e => (t.fn x u e).imp_right fun z => z.imp_left fun y => List.mem_append_right _ y,
    fun x m => (List.mem_append.mp m).elim (fun n => .inl (List.mem_append_left _ n)) fun n => (t.sn x n).imp_left fun y => List.mem_append_right _ y, t.dm⟩
theorem off_eq {p : Nat → Bool} {σ σ' : L2.St} (hl : σ'.length = σ.length) (h : ∀ i, p i = false → σ'[i]? = (offS p 0 σ)[i]?) : offS p 0 σ' = offS p 0 σ := by
  apply List.ext_getElem?
  intro i
  have e := h i
  rw [offS_get] at e
  rw [offS_get, offS_get]
  simp only [Nat.zero_add] at e ⊢
  cases hp : p i with
  | true =>
    by_cases hi : i < σ.length
    · rw [List.getElem?_eq_getElem hi, List.getElem?_eq_getElem (by omega)]
      simp
    · rw [List.getElem?_eq_none (by omega), List.getElem?_eq_none (by omega)]
  | false =>
    rw [hp] at e
    rw [e rfl]
    cases σ[i]? <;> simp
theorem offS_len {p : Nat → Bool} : ∀ {k : Nat} {σ : L2.St}, (offS p k σ).length = σ.length
  | _, [] => rfl
  | k, x :: r => by simp [offS, offS_len (k := k + 1) (σ := r)]
section
variable (X : Cx) (tg : Expr) (ifs : List Expr) (elt : Expr) (scope : Scope)
def cG : TG := fun v σ H Q => ∀ s H0 C cl fp, wG (X.blk s H0 scope (compEnvC scope cl C X.env) fp) tg v σ H Q
def cT : TT := fun σ H Q => ∀ s H0 C cl fp pins s', Inv (X.blk s H0 scope (compEnvC scope cl C X.env) fp) pins σ H s' → wpAny (model X.prog X.w) X.A (forIn ifs true fun c r => if r = true then do let ok ← isTrue c (compEnvC scope cl C X.env) (eval c (compEnvC scope cl C X.env)); pure (ForInStep.yield ok) else pure (ForInStep.yield r)) (TP (X.blk s H0 scope (compEnvC scope cl C X.env) fp) pins σ Q) (fun _ _ => False) s'
def cE (n : Nat) : TE := fun σ H Q => ∀ s H0 C cl fp, wE n (X.blk s H0 scope (compEnvC scope cl C X.env) fp) elt σ H Q
end
theorem comp_coreP {n : Nat} {elt tg iter : Expr} {ifs : List Expr} {scope : Scope} {own : List (Str × Nat)} {f : Env → R (List O)} {h : O → Env → Option Env} {t : Env → R Bool} {e : Env → R O}
    (hg : ∀ (s : Shared) (H : Hp) (C : Addr) (cl : List (Str × Addr)) (fp : List Addr), SndG (X.blk s H scope (compEnvC scope cl C X.env) fp) (fun i => !(ownP (own.map (·.2)) i)) tg h)
    (ht : ∀ (s : Shared) (H : Hp) (C : Addr) (cl : List (Str × Addr)) (fp : List Addr), SndTs (X.blk s H scope (compEnvC scope cl C X.env) fp) ifs t)
    (he : ∀ (s : Shared) (H : Hp) (C : Addr) (cl : List (Str × Addr)) (fp : List Addr), SndE n (X.blk s H scope (compEnvC scope cl C X.env) fp) elt e)
    {W : WX} (tk : L2N.Takes X W) {env : Env} {σ : L2.St} {F H : Hp} {S : List Addr} {Q : VK} (st : Stt X.K F H σ env S) (hi : ∀ Q', PostI X W σ F H S Q' (f env) → wI n X tg iter σ H Q') (q : PostE X W σ F H S Q (eComp (own.map (·.2)) f h t e env)) :
    tLc (wI n X tg iter) (cG X tg scope) (cT X ifs scope) (cE X elt scope n) (own.map (·.2)) σ H Q := by
  refine hi _ ?_
  unfold eComp at q
  generalize hvs : own.map (·.2) = vs at q hg
  revert q
  cases f env with
  | exc c ds e => exact fun q => q
  | bad => exact fun q => q
  | ok os e1 =>
    intro q J F1 H1 S1 tr s1 it Dl hD
    revert q
    show PostE X W σ F H S Q (if os.length ≤ 1000000 then (match compLoop (ownP vs) h t e os (offE (ownP vs) 0 e1) with
      | some (ys, e2) => .ok (.lst ys) (onE (ownP vs) 0 e2 e1)
      | none => .bad) else .bad) → _
    by_cases hsz : os.length ≤ 1000000
    · rw [if_pos hsz]
      cases hcl : compLoop (ownP vs) h t e os (offE (ownP vs) 0 e1) with
      | none => exact fun q => q.elim
      | some p =>
        obtain ⟨ys, e2⟩ := p
        intro q
        obtain ⟨SA, SB, a1, pm, b1⟩ := off_slots (p := ownP vs) (k := 0) s1.own
        have hw : wipe σ vs = offS (ownP vs) 0 σ := wipe_off
        have nd0 : (SA ++ SB).Nodup := pm.nodup_iff.mpr s1.nd
        have nd1 := List.nodup_append.mp nd0
        have hF1 : F1 Dl = none := by
          cases e : F1 Dl with
          | none => rfl
          | some u => rw [s1.sub _ u e] at hD; cases hD
        have nA : ∀ x ∈ SA ++ SB, x ≠ Dl := fun x m z => by
          obtain ⟨u, e⟩ := s1.own.live x (pm.mem_iff.mp m)
          rw [z, hD] at e; cases e
        have ex0 : Ex H1 (upd H1 Dl (.lst [])) := Ex.new hD
        refine ⟨fun i m H' => m = os.length - i ∧ i ≤ os.length ∧ ∃ env' F' S' accV accO A ys', Ex F1 F' ∧ Stt X.K F' H' (offS (ownP vs) 0 σ) (offE (ownP vs) 0 env') S' ∧ Acc X.K σ (offE (fun i => !ownP vs i) 0 e1) SB Dl F' H' S' accV accO A ∧ accV.length ≤ i ∧ env'.length = σ.length ∧
          Trans F H S F' H' (((Dl :: A) ++ SB) ++ S') ∧ compLoop (ownP vs) h t e (os.drop i) (offE (ownP vs) 0 env') = some (ys', e2) ∧ ys = accO ++ ys', ⟨os.length, by simp, Nat.zero_le _, e1, F1, SA, [], [], [], ys, Ex.refl _, ?_, ?_, Nat.le_refl _, s1.own.length.symm, ?_, by simpa using hcl, rfl⟩, ?_⟩
        · exact ⟨a1.keep (Ex.refl _) fun x _ u e => ex0 x u e, s1.sub.trans ex0, nd1.1, fun x m => s1.sep x (pm.mem_iff.mp (List.mem_append_left _ m))⟩
        · refine ⟨upd_same, .nil, b1.keep (Ex.refl _) fun x _ u e => ex0 x u e, ⟨fun x m n => ?_, fun x m => ?_, fun x m => ?_⟩, ?_⟩
          · rcases List.mem_append.mp m with m | m
            · have : x = Dl := by simpa using m
              exact nA x (List.mem_append_left _ n) this
            · exact nd1.2.2 x n x m rfl
          · rcases List.mem_append.mp m with m | m
            · have : x = Dl := by simpa using m
              rw [this]; exact hF1
            · exact s1.sep x (pm.mem_iff.mp (List.mem_append_right _ m))
          · rcases List.mem_append.mp m with m | m
            · have : x = Dl := by simpa using m
              rw [this]; exact ⟨_, upd_same⟩
            · obtain ⟨u, e⟩ := b1.live x m
              exact ⟨u, ex0 x u e⟩
          · exact List.nodup_cons.mpr ⟨fun m => nA Dl (List.mem_append_right _ (by simpa using m)) rfl, nd1.2.1⟩
        · refine ⟨fun x u e n => ex0 x u (tr.fr x u e n), tr.ff, tr.fn, fun x m => ?_, fun x e => tr.dm x ?_⟩
          · rcases List.mem_append.mp m with m | m
            · rcases List.mem_append.mp m with m | m
              · have : x = Dl := by simpa using m
                rw [this]; exact .inr (tr.dm _ hD)
              · exact tr.sn x (pm.mem_iff.mp (List.mem_append_right _ m))
            · exact tr.sn x (pm.mem_iff.mp (List.mem_append_left _ m))
          · by_cases z : x = Dl
            · rw [z]; exact hD
            · rw [upd_ne z] at e; exact e
        · rintro i m H' ⟨rfl, hi, env', F', S', accV, accO, A, ys', ex, s', acc, hlen, henv, trA, hl, hys⟩
          obtain ⟨go, stop⟩ := it F' H' ex s'.sub i
          by_cases hlt : i < os.length
          · obtain ⟨g, y⟩ := go os[i] (by simp [hlt])
            have hdrop : os.drop i = os[i] :: os.drop (i + 1) := by rw [List.drop_eq_getElem_cons hlt]
            rw [hdrop] at hl
            refine .inr ⟨g, fun H2 => ∃ env' F' S' accV accO A ys', Ex F1 F' ∧ Stt X.K F' H2 (offS (ownP vs) 0 σ) (offE (ownP vs) 0 env') S' ∧ Acc X.K σ (offE (fun i => !ownP vs i) 0 e1) SB Dl F' H2 S' accV accO A ∧ accV.length ≤ i + 1 ∧ env'.length = σ.length ∧
              Trans F H S F' H2 (((Dl :: A) ++ SB) ++ S') ∧ compLoop (ownP vs) h t e (os.drop (i + 1)) (offE (ownP vs) 0 env') = some (ys', e2) ∧ ys = accO ++ ys', fun H2 z => ⟨os.length - (i + 1), by omega, rfl, hlt, z⟩, fun x H2 hy s0 H0 C cl fp => ?_⟩
            obtain ⟨F2, T, t2, ow, sb, nd, sep⟩ := y x H2 hy
            obtain ⟨t3, s3, as3⟩ := s'.grow t2 sb nd sep fun a m => ow.live a m
            rw [hw]
            refine (hg s0 H0 C cl fp).run x os[i] T (offE (ownP vs) 0 env') (offS (ownP vs) 0 σ) F2 H2 S' _ (sta_one s3 ow nd as3) ?_
            unfold compLoop at hl
            revert hl
            cases h os[i] (offE (ownP vs) 0 env') with
            | none => exact fun hl => by cases hl
            | some e3 =>
              intro hl σ4 F4 H4 S4 t4 s4 a4
              have hσ4 : offS (ownP vs) 0 σ4 = offS (ownP vs) 0 σ := off_eq (by rw [a4.1, offS_len]) fun j hj => a4.2 j (by simp [hj])
              refine ⟨by rw [wipe_off]; exact hσ4, fun s0 H0 C cl fp pins s'' I => (ht s0 H0 C cl fp).run _ takes_false e3 σ4 F4 H4 S4 _ s4 ?_ pins s'' I⟩
              have t34 : Trans F' H' S' F4 H4 S4 := t3.trans t4
              have hlen4 : σ4.length = σ.length := by rw [a4.1, offS_len]
              revert hl
              show (match t e3 with
                | .ok true e2 => (match e e2 with
                  | .ok y e3 => (compLoop (ownP vs) h t e (os.drop (i + 1)) (offE (ownP vs) 0 e3)).map fun p => (y :: p.1, p.2)
                  | _ => none)
                | .ok false e2 => compLoop (ownP vs) h t e (os.drop (i + 1)) (offE (ownP vs) 0 e2)
                | _ => none) = some (ys', e2) → _
              -- the slots again as at a turn's start
              have back : ∀ {F5 H5 : Hp} {e5 : Env} {S5 : List Addr}, Trans F' H' S' F5 H5 S5 → Stt X.K F5 H5 σ4 e5 S5 → ∃ S6, Stt X.K F5 H5 (offS (ownP vs) 0 σ) (offE (ownP vs) 0 e5) S6 ∧ (∀ a ∈ S6, a ∈ S5) ∧ e5.length = σ.length := fun {F5 H5 e5 S5} t5 s5 => by
                obtain ⟨S6, S7, c1, c2, _⟩ := off_slots (p := ownP vs) (k := 0) s5.own
                rw [hσ4] at c1
                have nd6 := c2.nodup_iff.mpr s5.nd
                exact ⟨S6, ⟨c1, s5.sub, (List.nodup_append.mp nd6).1, fun a m => s5.sep a (c2.mem_iff.mp (List.mem_append_left _ m))⟩, fun a m => c2.mem_iff.mp (List.mem_append_left _ m), by rw [← s5.own.length, hlen4]⟩
              cases t e3 with
              | exc c ds e => exact fun hl => by cases hl
              | bad => exact fun hl => by cases hl
              | ok b e4 =>
                cases b with
                | false =>
                  intro hl F5 H5 S5 t5 s5
                  have t35 := t34.trans t5
                  obtain ⟨S6, s6, m6, l6⟩ := back t35 s5
                  exact ⟨e4, F5, S6, accV, accO, A, ys', ex.trans t35.ff, s6, (acc.over t35).sub m6, Nat.le_succ_of_le hlen, l6, (Trans.acc trA t35).sub fun a m => (List.mem_append.mp m).elim (fun n => List.mem_append_left _ n) fun n => List.mem_append_right _ (m6 a n), hl, hys⟩
                | true =>
                  show (match e e4 with
                    | .ok y e3 => (compLoop (ownP vs) h t e (os.drop (i + 1)) (offE (ownP vs) 0 e3)).map fun p => (y :: p.1, p.2)
                    | _ => none) = some (ys', e2) → _
                  intro hl F5 H5 S5 t5 s5
                  show ∀ s H0 C cl fp, wE n (X.blk s H0 scope (compEnvC scope cl C X.env) fp) elt σ4 H5 _
                  intro s0 H0 C cl fp
                  refine (he s0 H0 C cl fp).run _ takes_false e4 σ4 F5 H5 S5 _ s5 ?_
                  revert hl
                  cases e e4 with
                  | exc c ds e => exact fun hl => by cases hl
                  | bad => exact fun hl => by cases hl
                  | ok yo e5 =>
                    intro hl v F6 H6 S6 T6 t6 sa6
                    simp only [Option.map_eq_some_iff] at hl
                    obtain ⟨⟨ys'', e2'⟩, hl, he2⟩ := hl
                    cases he2
                    have t36 : Trans F' H' S' F6 H6 (T6 ++ S6) := (t34.trans t5).trans t6
                    have acc6 := acc.over t36
                    have nd6 := List.nodup_cons.mp (List.nodup_append.mp acc6.nd).1
                    have dT : ∀ a ∈ T6, a ≠ Dl := fun a m z => acc6.as.ns Dl (List.mem_append_left _ List.mem_cons_self) (List.mem_append_left _ (z ▸ m))
                    have dS : ∀ a ∈ S6, a ≠ Dl := fun a m z => acc6.as.ns Dl (List.mem_append_left _ List.mem_cons_self) (List.mem_append_right _ (z ▸ m))
                    have dA : ∀ a ∈ A, a ≠ Dl := fun a m z => nd6.1 (z ▸ m)
                    have ndAS := List.nodup_append.mp acc6.nd
                    have dB : ∀ a ∈ SB, a ≠ Dl := fun a m z => ndAS.2.2 Dl List.mem_cons_self a m z.symm
                    obtain ⟨S7, s7, m7, l7⟩ := back (t36.sub fun a m => List.mem_append_right _ m) sa6.st
                    refine ⟨accV, acc6.at_, Nat.lt_of_le_of_lt hlen (Nat.lt_of_lt_of_le hlt (Nat.le_trans hsz (by decide))), e5, F6, S7, accV ++ [v], accO ++ [yo], A ++ T6, ys'', ex.trans t36.ff, ⟨s7.own.keep (Ex.refl _) fun a m u e => by rw [upd_ne (dS a (m7 a m))]; exact e, fun a u e => ?_, s7.nd, s7.sep⟩, ⟨upd_same, Owns.append (acc6.ow.keep (Ex.refl _) fun a m u e => by rw [upd_ne (dA a m)]; exact e) ?_, acc6.out.keep (Ex.refl _) fun a m u e => by rw [upd_ne (dB a m)]; exact e, ⟨fun a m n => ?_, fun a m => ?_, fun a m => ?_⟩, ?_⟩, by simp; exact hlen, l7, ?_, hl, by rw [hys]; simp⟩
                    · have hn : a ≠ Dl := fun z => by
                        rw [z, acc6.as.nf Dl (List.mem_append_left _ List.mem_cons_self)] at e; cases e
                      rw [upd_ne hn]; exact sa6.st.sub a u e
                    · have := sa6.one.keep (H' := upd H6 Dl (.lst (accV ++ [v]))) (Ex.refl _) fun a m u e => by rw [upd_ne (dT a m)]; exact e
                      simpa using Owns.cons this Owns.nil
                    · have key : a ∈ ((Dl :: A) ++ SB) ∨ a ∈ T6 := by
                        rcases List.mem_append.mp m with m | m
                        · rcases List.mem_cons.mp m with rfl | m
                          · exact .inl (List.mem_append_left _ List.mem_cons_self)
                          · rcases List.mem_append.mp m with m | m
                            · exact .inl (List.mem_append_left _ (List.mem_cons_of_mem _ m))
                            · exact .inr m
                        · exact .inl (List.mem_append_right _ m)
                      rcases key with k | k
                      · exact acc6.as.ns a k (List.mem_append_right _ (m7 a n))
                      · exact sa6.as.ns a k (m7 a n)
                    · have key : a ∈ ((Dl :: A) ++ SB) ∨ a ∈ T6 := by
                        rcases List.mem_append.mp m with m | m
                        · rcases List.mem_cons.mp m with rfl | m
                          · exact .inl (List.mem_append_left _ List.mem_cons_self)
                          · rcases List.mem_append.mp m with m | m
                            · exact .inl (List.mem_append_left _ (List.mem_cons_of_mem _ m))
                            · exact .inr m
                        · exact .inl (List.mem_append_right _ m)
                      exact key.elim (acc6.as.nf a) (sa6.as.nf a)
                    · by_cases z : a = Dl
                      · rw [z]; exact ⟨_, upd_same⟩
                      · have key : a ∈ ((Dl :: A) ++ SB) ∨ a ∈ T6 := by
                          rcases List.mem_append.mp m with m | m
                          · rcases List.mem_cons.mp m with rfl | m
                            · exact .inl (List.mem_append_left _ List.mem_cons_self)
                            · rcases List.mem_append.mp m with m | m
                              · exact .inl (List.mem_append_left _ (List.mem_cons_of_mem _ m))
                              · exact .inr m
                          · exact .inl (List.mem_append_right _ m)
                        rw [upd_ne z]
                        exact key.elim (acc6.as.lv a) (sa6.as.lv a)
                    · refine List.nodup_append.mpr ⟨List.nodup_cons.mpr ⟨fun m => (List.mem_append.mp m).elim nd6.1 fun n => dT Dl n rfl, List.nodup_append.mpr ⟨nd6.2, sa6.nd, fun a m b n z => acc6.as.ns a (List.mem_append_left _ (List.mem_cons_of_mem _ m)) (List.mem_append_left _ (z ▸ n))⟩⟩, ndAS.2.1, fun a m b n z => ?_⟩
                      rcases List.mem_cons.mp m with rfl | m
                      · exact dB b n z.symm
                      · rcases List.mem_append.mp m with m | m
                        · exact ndAS.2.2 a (List.mem_cons_of_mem _ m) b n z
                        · exact acc6.as.ns b (List.mem_append_right _ n) (List.mem_append_left _ (z ▸ m))
                    · have tA := Trans.acc trA t36
                      refine ⟨fun a u e n => ?_, tA.ff, tA.fn, fun a m => tA.sn a ?_, fun a e => tA.dm a ?_⟩
                      · have hu := tA.fr a u e n
                        by_cases z : a = Dl
                        · have : H Dl = none := by
                            rcases trA.sn Dl (List.mem_append_left _ (List.mem_append_left _ List.mem_cons_self)) with y | y
                            · exact absurd (z ▸ y) n
                            · exact y
                          rw [z, this] at e; cases e
                        · rw [upd_ne z]; exact hu
                      · rcases List.mem_append.mp m with m | m
                        · rcases List.mem_append.mp m with m | m
                          · rcases List.mem_cons.mp m with rfl | m
                            · exact List.mem_append_left _ (List.mem_append_left _ List.mem_cons_self)
                            · rcases List.mem_append.mp m with m | m
                              · exact List.mem_append_left _ (List.mem_append_left _ (List.mem_cons_of_mem _ m))
                              · exact List.mem_append_right _ (List.mem_append_left _ m)
                          · exact List.mem_append_left _ (List.mem_append_right _ m)
                        · exact List.mem_append_right _ (List.mem_append_right _ (m7 a m))
                      · by_cases z : a = Dl
                        · rw [z, upd_same] at e; cases e
                        · rw [upd_ne z] at e; exact e
          · have ei : i = os.length := by omega
            subst ei
            rw [List.drop_length] at hl
            simp only [compLoop, Option.some.injEq, Prod.mk.injEq] at hl
            obtain ⟨rfl, rfl⟩ := hl
            refine .inl ⟨stop (Nat.le_refl _), ?_⟩
            obtain ⟨S8, s8, pm8⟩ := on_slots (p := ownP vs) (k := 0) (env1 := e1) henv s'.own acc.out
            have ndA := List.nodup_append.mp acc.nd
            have nd8 : (S' ++ SB).Nodup := List.nodup_append.mpr ⟨s'.nd, ndA.2.1, fun a m b n z => acc.as.ns b (List.mem_append_right _ n) (z ▸ m)⟩
            rw [List.append_nil] at hys
            subst hys
            refine q (.ref Dl) F' H' S8 (Dl :: A) (trA.sub fun a m => ?_) (sta_one ⟨s8, s'.sub, pm8.nodup_iff.mpr nd8, fun a m => ?_⟩ (.lst acc.at_ acc.ow) ndA.1 ⟨fun a m n => ?_, fun a m => acc.as.nf a (List.mem_append_left _ m), fun a m => acc.as.lv a (List.mem_append_left _ m)⟩)
            · rcases List.mem_append.mp m with m | m
              · exact List.mem_append_left _ (List.mem_append_left _ m)
              · rcases List.mem_append.mp (pm8.mem_iff.mp m) with m | m
                · exact List.mem_append_right _ m
                · exact List.mem_append_left _ (List.mem_append_right _ m)
            · rcases List.mem_append.mp (pm8.mem_iff.mp m) with m | m
              · exact s'.sep a m
              · exact acc.as.nf a (List.mem_append_right _ m)
            · rcases List.mem_append.mp (pm8.mem_iff.mp n) with n | n
              · exact acc.as.ns a (List.mem_append_left _ m) n
              · exact ndA.2.2 a m a n rfl
    · rw [if_neg hsz]
      exact fun q => q.elim
theorem pg_c {X : Cx} {tg : Expr} {scope : Scope} (s : Shared) (H : Hp) (C : Addr) (cl : List (Str × Addr)) (fp : List Addr) : PG (X.blk s H scope (compEnvC scope cl C X.env) fp) tg (cG X tg scope) :=
  ⟨fun pins s' σ H1 v u Q I r h => h s H C cl fp pins s' u I r⟩
theorem pt_c {X : Cx} {ifs : List Expr} {scope : Scope} (s : Shared) (H : Hp) (C : Addr) (cl : List (Str × Addr)) (fp : List Addr) : PTs (X.blk s H scope (compEnvC scope cl C X.env) fp) ifs (cT X ifs scope) :=
  ⟨fun pins s' σ H1 Q I h => h s H C cl fp pins s' I⟩
theorem pe_c {X : Cx} {elt : Expr} {scope : Scope} (s : Shared) (H : Hp) (C : Addr) (cl : List (Str × Addr)) (fp : List Addr) : PE (X.blk s H scope (compEnvC scope cl C X.env) fp) elt (cE X elt scope 0) :=
  ⟨fun pins s' σ H1 Q I h => wE_run (h s H C cl fp) pins s' (Nat.zero_le _) I⟩
theorem comp_core {n : Nat} {elt tg iter : Expr} {ifs : List Expr} {scope : Scope} {own : List (Str × Nat)} {f : Env → R (List O)} {h : O → Env → Option Env} {t : Env → R Bool} {e : Env → R O} (hi : SndI n X tg iter f)
    (hg : ∀ (s : Shared) (H : Hp) (C : Addr) (cl : List (Str × Addr)) (fp : List Addr), SndG (X.blk s H scope (compEnvC scope cl C X.env) fp) (fun i => !(ownP (own.map (·.2)) i)) tg h)
    (ht : ∀ (s : Shared) (H : Hp) (C : Addr) (cl : List (Str × Addr)) (fp : List Addr), SndTs (X.blk s H scope (compEnvC scope cl C X.env) fp) ifs t)
    (he : ∀ (s : Shared) (H : Hp) (C : Addr) (cl : List (Str × Addr)) (fp : List Addr), SndE n (X.blk s H scope (compEnvC scope cl C X.env) fp) elt e)
    {W : WX} (tk : L2N.Takes X W) {env : Env} {σ : L2.St} {F H : Hp} {S : List Addr} {Q : VK} (st : Stt X.K F H σ env S) (q : PostE X W σ F H S Q (eComp (own.map (·.2)) f h t e env)) :
    tLc (wI n X tg iter) (cG X tg scope) (cT X ifs scope) (cE X elt scope n) (own.map (·.2)) σ H Q :=
  comp_coreP hg ht he tk st (fun Q' q' => hi.run W tk env σ F H S Q' st q') q
theorem snd_comp {elt tg iter : Expr} {ifs : List Expr} {scope : Scope} {own : List (Str × Nat)} {pos : Pos} {f : Env → R (List O)} {h : O → Env → Option Env} {t : Env → R Bool} {e : Env → R O} (hc : X.calm = true) (hN : X.N.Nodup) (hi : SndI 0 X tg iter f) (ok : BlkOk X.N X.env.scope scope own)
    (hg : ∀ (s : Shared) (H : Hp) (C : Addr) (cl : List (Str × Addr)) (fp : List Addr), SndG (X.blk s H scope (compEnvC scope cl C X.env) fp) (fun i => !(ownP (own.map (·.2)) i)) tg h)
    (ht : ∀ (s : Shared) (H : Hp) (C : Addr) (cl : List (Str × Addr)) (fp : List Addr), SndTs (X.blk s H scope (compEnvC scope cl C X.env) fp) ifs t)
    (he : ∀ (s : Shared) (H : Hp) (C : Addr) (cl : List (Str × Addr)) (fp : List Addr), SndE 0 (X.blk s H scope (compEnvC scope cl C X.env) fp) elt e)
    (hs : ∀ x, foldedSetIterable iter X.env x = pure x := by intro _; rfl) : SndE n X (.ListComp elt [⟨tg, iter, ifs, 0⟩] scope pos) (eComp (own.map (·.2)) f h t e) := .mk fun W tk env σ F H S Q st q =>
  wE_of (pe_lc hc hN pi_w ok pg_c pt_c pe_c hs) (comp_core hi hg ht he tk st q)
end
end PyD
end

section
set_option Elab.async false
set_option linter.all false
set_option maxRecDepth 100000
namespace PyD
variable [Om]
open PySem L2 PySem.Spec PyProof.Rows
/-! ### a, *b = a list -/
section
variable {prog : Program} {w : World} {A : Around} {E : Value → Shared → Prop} {s : Shared}
end
section
variable {n : Nat} {X : Cx} {pr : Nat → Bool}
def gStar1 (hs : List O → Env → Option Env) : O → Env → Option Env
  | .lst (o :: os), env => hs [o, .lst os] env
  | .fz (.lst (d :: ds)), env => hs [.fz d, .lst (ds.map .fz)] env
  | _, _ => none
end
end PyD
end

section
set_option Elab.async false
set_option linter.all false
set_option maxRecDepth 100000
namespace PyD
variable [Om]
open PySem L2 PySem.Spec PyProof.Rows

/-! ### texts as lists -/
/-- b stands at the head of l -/
def isPre (b l : List Nat) : Bool := l.take b.length == b
/-- the first place from k on, l the rest there -/
def findAt (b : List Nat) : List Nat → Nat → Option Nat
  | [], k => if isPre b [] = true then some k else none
  | x :: r, k => if isPre b (x :: r) = true then some k else findAt b r (k + 1)
def findL (a b : List Nat) (lo : Nat) : Option Nat := if lo ≤ a.length then findAt b (a.drop lo) lo else none
theorem findAt_some {b : List Nat} : ∀ {l : List Nat} {k i : Nat}, findAt b l k = some i → k ≤ i ∧ i ≤ k + l.length ∧ isPre b (l.drop (i - k)) = true ∧ ∀ j, k ≤ j → j < i → isPre b (l.drop (j - k)) = false
  | [], k, i, h => by
    unfold findAt at h
    split at h
    · rename_i hp
      cases h
      exact ⟨Nat.le_refl _, by simp, by simpa using hp, fun j h1 h2 => by omega⟩
    · cases h
  | x :: r, k, i, h => by
    unfold findAt at h
    split at h
    · rename_i hp
      cases h
      exact ⟨Nat.le_refl _, by simp, by simpa using hp, fun j h1 h2 => by omega⟩
    · rename_i hp
      obtain ⟨h1, h2, h3, h4⟩ := findAt_some h
      refine ⟨by omega, by simp; omega, ?_, fun j j1 j2 => ?_⟩
      · have e : i - k = (i - (k + 1)) + 1 := by omega
        rw [e, List.drop_succ_cons]; exact h3
      · by_cases hj : j = k
        · subst hj; simpa using hp
        · have e : j - k = (j - (k + 1)) + 1 := by omega
          rw [e, List.drop_succ_cons]; exact h4 j (by omega) j2
theorem findAt_none {b : List Nat} : ∀ {l : List Nat} {k : Nat}, findAt b l k = none → ∀ j, j ≤ l.length → isPre b (l.drop j) = false
  | [], k, h, j, hj => by
    unfold findAt at h
    split at h
    · cases h
    · rename_i hp; have : j = 0 := by simpa using hj
      subst this; simpa using hp
  | x :: r, k, h, j, hj => by
    unfold findAt at h
    split at h
    · cases h
    · rename_i hp
      cases j with
      | zero => simpa using hp
      | succ j => rw [List.drop_succ_cons]; exact findAt_none h j (by simpa using hj)
theorem subAt_sOf (a b : List Nat) (i : Nat) : Builtin.Str.subAt (sOf a) (sOf b) i = isPre b (a.drop i) := by
  unfold Builtin.Str.subAt isPre
  rw [Bool.eq_iff_iff, beq_iff_eq, beq_iff_eq]
  have e : (sOf a).cps.extract i (i + (sOf b).length) = ((a.drop i).take b.length).toArray := by
    simp only [sOf, Str.length, List.extract_toArray, List.size_toArray, List.extract_eq_take_drop]
    rw [show i + b.length - i = b.length by omega]
  rw [e]
  simp [sOf]
theorem isPre_len {b l : List Nat} (h : isPre b l = true) : b.length ≤ l.length := by
  unfold isPre at h
  have := congrArg List.length (beq_iff_eq.mp h)
  rw [List.length_take] at this
  omega
theorem at_sOf {a b : List Nat} {i : Nat} : StrLaws.At (sOf a) (sOf b) (sOf a).length i ↔ i ≤ a.length ∧ isPre b (a.drop i) = true := by
  unfold StrLaws.At
  rw [subAt_sOf, length_sOf, length_sOf]
  constructor
  · intro ⟨h1, h2⟩; exact ⟨by omega, h2⟩
  · intro ⟨h1, h2⟩
    have := isPre_len h2
    rw [List.length_drop] at this
    exact ⟨by omega, h2⟩
theorem occ_findL (a b : List Nat) (lo : Nat) : (Builtin.Str.occurrences (sOf a) (sOf b) lo (sOf a).length 1).head? = findL a b lo := by
  rcases StrLaws.occ_head_from (sOf a) (sOf b) lo 1 (Nat.le_refl _) with ⟨h0, hn⟩ | ⟨i, r, h0, hlo, hat, hn⟩
  · rw [h0]
    show none = findL a b lo
    unfold findL
    split
    · rename_i hl
      cases e : findAt b (a.drop lo) lo with
      | none => rfl
      | some i =>
        obtain ⟨h1, h2, h3, _⟩ := findAt_some e
        rw [List.drop_drop] at h3
        rw [List.length_drop] at h2
        exact absurd (at_sOf.mpr ⟨by omega, by rw [show lo + (i - lo) = i by omega] at h3; exact h3⟩) (hn i h1)
    · rfl
  · rw [h0]
    show some i = findL a b lo
    obtain ⟨hi, hp⟩ := at_sOf.mp hat
    unfold findL
    rw [if_pos (by omega)]
    cases e : findAt b (a.drop lo) lo with
    | none =>
      have := findAt_none e (i - lo) (by rw [List.length_drop]; omega)
      rw [List.drop_drop, show lo + (i - lo) = i by omega] at this
      rw [this] at hp; cases hp
    | some j =>
      obtain ⟨h1, h2, h3, h4⟩ := findAt_some e
      rw [List.drop_drop, show lo + (j - lo) = j by omega] at h3
      rw [List.length_drop] at h2
      by_cases c : i = j
      · rw [c]
      · by_cases c2 : i < j
        · have := h4 i hlo c2
          rw [List.drop_drop, show lo + (i - lo) = i by omega] at this
          rw [this] at hp; cases hp
        · exact absurd (at_sOf.mpr ⟨by omega, h3⟩) (hn j h1 (by omega))
end PyD
end

section
set_option Elab.async false
set_option linter.all false
set_option maxRecDepth 100000
namespace PyD
variable [Om]
open PySem L2 PySem.Spec PyProof.Rows
section
variable {n : Nat} {X : Cx} {K : PySem.W.Frag} {F H : Hp}
/-! ### s.m(..) -/
def eM (g : List Nat → List D → Option O) (f : Env → R O) (r : Env → R (List Opd)) : Env → R O := fun env => match f env with
  | .ok (.fz (.str l)) e1 => (match r e1 with
    | .ok ops e => (match (resA e ops).bind (g l) with
      | some o => .ok o e
      | none => .bad)
    | .exc c ds e => .exc c ds e
    | .bad => .bad)
  | .exc c ds e => .exc c ds e
  | _ => .bad
/-! ### startswith, endswith, find -/
def isSuf (b l : List Nat) : Bool := decide (b.length ≤ l.length) && (l.drop (l.length - b.length) == b)
/-! ### split, partition by one sign -/
def splitC (c : Nat) : List Nat → List (List Nat)
  | [] => [[]]
  | x :: r => if x = c then [] :: splitC c r else match splitC c r with
    | h :: t => (x :: h) :: t
    | [] => [[x]]
end
end PyD
end

section
set_option Elab.async false
set_option linter.all false
set_option maxRecDepth 100000
namespace PyD
variable [Om]
open PySem L2 PySem.Spec PyProof.Rows
section
variable {n : Nat} {X : Cx} {K : PySem.W.Frag} {F H : Hp}
/-! ### a * b -/
theorem flat_rep (a : List Nat) : ∀ (k : Nat) (acc : List Nat), (List.replicate k a.toArray).foldl (fun x y => x ++ y) acc.toArray = (acc ++ (List.replicate k a).flatten).toArray
  | 0, acc => by simp
  | k + 1, acc => by
    rw [List.replicate_succ, List.foldl_cons, List.append_toArray, flat_rep a k (acc ++ a), List.replicate_succ, List.flatten_cons, List.append_assoc]
theorem len_flat_rep {α : Type} (a : List α) : ∀ k : Nat, (List.replicate k a).flatten.length = a.length * k
  | 0 => by simp
  | k + 1 => by
    rw [List.replicate_succ, List.flatten_cons, List.length_append, len_flat_rep a k, Nat.mul_succ, Nat.add_comm]
/-- a text so many times -/
def rMulS : R2 := fun x y H Q => ∃ (l : List Nat) (n : Int), x = .str (sOf l) ∧ y = .int n ∧ n.natAbs ≤ LIM ∧ l.length * n.toNat ≤ LIM ∧ Q (.str (sOf (List.replicate n.toNat l).flatten)) H
theorem op_mulS : OpR X (binaryOp .Mult) rMulS := by
  intro pins s σ H x y v u Q I rx ry h
  obtain ⟨l, n, rfl, rfl, hn, hl, q⟩ := h
  obtain ⟨t, rfl⟩ := rx
  obtain ⟨t', rfl⟩ := ry
  have hn1 : n ≤ (1000000 : Int) := by unfold LIM at hn; omega
  have hn2 : -(1000000 : Int) ≤ n := by unfold LIM at hn; omega
  have big : (2 : Int) ^ 63 = 9223372036854775808 := by decide
  have cap : ¬ n < 1 → ¬ ((l.length : Int) > (2 ^ 63 - 1) / n) := fun h1 => by
    have h2 : (l.length : Int) * n ≤ 1000000 := by
      have e : ((n.toNat : Nat) : Int) = n := by omega
      have h4 : ((l.length * n.toNat : Nat) : Int) ≤ ((1000000 : Nat) : Int) := Int.ofNat_le.mpr hl
      rw [Int.natCast_mul, e] at h4
      exact h4
    have h3 : (l.length : Int) ≤ (2 ^ 63 - 1) / n := Int.le_ediv_of_mul_le (by omega) (by rw [big]; omega)
    omega
  refine PySem.P.mul_str ?_ (fun h1 _ => by rw [length_sOf]; exact cap h1) (fun h1 _ => ?_) ?_
  · rw [big, decide_eq_false (by omega), decide_eq_false (by omega)]
    rfl
  · rw [length_sOf]
    show decide (_ > _) = false
    refine decide_eq_false (Nat.not_lt.mpr (Nat.le_trans hl (by decide)))
  · split
    · rename_i h1
      refine ⟨by decide, ⟨.str _, H, I.tok _, ⟨_, rfl⟩, ?_⟩⟩
      have e : n.toNat = 0 := by omega
      rw [e] at q
      exact q
    · split
      · rename_i h1 h2
        refine ⟨.str _, H, I, ⟨_, rfl⟩, ?_⟩
        rw [Bool.or_eq_true] at h2
        rcases h2 with h2 | h2
        · have e : n.toNat = 1 := by
            have := eq_of_beq h2
            omega
          rw [e] at q
          simpa using q
        · have e : l = [] := List.length_eq_zero_iff.mp (by rw [length_sOf] at h2; exact eq_of_beq h2)
          subst e
          have e2 : (List.replicate n.toNat ([] : List Nat)).flatten = [] := by simp
          rw [e2] at q
          exact q
      · have e := flat_rep l n.toNat []
        rw [List.nil_append] at e
        refine ⟨?_, ⟨.str _, H, I.tok _, ⟨_, rfl⟩, ?_⟩⟩
        · show (⟨(List.replicate n.toNat l.toArray).foldl (fun x y => x ++ y) ([] : List Nat).toArray⟩ : Str).length ≤ sizeLine
          rw [e]
          show (sOf (List.replicate n.toNat l).flatten).length ≤ sizeLine
          rw [length_sOf, len_flat_rep]
          exact lim_line hl
        · show Q (.str ⟨(List.replicate n.toNat l.toArray).foldl (fun x y => x ++ y) ([] : List Nat).toArray⟩) H
          rw [e]
          exact q
/-- a list so many times -/
theorem meets_rmulL (a : Int) (t : Tok) (l : Addr) (its : Array Value) (n : Nat) (sl : Array (Option Value)) :
    Meets (Builtin.«int.__rmul__» ⟨[.int a t, .ref l], []⟩) (fun _ R s => s.heap.get? l = some { cls := .type "list", dict := none, data := .seq its n, slots := sl } ∧
      R (.ok (.ret Value.notImplemented)) s) :=
  .of_wp fun prog w A R s h => by
    obtain ⟨hp, g, d, tk, os⟩ := s
    obtain ⟨hl, h⟩ := h
    wp_walk using AutoSeq1.wpAny_loadPart' hl
    exact ⟨_, rfl, h⟩
theorem meets_mulL (l : Addr) (its : Array Value) (n : Nat) (sl : Array (Option Value)) (x : Int) (u : Tok) (hc0 : ¬(!Builtin.List.listFitsIndex x) = true) (hc1 : ¬its.size * x.toNat > (2 ^ 63 - 1) / 8)
    (hc2 : ¬Builtin.List.listTooLong (its.size * x.toNat) = true)
    (few : (List.foldl (fun p q => p ++ q) #[] (List.replicate (if its.isEmpty = true then 0 else x.toNat) its)).size ≤ sizeLine) :
    Meets (Builtin.«list.__mul__» ⟨[.ref l, .int x u], []⟩) (fun _ R s => s.heap.get? l = some { cls := .type "list", dict := none, data := .seq its n, slots := sl } ∧ R (.ok (.ret (Value.ref s.heap.objs.size)))
      { s with heap := s.heap.push { cls := Value.type "list", data := Data.seq (List.foldl (fun p q => p ++ q) #[] (List.replicate (if its.isEmpty = true then 0 else x.toNat) its)) }, toks := s.toks }) :=
  .of_wp fun prog w A R s h => by
    obtain ⟨hp, g, d, tk, os⟩ := s
    obtain ⟨hl, h⟩ := h
    wp_walk using AutoSeq1.wpAny_loadPart' hl
    refine wpAny_ite_false (decide_eq_false (Nat.not_lt.mpr few)) ?_
    wp_walk using AutoSeq1.wpAny_loadPart' hl
    exact ⟨_, rfl, h⟩
def rMulL (K : PySem.W.Frag) : R2 := fun x y H Q => ∃ l n xs, x = .ref l ∧ y = .int n ∧ SqL K H l xs ∧ n.natAbs ≤ LIM ∧ xs.length * n.toNat ≤ LIM ∧ ∀ p, H p = none → Q (.ref p) (upd H p (.lst (List.replicate n.toNat xs).flatten))
theorem fold_rep {α : Type} (a : List α) : ∀ (k : Nat) (acc : List α), (List.replicate k a.toArray).foldl (fun x y => x ++ y) acc.toArray = (acc ++ (List.replicate k a).flatten).toArray
  | 0, acc => by simp
  | k + 1, acc => by
    rw [List.replicate_succ, List.foldl_cons, List.append_toArray, fold_rep a k (acc ++ a), List.replicate_succ, List.flatten_cons, List.append_assoc]
theorem op_mulL : OpR X (binaryOp .Mult) (rMulL X.K) := by
  intro pins s σ H x y v u Q I rx ry h
  obtain ⟨l, n, xs, rfl, rfl, rd, hn, hz, q⟩ := h
  cases rx
  obtain ⟨t, rfl⟩ := ry
  have big : (2 : Int) ^ 63 = 9223372036854775808 := by decide
  have b1 : -(2 ^ 63 : Int) ≤ n := by rw [big]; unfold LIM at hn; omega
  have b2 : n < (2 ^ 63 : Int) := by rw [big]; unfold LIM at hn; omega
  obtain ⟨_, its, m, sl, r, hl, e⟩ := rdL I rd
  have few : its.toArray.size * n.toNat ≤ LIM := by
    rw [List.size_toArray, ← hl]
    exact hz
  have made : List.foldl (fun p q => p ++ q) #[] (List.replicate (if its.toArray.isEmpty = true then 0 else n.toNat) its.toArray) = (List.replicate n.toNat its).flatten.toArray := by
    cases its with
    | nil => simp
    | cons a b =>
      rw [if_neg (by simp)]
      have := fold_rep (a :: b) n.toNat []
      rw [List.nil_append] at this
      exact this
  have f1 : ¬ (!Builtin.List.listFitsIndex n) = true := by
    rw [fitsIndex_both b1 b2]
    decide
  have f2 : ¬ its.toArray.size * n.toNat > (2 ^ 63 - 1) / 8 := Nat.not_lt.mpr (Nat.le_trans few (by decide))
  have f3 : ¬ Builtin.List.listTooLong (its.toArray.size * n.toNat) = true := by
    rw [notLongL (lim_line few)]
    decide
  have f4 : (List.foldl (fun p q => p ++ q) #[] (List.replicate (if its.toArray.isEmpty = true then 0 else n.toNat) its.toArray)).size ≤ sizeLine := by
    rw [made, List.size_toArray, len_flat_rep, ← hl]
    exact lim_line hz
  refine wpAny_binaryOp_repeat_ref (T := "list") (U := "int") (by decide) ⟨_, e, rfl⟩ (fun s' => typeIs_int s' n t)
    noFill_list_mul F.fills_int_mul F.slot_int_rmul repeat_list F.slot_int_index.lookup ?_
  refine call_meets F.slot_int_rmul (typeIs_int s n t) F.entry_int_rmul (F.args_int_rmul_2 _ _)
    (meets_rmulL n t l its.toArray m sl) ⟨e, rfl, ⟨_, e, rfl⟩, ?_⟩
  refine call_meets F.slot_list_mul ⟨_, e, rfl⟩ F.entry_list_mul (F.args_list_mul_2 _ _)
    (meets_mulL l its.toArray m sl n t f1 f2 f3 f4) ⟨e, ?_⟩
  rw [made]
  have long : (List.replicate n.toNat xs).flatten.length ≤ sizeLine := by
    rw [len_flat_rep]
    exact lim_line hz
  exact ⟨.ref _, _, I.lnew (t' := s.toks) (r.rep n.toNat) long, rfl, q _ I.fresh⟩
/-- a product of bounded factors -/
abbrev CMulX (i j : Int) : Prop := IntMulOk i j
theorem op_mulX {X : Cx} : OpR X (binaryOp .Mult) (rI CMulX fun i j => .int (i * j)) := opI fun _ _ _ _ _ _ _ hc q => mul_int q hc
theorem mulX {i j : Int} (h : isBig i = true) (k : isBig j = true) : CMulX i j := by
  have h1 : Builtin.Int.intBits i ≤ 2000000 := PySem.intBits_le_iff.mpr (log2_big h)
  have h2 : Builtin.Int.intBits j ≤ 2000000 := PySem.intBits_le_iff.mpr (log2_big k)
  have e : bitsLine = 134217728 := by decide
  show IntMulOk i j
  unfold IntMulOk
  intro z
  rw [Bool.and_eq_true] at z
  have z2 := z.2
  unfold Builtin.Int.intTooBig at z2
  have z3 := of_decide_eq_true z2
  rw [e] at z3
  omega
def rMulAll (K : PySem.W.Frag) : R2 := fun x y H Q => rI CMulX (fun i j => .int (i * j)) x y H Q ∨ rMulS x y H Q ∨ rMulL K x y H Q
theorem op_mulAll : OpR X (binaryOp .Mult) (rMulAll X.K) := OpR.or op_mulX (OpR.or op_mulS op_mulL)
def semMul : List D → Option O
  | [.int i, .int j] => if isBig i = true ∧ isBig j = true then some (.fz (.int (i * j))) else none
  | [.str a, .int n] => if n.natAbs ≤ LIM ∧ a.length * n.toNat ≤ LIM then some (.fz (.str (List.replicate n.toNat a).flatten)) else none
  | [.lst xs, .int n] => if n.natAbs ≤ LIM ∧ xs.length * n.toNat ≤ LIM then some (.lst ((List.replicate n.toNat xs).flatten.map .fz)) else none
  | _ => none
theorem reps_rep {vs : List V} {ds : List D} (h : Reps K F vs ds) : ∀ k : Nat, Reps K F (List.replicate k vs).flatten (List.replicate k ds).flatten
  | 0 => .nil
  | k + 1 => by
    rw [List.replicate_succ, List.replicate_succ, List.flatten_cons, List.flatten_cons]
    exact h.append (reps_rep h k)
theorem opb_mul : OpB K (r2 (rMulAll K)) semMul := by
  intro F H vs ds o Q s sh e q
  unfold semMul at e
  split at e
  · split at e
    · rename_i i j hb
      cases e
      obtain ⟨x, y, rfl, h1, h2⟩ := sh.two
      cases h1.int_inv; cases h2.int_inv
      exact ⟨_, _, rfl, .inl ⟨_, _, rfl, rfl, mulX hb.1 hb.2, old_val s (.int _) q⟩⟩
    · cases e
  · split at e
    · rename_i a n hb
      cases e
      obtain ⟨x, y, rfl, h1, h2⟩ := sh.two
      obtain ⟨rfl, l1⟩ := h1.str_inv
      cases h2.int_inv
      refine ⟨_, _, rfl, .inr (.inl ⟨a, n, rfl, rfl, hb.1, hb.2, old_val s (.str _ ⟨by rw [len_flat_rep]; exact lim_line hb.2, fun c m => ?_⟩) q⟩)⟩
      obtain ⟨l, ml, mc⟩ := List.mem_flatten.mp m
      rw [(List.mem_replicate.mp ml).2] at mc
      exact l1.2 c mc
    · cases e
  · split at e
    · rename_i xs n hb
      cases e
      obtain ⟨x, y, rfl, h1, h2⟩ := sh.two
      obtain ⟨a, us, rfl, g1, k1⟩ := h1.lst_inv s
      cases h2.int_inv
      exact ⟨_, _, rfl, .inr (.inr ⟨a, n, us, rfl, rfl, g1, hb.1, by rw [k1.length]; exact hb.2, fun p hp => new_lst s (reps_rep k1 n.toNat) hp q⟩)⟩
    · cases e
  · cases e
theorem snd_mul {a b : Expr} {pos : Pos} {f : Env → R (List Opd)} (h : SndL n X [a, b] f) : SndE n X (.BinOp a .Mult b pos) (eB semMul f) := snd_B h opb_mul fun σ H Q => wE_op op_mulAll σ H Q
end
end PyD
end

section
set_option Elab.async false
set_option linter.all false
set_option maxRecDepth 100000
/-! a dict looked for among None and texts: it is none of them -/
namespace PyD
open PySem L2 PySem.Spec PyProof.Rows
open PySem.SeqAt PySem.MeetsSeq PySem.AutoSeq1
theorem str_eq_dict (b : Str) (u : Tok) (l : Addr) (o : Obj) (hc : o.cls = .type "dict") {es : Array DictEntry} {ep : Nat} (hd : o.data = .dict es ep) :
    Meets (Builtin.«str.__eq__» ⟨[.str b u, .ref l], []⟩) (fun _ R s => s.heap.get? l = some o ∧ R (.ok (.ret .notImplemented)) s) :=
  .of_wp fun prog w A R s h => by
    obtain ⟨hp, g, d, tk, os⟩ := s
    obtain ⟨hl, h⟩ := h
    have f1 := F.sub_dict_str
    obtain ⟨cls, dd, data, sl⟩ := o
    cases hc
    cases hd
    wp_walk using wpAny_loadPart' hl, wpAny_load hl
    exact ⟨_, rfl, h⟩
theorem dict_eq_none (l : Addr) (o : Obj) (hc : o.cls = .type "dict") :
    Meets (Builtin.«dict.__eq__» ⟨[.ref l, .none], []⟩) (fun _ R s => s.heap.get? l = some o ∧ R (.ok (.ret .notImplemented)) s) :=
  .of_wp fun prog w A R s h => by
    obtain ⟨hl, h⟩ := h
    show wpAny _ _ (Builtin.Dict.dictSlotArgs "__eq__" ⟨[.ref l, .none], []⟩ >>= _) _ _ s
    refine wpAny_bind ?_
    unfold Builtin.Dict.dictSlotArgs
    refine wpAny_bind (wpAny_notOrdered_dict ⟨o, hl, hc⟩ ?_)
    show wpAny _ _ (pure (Value.ref l, Value.none)) _ _ s
    refine wpAny_pure ?_
    refine wpAny_bind (wpAny_isInstance (T := "NoneType") rfl PySem.F.sub_NoneType_dict ?_)
    rw [if_pos (show (!false) = true from rfl)]
    obtain ⟨hp, g, d, tk, os⟩ := s
    wp_walk
    exact ⟨_, rfl, h⟩
theorem dict_eq_str (l : Addr) (o : Obj) (hc : o.cls = .type "dict") (b : Str) (u : Tok) :
    Meets (Builtin.«dict.__eq__» ⟨[.ref l, .str b u], []⟩) (fun _ R s => s.heap.get? l = some o ∧ R (.ok (.ret .notImplemented)) s) :=
  .of_wp fun prog w A R s h => by
    obtain ⟨hl, h⟩ := h
    show wpAny _ _ (Builtin.Dict.dictSlotArgs "__eq__" ⟨[.ref l, .str b u], []⟩ >>= _) _ _ s
    refine wpAny_bind ?_
    unfold Builtin.Dict.dictSlotArgs
    refine wpAny_bind (wpAny_notOrdered_dict ⟨o, hl, hc⟩ ?_)
    show wpAny _ _ (pure (Value.ref l, Value.str b u)) _ _ s
    refine wpAny_pure ?_
    refine wpAny_bind (wpAny_isInstance (T := "str") (typeIs_str s b u) PySem.F.sub_str_dict ?_)
    rw [if_pos (show (!false) = true from rfl)]
    obtain ⟨hp, g, d, tk, os⟩ := s
    wp_walk
    exact ⟨_, rfl, h⟩
section
variable {A : Around} {s : Shared}
/-- a dict -/
def IsD (s : Shared) (l : Addr) : Prop := ∃ o, s.heap.get? l = some o ∧ o.cls = .type "dict" ∧ ∃ es ep, o.data = .dict es ep
theorem rc_none_dict {l : Addr} (hl : IsD s l) (hu : A.units < cLine) : RcAt A s .none (.ref l) false := fun prog w E Q h => by
  obtain ⟨o, ho, hc, es, ep, hd⟩ := hl
  have hl : s.TypeIs (.ref l) "dict" := ⟨o, ho, hc⟩
  exact rc_eq_decline_or (k := false) rfl hl (by decide) F.sub_dict_NoneType F.slot_NoneType_eq F.slot_dict_eq_refl
    (fun _ hq => call_gives F.slot_NoneType_eq rfl F.entry_NoneType_eq (F.args_NoneType_eq_2 _ _) (NoneType___eq___none_ref_0 l) hq)
    (fun _ hq => call_meets F.slot_dict_eq_refl hl F.entry_dict_eq (F.args_dict_eq_2 _ _) (dict_eq_none l o hc) ⟨ho, hq⟩)
    (fun _ hq => wpAny_of_eq (rfl : isSame .none (.ref l) = pure false) hq) (.inr hu) h
theorem eq_none_dict {l : Addr} (hl : IsD s l) (hu : A.units < cLine) : EqAt A s .none (.ref l) false := fun prog w E Q h => by
  unfold eqBool
  refine wpAny_holding ?_
  refine wpAny_ite_split (fun hab => absurd (eq_of_beq hab) nofun) (fun _ => ?_)
  exact wpAny_bind (rc_none_dict hl hu prog w E _ (wpAny_truthy_bool h))
theorem rc_str_dict {l : Addr} (b : Str) (u : Tok) (hl : IsD s l) (hu : A.units < cLine) : RcAt A s (.str b u) (.ref l) false := fun prog w E Q h => by
  obtain ⟨o, ho, hc, es, ep, hd⟩ := hl
  have hl : s.TypeIs (.ref l) "dict" := ⟨o, ho, hc⟩
  exact rc_eq_decline_or (k := false) (typeIs_str s b u) hl (by decide) F.sub_dict_str F.slot_str_eq F.slot_dict_eq_refl
    (fun _ hq => call_meets F.slot_str_eq (typeIs_str s b u) F.entry_str_eq (F.args_str_eq_2 _ _) (str_eq_dict b u l o hc hd) ⟨ho, hq⟩)
    (fun _ hq => call_meets F.slot_dict_eq_refl hl F.entry_dict_eq (F.args_dict_eq_2 _ _) (dict_eq_str l o hc b u) ⟨ho, hq⟩)
    (fun _ hq => wpAny_of_eq (rfl : isSame (.str b u) (.ref l) = pure false) hq) (.inr hu) h
theorem eq_str_dict {l : Addr} (b : Str) (u : Tok) (hl : IsD s l) (hu : A.units < cLine) : EqAt A s (.str b u) (.ref l) false := fun prog w E Q h => by
  unfold eqBool
  refine wpAny_holding ?_
  refine wpAny_ite_split (fun hab => absurd (eq_of_beq hab) nofun) (fun _ => ?_)
  exact wpAny_bind (rc_str_dict b u hl hu prog w E _ (wpAny_truthy_bool h))
end
end PyD
end

section
set_option Elab.async false
set_option linter.all false
set_option maxRecDepth 100000
namespace PyD
variable [Om]
open PySem L2 PySem.Spec PyProof.Rows
section
variable {n : Nat} {X : Cx} {K : PySem.W.Frag} {F H : Hp}
/-! ### a in b -/
def xorB (neg b : Bool) : Bool := if neg then !b else b
def cmpIn (neg : Bool) : CmpOp := if neg then .NotIn else .In
def rInTx (neg : Bool) : R2 := fun x y H Q => ∃ (a b : List Nat), x = .str (sOf a) ∧ y = .str (sOf b) ∧ Q (.bl (xorB neg (findL b a 0).isSome)) H
theorem occ_some (a b : List Nat) : (!(Builtin.Str.occurrences (sOf b) (sOf a) 0 (sOf b).length 1).isEmpty) = (findL b a 0).isSome := by
  rw [← occ_findL b a 0]
  cases Builtin.Str.occurrences (sOf b) (sOf a) 0 (sOf b).length 1 <;> rfl
theorem op_inTx (neg : Bool) : OpR X (compareOp (cmpIn neg)) (rInTx neg) := by
  intro pins s σ H x y v u Q I rx ry h
  obtain ⟨a, b, rfl, rfl, q⟩ := h
  rw [← occ_some] at q
  cases neg with
  | false => exact op_in_str pins s σ H _ _ v u Q I rx ry ⟨_, _, rfl, rfl, q⟩
  | true => exact op_notIn_str pins s σ H _ _ v u Q I rx ry ⟨_, _, rfl, rfl, q⟩
def rInAt (K : PySem.W.Frag) (neg : Bool) : R2 := fun x y H Q => ∃ d ds e, Dp K H x d ∧ Dp K H y e ∧ (e = .list ds ∨ e = .tuple ds) ∧ SeqAt.shaped d = true ∧ SeqAt.shaped e = true ∧ Q (.bl (xorB neg (ds.any fun z => PyData.eqv z d))) H
theorem canLays_of_tuple {ds : List PyData} (h : SeqAt.shaped (.tuple ds) = true) : PyData.canLayAll0 ds = true := SeqAt.canLay_of_shaped h
theorem op_inAt (neg : Bool) (hu : X.A.units + 65 < cLine) : OpR X (compareOp (cmpIn neg)) (rInAt X.K neg) := by
  intro pins s σ H x y v u Q I rx ry h
  obtain ⟨d, ds, e, hd, he, k, sd, se, q⟩ := h
  rcases k with rfl | rfl
  · cases neg with
    | false => exact op_inD hu pins s σ H _ _ v u Q I rx ry ⟨d, ds, hd, he, sd, se, q⟩
    | true => exact op_notInD hu pins s σ H _ _ v u Q I rx ry ⟨d, ds, hd, he, sd, se, q⟩
  · obtain ⟨as, r1⟩ := Dp.reads I d x v hd rx
    obtain ⟨bs, r2⟩ := Dp.reads I (.tuple ds) y u he ry
    have room : X.A.units + 1 + min (PyData.depthAll ds) d.depth < cLine := room_in_shaped sd hu
    cases neg with
    | false => exact SeqAt.in_tuple_reads r2 r1 (canLays_of_tuple se) (SeqAt.canLay_of_shaped sd) room ⟨.bl _, H, I, rfl, q⟩
    | true => exact SeqAt.notIn_tuple_reads r2 r1 (canLays_of_tuple se) (SeqAt.canLay_of_shaped sd) room ⟨.bl _, H, I, rfl, q⟩
def rInDk (neg : Bool) : R2 := fun x y H Q => ∃ a o, y = .ref a ∧ DGet H a x o ∧ Q (.bl (xorB neg o.isSome)) H
theorem op_inDk (neg : Bool) (hu : X.A.units + 1 < cLine) : OpR X (compareOp (cmpIn neg)) (rInDk neg) := by
  intro pins s σ H x y v u Q I rx ry h
  obtain ⟨a, o, rfl, g, q⟩ := h
  cases ry
  cases neg with
  | false => exact d_in hu I g rx fun s' I' => ⟨.bl _, H, I', rfl, q⟩
  | true => exact d_notIn hu I g rx fun s' I' => ⟨.bl _, H, I', rfl, q⟩
/-- a dict among None and texts -/
def ntV : V → Bool
  | .non => true
  | .str _ => true
  | _ => false
theorem vals_mem : ∀ {xs : List V} {us : List Value}, Vals xs us → ∀ u ∈ us, ∃ x ∈ xs, RelV x u
  | _, _, .nil, u, m => by cases m
  | _, _, .cons r rs, u, m => by
    rcases List.mem_cons.mp m with rfl | m
    · exact ⟨_, List.mem_cons_self, r⟩
    · obtain ⟨x, mx, h⟩ := vals_mem rs u m
      exact ⟨x, List.mem_cons_of_mem _ mx, h⟩
def rInNd (K : PySem.W.Frag) (neg : Bool) : R2 := fun x y H Q => ∃ a b kvs xs, x = .ref a ∧ y = .ref b ∧ Rd H a (.dK kvs) ∧ SqL K H b xs ∧ xs.all ntV = true ∧ Q (.bl neg) H
theorem op_inNd (neg : Bool) (hu : X.A.units + 65 < cLine) : OpR X (compareOp (cmpIn neg)) (rInNd X.K neg) := by
  intro pins s σ H x y v u Q I rx ry h
  obtain ⟨a, b, kvs, xs, rfl, rfl, rd, sq, nt, q⟩ := h
  obtain rfl : v = Value.ref a := rx
  obtain rfl : u = Value.ref b := ry
  obtain ⟨its, rv, pl, _⟩ := I.list sq
  obtain ⟨_, _, vs, _, o, es, ep, ho, hx, hd, _⟩ := dk_rd I.hok rd
  have isd : IsD s a := ⟨o, ho, hx.1, es, ep, hd⟩
  have hu1 : (X.A.in1).units < cLine := by show X.A.units + 1 < cLine; omega
  have he : ∀ z, z ∈ its.toArray → SeqAt.EqAt X.A.in1 s z (.ref a) false := by
    intro z hz
    obtain ⟨x, mx, r⟩ := vals_mem rv z (by simpa using hz)
    have := List.all_eq_true.mp nt x mx
    cases x with
    | non =>
      obtain rfl : z = Value.none := r
      exact eq_none_dict isd hu1
    | str t =>
      obtain ⟨t', rfl⟩ := r
      exact eq_str_dict t t' isd hu1
    | _ => cases this
  have an : (its.toArray.any fun _ => false) = false := by simp
  cases neg with
  | false => exact SeqAt.in_listAt (fun _ => false) (isL_of pl) he (by rw [an]; exact ⟨.bl _, H, I, rfl, q⟩)
  | true => exact SeqAt.notIn_listAt (fun _ => false) (isL_of pl) he (by rw [an]; exact ⟨.bl _, H, I, rfl, q⟩)
def rInAll (K : PySem.W.Frag) (neg : Bool) : R2 := fun x y H Q => rInTx neg x y H Q ∨ rInAt K neg x y H Q ∨ rInDk neg x y H Q ∨ rInNd K neg x y H Q
theorem op_inAll (neg : Bool) {k : Nat} (hr : Room k X.A) : OpR X (compareOp (cmpIn neg)) (rInAll X.K neg) := OpR.or (op_inTx neg) (OpR.or (op_inAt neg (by have := hr.un; omega)) (OpR.or (op_inDk neg (by have := hr.units; omega)) (op_inNd neg (by have := hr.un; omega))))
def ntD : D → Bool
  | .non => true
  | .str _ => true
  | _ => false
def isDicD : D → Bool
  | .dic _ => true
  | _ => false
def semInE (neg : Bool) (x : D) (ds : List D) : Option At := if isDicD x = true ∧ ds.all ntD = true then some (.bl neg) else none
theorem reps_nt : ∀ {vs : List V} {ds : List D}, Reps K H vs ds → ds.all ntD = true → vs.all ntV = true
  | _, _, .nil, _ => rfl
  | _, _, .cons (d := d) r rs, h => by
    simp only [List.all_cons, Bool.and_eq_true] at h ⊢
    refine ⟨?_, reps_nt rs h.2⟩
    have h1 := h.1
    cases d with
    | non => cases r; rfl
    | str l => obtain ⟨rfl, _⟩ := r.str_inv; rfl
    | _ => cases h1
theorem semInE_inv {neg : Bool} {x : D} {ds : List D} {a : At} (h : semInE neg x ds = some a) : (∃ es, x = .dic es) ∧ ds.all ntD = true ∧ a = .bl neg := by
  unfold semInE at h
  split at h
  · rename_i hh
    cases h
    refine ⟨?_, hh.2, rfl⟩
    cases x <;> first | exact ⟨_, rfl⟩ | (have := hh.1; cases this)
  · cases h
def semIn (neg : Bool) : List D → Option At
  | [.str a, .str b] => some (.bl (xorB neg (findL b a 0).isSome))
  | [x, .lst ds] => if okq 20 x = true ∧ okq 20 (.lst ds) = true then some (.bl (xorB neg (ds.any fun z => deq z x))) else semInE neg x ds
  | [x, .tup ds] => if okq 20 x = true ∧ okq 20 (.tup ds) = true then some (.bl (xorB neg (ds.any fun z => deq z x))) else none
  | [x, .dic es] => if isKey x = true then some (.bl (xorB neg (dget es x).isSome)) else none
  | _ => none
theorem any_toPs {x : D} (hx : okq 20 x = true) : ∀ {ds : List D}, (∀ d ∈ ds, okq 20 d = true) → ((toPs ds).any fun z => PyData.eqv z (toP x)) = ds.any fun z => deq z x
  | [], _ => by simp [toPs]
  | d :: ds, h => by
    rw [toPs, List.any_cons, List.any_cons, eqv_deq 20 20 d x (h d List.mem_cons_self) hx, any_toPs hx fun e m => h e (List.mem_cons_of_mem _ m)]
theorem okq_up : ∀ {n : Nat} {d : D}, okq n d = true → okq (n + 1) d = true := by
  intro n
  induction n with
  | zero => intro d h; cases d <;> simp_all [okq]
  | succ n ih =>
    intro d h
    cases d with
    | lst xs =>
      simp only [okq, List.all_eq_true] at h ⊢
      exact fun y m => ih (h y m)
    | tup xs =>
      simp only [okq, List.all_eq_true] at h ⊢
      exact fun y m => ih (h y m)
    | _ => simp_all [okq]
theorem okq_lst {xs : List D} (h : okq 20 (.lst xs) = true) : ∀ d ∈ xs, okq 20 d = true := fun d m => by
  simp only [okq, List.all_eq_true] at h
  exact okq_up (h d m)
theorem okq_tup {xs : List D} (h : okq 20 (.tup xs) = true) : ∀ d ∈ xs, okq 20 d = true := fun d m => by
  simp only [okq, List.all_eq_true] at h
  exact okq_up (h d m)
theorem repK_dget {kvs : List (Key × V)} {es : List (D × D)} {k : Key} {e : D} (h : RepK K F kvs es) (he : KeyD k e) : (valV kvs k).isSome = (dget es e).isSome := by
  obtain ⟨i1, i2⟩ := repK_get h he
  cases g : dget es e with
  | none => rw [i2 g]; rfl
  | some d =>
    obtain ⟨v, q, _⟩ := i1 d g
    rw [q]
    rfl
theorem opa_in (neg : Bool) : OpA K (r2 (rInAll K neg)) (semIn neg) := by
  intro H vs ds a Q r e q
  unfold semIn at e
  split at e
  · cases e
    obtain ⟨v, w, rfl, h1, h2⟩ := r.two
    obtain ⟨rfl, _⟩ := h1.str_inv
    obtain ⟨rfl, _⟩ := h2.str_inv
    exact ⟨_, _, rfl, .inl ⟨_, _, rfl, rfl, q trivial⟩⟩
  · split at e
    · rename_i x es hh
      cases e
      obtain ⟨v, w, rfl, h1, h2⟩ := r.two
      obtain ⟨k1, s1⟩ := dp_shaped h1 hh.1
      obtain ⟨k2, s2⟩ := dp_shaped h2 hh.2
      refine ⟨_, _, rfl, .inr (.inl ⟨_, toPs es, _, k1, k2, .inl (by rw [toP]), s1, s2, ?_⟩)⟩
      rw [any_toPs hh.1 (okq_lst hh.2)]
      exact q trivial
    · obtain ⟨⟨es, rfl⟩, nt, rfl⟩ := semInE_inv e
      obtain ⟨v, w, rfl, h1, h2⟩ := r.two
      obtain ⟨b, kvs, rfl, rd, rk⟩ := h1.dic_inv
      obtain ⟨_, us, rfl, s1, q1⟩ := h2.lst_inv
      exact ⟨_, _, rfl, .inr (.inr (.inr ⟨_, _, _, _, rfl, rfl, rd, s1, reps_nt q1 nt, q trivial⟩))⟩
  · split at e
    · rename_i x es hh
      cases e
      obtain ⟨v, w, rfl, h1, h2⟩ := r.two
      obtain ⟨k1, s1⟩ := dp_shaped h1 hh.1
      obtain ⟨k2, s2⟩ := dp_shaped h2 hh.2
      refine ⟨_, _, rfl, .inr (.inl ⟨_, toPs es, _, k1, k2, .inr (by rw [toP]), s1, s2, ?_⟩)⟩
      rw [any_toPs hh.1 (okq_tup hh.2)]
      exact q trivial
    · cases e
  · split at e
    · rename_i x es hh
      cases e
      obtain ⟨v, w, rfl, h1, h2⟩ := r.two
      obtain ⟨b, kvs, rfl, rd, rk⟩ := h2.dic_inv
      obtain ⟨y, rfl, ky⟩ := key_of_rep h1 hh
      refine ⟨_, _, rfl, .inr (.inr (.inl ⟨b, valV kvs y, rfl, .inl ⟨kvs, y, rd, rfl, rfl⟩, ?_⟩))⟩
      rw [repK_dget rk ky]
      exact q trivial
    · cases e
  · cases e
theorem snd_inn (neg : Bool) {a b : Expr} {pos : Pos} {f : Env → R (List Opd)} {k : Nat} (hr : Room k X.A) (h : SndL n X [a, b] f) (hm : behindInMarks (cmpIn neg) b = false := by rfl) : SndE n X (.Compare a [cmpIn neg] [b] pos) (eA (semIn neg) f) :=
  snd_A h (opa_in neg) fun σ H Q => wE_cmp (op_inAll neg hr) hm σ H Q
theorem snd_nin {a b : Expr} {pos : Pos} {f : Env → R (List Opd)} {k : Nat} (hr : Room k X.A) (h : SndL n X [a, b] f) (hm : behindInMarks .NotIn b = false := by rfl) : SndE n X (.Compare a [.NotIn] [b] pos) (eA (semIn true) f) := snd_inn true hr h hm
/-! ### isinstance(x, T) -/
inductive Ty | str | int | bool | list | tuple | dict | none
def Ty.id : Ty → String
  | .str => "str" | .int => "int" | .bool => "bool" | .list => "list" | .tuple => "tuple" | .dict => "dict" | .none => "NoneType"
end
end PyD
end

section
set_option Elab.async false
set_option linter.all false
set_option maxRecDepth 100000
namespace PyD
variable [Om]
open PySem L2 PySem.Spec PyProof.Rows
section
variable {n : Nat} {X : Cx} {K : PySem.W.Frag} {F H : Hp}
/-! ### a and b, a or b, not a: values that are truth values -/
def eAnd (f g : Env → R O) : Env → R O := fun env => match f env with
  | .ok (.fz (.bl b)) e => if b = true then g e else .ok (.fz (.bl false)) e
  | .exc c ds e => .exc c ds e
  | _ => .bad
def eOr (f g : Env → R O) : Env → R O := fun env => match f env with
  | .ok (.fz (.bl b)) e => if b = true then .ok (.fz (.bl true)) e else g e
  | .exc c ds e => .exc c ds e
  | _ => .bad
def eNot (f : Env → R O) : Env → R O := fun env => match f env with
  | .ok (.fz (.bl b)) e => .ok (.fz (.bl (!b))) e
  | .exc c ds e => .exc c ds e
  | _ => .bad
theorem sta_bl {σ : L2.St} {env : Env} {S : List Addr} (b : Bool) (st : Stt K F H σ env S) : Sta K F H σ env S [.bl b] [.fz (.bl b)] [] :=
  sta_one st (.fz (.bl b)) List.nodup_nil ⟨fun _ m => (nomatch m), fun _ m => (nomatch m), fun _ m => (nomatch m)⟩
theorem wE_one {op : BoolOp} {a : Expr} {pos : Pos} {σ : L2.St} {H : Hp} {Q : VK} (h : wE n X a σ H Q) : wE n X (.BoolOp op [a] pos) σ H Q := wE_mk fun pins s hn I => BoolOp_one (wE_run h pins s hn I)
theorem wE_and {a b : Expr} {rest : List Expr} {pos : Pos} {σ : L2.St} {H : Hp} {Q : VK} (h : wE n X a σ H fun x H1 => ∃ c, x = .bl c ∧ if c = true then wE n X (.BoolOp .And (b :: rest) pos) σ H1 Q else Q (.bl false) H1) : wE n X (.BoolOp .And (a :: b :: rest) pos) σ H Q := wE_mk fun pins s hn I => by
  refine BoolOp_and (thn' hn (wE_run h pins s hn I) fun v s1 n1 z => ?_)
  obtain ⟨x, H1, I1, r1, c, e, q1⟩ := z
  subst e
  cases r1
  refine wpAny_truthy_bool ?_
  cases c with
  | true => exact wE_run q1 pins s1 n1 I1
  | false => exact ⟨.bl false, H1, I1, rfl, q1⟩
theorem snd_one {op : BoolOp} {a : Expr} {pos : Pos} {f : Env → R O} (h : SndE n X a f) : SndE n X (.BoolOp op [a] pos) f := .mk fun W tk env σ F H S Q st q =>
  wE_one (h.run W tk env σ F H S Q st q)
theorem snd_and {a b : Expr} {rest : List Expr} {pos : Pos} {f g : Env → R O} (h : SndE n X a f) (k : SndE n X (.BoolOp .And (b :: rest) pos) g) : SndE n X (.BoolOp .And (a :: b :: rest) pos) (eAnd f g) := by
  refine .mk fun W tk env σ F H S Q st q => ?_
  refine wE_and (h.run W tk env σ F H S _ st ?_)
  unfold eAnd at q
  revert q
  cases f env with
  | exc c ds e => exact fun q => q
  | bad => exact fun q => q.elim
  | ok o e =>
    cases o with
    | fz d =>
      cases d with
      | bl b =>
        intro q v F1 H1 S1 T tr s
        have one := s.one
        cases one with
        | fz rp =>
        refine ⟨b, rp.bl_inv, ?_⟩
        have t1 : Trans F H S F1 H1 S1 := tr.sub fun x m => List.mem_append_right _ m
        cases b with
        | true => exact k.run W tk e σ F1 H1 S1 _ s.st (q.over t1)
        | false => exact q _ F1 H1 S1 [] (by simpa using t1) (sta_bl false s.st)
      | _ => exact fun q => q.elim
    | _ => exact fun q => q.elim
/-! ### what is never reached; names of the module -/
/-! ### any, all, sum, max, min of a list -/
def intsOf : List D → Option (List Int)
  | [] => some []
  | .int i :: r => (intsOf r).map (i :: ·)
  | _ => none
/-! ### s.join(list) -/
end
end PyD
end

section
set_option Elab.async false
set_option linter.all false
set_option maxRecDepth 100000
namespace PyD
variable [Om]
open PySem L2 PySem.Spec PyProof.Rows
section
variable {n : Nat} {X : Cx} {K : PySem.W.Frag} {F H : Hp} {tg : Expr}
/-! ### list(x) -/
/-- list(range(a, b)) -/
theorem SndE.up {e : Expr} {f : Env → R O} (h : SndE 0 X e f) : SndE n X e f := .mk fun W tk env σ F H S Q st q => wE_up (h.run W tk env σ F H S Q st q)
/-! ### x[::-1] -/
/-! ### for i, x in enumerate(xs) -/
/-- what walks a frozen value by a rule -/
def iFz (g : D → Option (List O)) (f : Env → R O) : Env → R (List O) := fun env => match f env with
  | .ok o e => (match g o.erase with
    | some os => .ok os e
    | none => .bad)
  | .exc c ds e => .exc c ds e
  | .bad => .bad
end
end PyD
end

section
set_option Elab.async false
set_option linter.all false
set_option maxRecDepth 100000
namespace PyD
variable [Om]
open PySem L2 PySem.Spec PyProof.Rows
/-! ### a, b = x, y: plain local names -/
def setV : List Nat → List V → L2.St → L2.St
  | j :: js, v :: vs, σ => setV js vs (σ.set j (some v))
  | _, _, σ => σ
def setO : List Nat → List O → Env → Env
  | j :: js, o :: os, env => setO js os (env.set j (some o))
  | _, _, env => env
theorem stt_stores {K : PySem.W.Frag} {F H : Hp} : ∀ {js : List Nat} {vs : List V} {os : List O} {T S : List Addr} {env : Env} {σ : L2.St}, Sta K F H σ env S vs os T → js.length = os.length → (∀ j ∈ js, j < env.length) →
    ∃ S', Trans F H (T ++ S) F H S' ∧ Stt K F H (setV js vs σ) (setO js os env) S'
  | [], vs, os, T, S, env, σ, s, hl, hj => by
    have : os = [] := List.length_eq_zero_iff.mp hl.symm
    subst this
    have e := s.val
    cases e
    exact ⟨S, by simpa using Trans.refl, s.st⟩
  | j :: js, vs, os, T, S, env, σ, s, hl, hj => by
    cases os with
    | nil => cases hl
    | cons o os =>
      have ow := s.val
      cases ow with
      | cons a b =>
        rename_i v vs fp fq
        have nd := List.nodup_append.mp s.nd
        have as1 : Aside F H S fp := ⟨fun x m => s.as.ns x (List.mem_append_left _ m), fun x m => s.as.nf x (List.mem_append_left _ m), fun x m => s.as.lv x (List.mem_append_left _ m)⟩
        have as2 : Aside F H (fp ++ S) fq := ⟨fun x m n => (List.mem_append.mp n).elim (fun n => nd.2.2 x n x m rfl) (s.as.ns x (List.mem_append_right _ m)), fun x m => s.as.nf x (List.mem_append_right _ m), fun x m => s.as.lv x (List.mem_append_right _ m)⟩
        obtain ⟨S1, t, st1⟩ := stt_store (i := j) (⟨s.st, by simpa using Owns.cons a Owns.nil, nd.1, as1⟩ : Sta K F H σ env S [v] [o] fp) (hj j List.mem_cons_self)
        obtain ⟨S', t2, st2⟩ := stt_stores (js := js) (⟨st1, b, nd.2.1, as2.over t⟩ : Sta K F H _ _ S1 vs os fq) (Nat.succ.inj hl) fun x m => by rw [List.length_set]; exact hj x (List.mem_cons_of_mem _ m)
        have app : ∀ x, x ∈ fp ++ S → x ∈ (fp ++ fq) ++ S := fun x m => by
          rcases List.mem_append.mp m with m | m
          · exact List.mem_append_left _ (List.mem_append_left _ m)
          · exact List.mem_append_right _ m
        have t' : Trans F H ((fp ++ fq) ++ S) F H (fq ++ S1) := by
          refine ⟨fun x u e n => t.fr x u e fun m => n (app x m), t.ff, fun x u e => ?_, fun x m => ?_, t.dm⟩
          · rcases t.fn x u e with z | z | z
            · exact .inl z
            · exact .inr (.inl (app x z))
            · exact .inr (.inr z)
          · rcases List.mem_append.mp m with m | m
            · exact .inl (List.mem_append_left _ (List.mem_append_right _ m))
            · rcases t.sn x m with z | z
              · exact .inl (app x z)
              · exact .inr z
        exact ⟨S', t'.trans t2, st2⟩
def sPar (js : List Nat) (f : Env → R (List O)) : Env → R Fl := fun env => match f env with
  | .ok os e => if js.length = os.length ∧ (js.all fun j => decide (j < e.length)) = true then .ok .nx (setO js os e) else .bad
  | .exc c ds e => .exc c ds e
  | .bad => .bad
theorem agree_sets {pr : Nat → Bool} : ∀ {js : List Nat} {vs : List V} {σ : L2.St}, (∀ j ∈ js, pr j = false) → Agree pr σ (setV js vs σ)
  | [], _, σ, _ => by cases ‹List V› <;> exact Agree.refl
  | j :: js, [], σ, _ => Agree.refl
  | j :: js, v :: vs, σ, h => (Agree.set (h j List.mem_cons_self)).trans (agree_sets fun x m => h x (List.mem_cons_of_mem _ m))
section
variable {n : Nat} {X : Cx} {pr : Nat → Bool}
theorem post_par {W : WX} {js : List Nat} {es : List Expr} {f : Env → R (List O)} {σ : L2.St} {F H : Hp} {S : List Addr} {D : Ends} {r : R (List O)} (hp : ∀ j ∈ js, pr j = false)
    (q : PostS X W pr σ F H S D (match r with
      | .ok os e => if js.length = os.length ∧ (js.all fun j => decide (j < e.length)) = true then .ok .nx (setO js os e) else .bad
      | .exc c ds e => .exc c ds e
      | .bad => .bad)) : PostA X W σ F H S (fun vs H1 => js.length = vs.length ∧ D.nx (setV js vs σ) H1) r := by
  cases r with
  | exc c ds e => exact ExcPostS.e q
  | bad => exact q
  | ok os e =>
    intro vs F1 H1 S1 T tr s
    revert q
    show PostS X W pr σ F H S D (if js.length = os.length ∧ (js.all fun j => decide (j < e.length)) = true then .ok .nx (setO js os e) else .bad) → _
    by_cases hh : js.length = os.length ∧ (js.all fun j => decide (j < e.length)) = true
    · rw [if_pos hh]
      intro q
      obtain ⟨S', t, st⟩ := stt_stores s hh.1 fun j m => by
        have := List.all_eq_true.mp hh.2 j m
        exact of_decide_eq_true this
      exact ⟨hh.1.trans s.val.length.symm, q _ _ _ _ (tr.trans t) st (agree_sets hp)⟩
    · rw [if_neg hh]
      exact fun q => q.elim
theorem wS_par {i j : Nat} {x y : Str} {a b : Expr} {px py pt pos : Pos} {kt k2 pt2} (hc : X.calm = true) (hN : X.N.Nodup) (hi : X.N[i]? = some x) (hj : X.N[j]? = some y) (hij : i ≠ j)
    (hx : X.env.scope.names.lookup x = some .local) (hy : X.env.scope.names.lookup y = some .local)
    (hw : swappedStores [.Tuple [.Name x px, .Name y py] kt pt] (.Tuple [a, b] k2 pt2) X.env = pure (some [x, y]))
    (hs : swapsWithSole [.Tuple [.Name x px, .Name y py] kt pt] (.Tuple [a, b] k2 pt2) pos.line X.env = pure false) {σ : L2.St} {H : Hp} {D : Ends}
    (h : wA n X [a, b] σ H fun vs H1 => ∃ v w, vs = [v, w] ∧ D.nx ((σ.set i (some v)).set j (some w)) H1) : wS n X (.Assign [.Tuple [.Name x px, .Name y py] kt pt] (.Tuple [a, b] k2 pt2) pos) D σ H := by
  intro pins s hn I
  rw [exec_Assign_arm]
  refine wpAny_bind (wpAny_standAt ?_)
  rw [hs]
  refine wpAny_bind (wpAny_pure ?_)
  rw [if_neg Bool.false_ne_true]
  refine wpAny_bind (Tuple_ (thn (h _ pins s hn I) fun us s1 z => ?_))
  obtain ⟨vs, H1, I1, r1, v, w, e1, q1⟩ := z
  subst e1
  obtain ⟨u1, us', rv, rw1, e2⟩ : ∃ u1 us', RelV v u1 ∧ Vals [w] us' ∧ us = u1 :: us' := by
    cases r1 with
    | cons p q => exact ⟨_, _, p, q, rfl⟩
  obtain ⟨u2, rw2, e3⟩ : ∃ u2, RelV w u2 ∧ us' = [u2] := by
    cases rw1 with
    | cons p q =>
      cases q
      exact ⟨_, p, rfl⟩
  subst e3
  subst e2
  refine wpAny_newObj_type ?_ (show 2 ≤ sizeLine by decide)
  have J := I1.kept (h' := s1.heap.push { cls := .type "tuple", data := .seq [u1, u2].toArray }) (t' := s1.toks) fun b o e => Heap.get?_push_of_some _ e
  rw [hw]
  refine wpAny_bind (wpAny_pure ?_)
  show wpAny (model X.prog X.w) X.A (do
    rule "assign.swapped-stores"
    let items ← unpackItems (.ref s1.heap.objs.size) 2 none
    assignInOrder [fun v => bindName X.env y v, fun v => bindName X.env x v] items.reverse
    pure Flow.next) _ _ _
  refine wpAny_bind (wpAny_rule (wpAny_bind (unpackItems_tuple (items := #[u1, u2]) (I.ok.hd hc) (IsTup.new s1.heap _) fun g stay => ?_)))
  have J2 := J.kept (h' := g) (t' := s1.toks) fun b o e => stay b o (Nat.ne_of_lt (Heap.lt_size e)) e
  show wpAny _ _ (assignInOrder [fun v => bindName X.env y v, fun v => bindName X.env x v] [u2, u1] >>= fun _ => pure Flow.next) _ _ _
  refine wpAny_bind (assignInOrder_cons (wpAny_bindName (store_ok J2 hN hj (.inl hy) rw2 (fun s2 J3 => ?_) (.inr hy))))
  refine assignInOrder_cons (wpAny_bindName (store_ok J3 hN hi (.inl hx) rv (fun s3 J4 => assignInOrder_nil (wpAny_pure ?_)) (.inr hx)))
  rw [List.set_comm _ _ (Ne.symm hij)] at J4
  exact ⟨_, H1, J4, q1⟩
theorem snd_par2 {i j : Nat} {x y : Str} {a b : Expr} {px py pt pos : Pos} {kt k2 pt2} {f : Env → R (List O)} (hc : X.calm = true) (hN : X.N.Nodup) (hi : X.N[i]? = some x) (hj : X.N[j]? = some y) (hij : i ≠ j)
    (hx : X.env.scope.names.lookup x = some .local) (hy : X.env.scope.names.lookup y = some .local) (h : SndA n X [a, b] f) (pl : Plain X [a, b]) (p1 : pr i = false) (p2 : pr j = false)
    (hw : swappedStores [.Tuple [.Name x px, .Name y py] kt pt] (.Tuple [a, b] k2 pt2) X.env = pure (some [x, y]))
    (hs : swapsWithSole [.Tuple [.Name x px, .Name y py] kt pt] (.Tuple [a, b] k2 pt2) pos.line X.env = pure false := by rfl) :
    SndS n X pr (.Assign [.Tuple [.Name x px, .Name y py] kt pt] (.Tuple [a, b] k2 pt2) pos) (sPar [i, j] f) := by
  refine .mk fun W tk env σ F H S D st q => ?_
  refine wS_par hc hN hi hj hij hx hy hw hs (wA_L pl ?_)
  have hp : ∀ n ∈ [i, j], pr n = false := fun n m => by
    rcases List.mem_cons.mp m with rfl | m
    · exact p1
    · rw [List.mem_singleton.mp m]; exact p2
  have key := h.run W tk env σ F H S _ st (post_par (es := [a, b]) (f := f) hp q)
  refine wE_mono key fun v H1 h1 => wE_mono h1 fun u H2 h2 => ?_
  exact ⟨v, u, rfl, h2.2⟩
end
end PyD
end

section
set_option Elab.async false
set_option linter.all false
set_option maxRecDepth 100000
namespace PyD
variable [Om]
open PySem L2 PySem.Spec PyProof.Rows
/-! ### what a program's derivations ask -/
def visB (sc : Scope) (x : Str) : Bool := match sc.names.lookup x with
  | some .local => true
  | some .cell => true
  | some .free => true
  | _ => false
theorem vis_ok {sc : Scope} {x : Str} (h : visB sc x = true) : Vis sc x := by
  unfold visB at h
  unfold Vis
  split at h <;> simp_all
def locB (sc : Scope) (x : Str) : Bool := match sc.names.lookup x with
  | some .local => true
  | some .cell => true
  | _ => false
theorem loc_ok {sc : Scope} {x : Str} (h : locB sc x = true) : L2.Loc sc x := by
  unfold locB at h
  unfold L2.Loc
  split at h <;> simp_all
def kLoc : NameKind → Bool
  | .local => true
  | .cell => true
  | _ => false
def kFree : NameKind → Bool
  | .free => true
  | _ => false
def kOut (k : Option NameKind) : Bool := match k with
  | some .cell => true
  | some .free => true
  | _ => false
def isFun : ScopeKind → Bool
  | .function => true
  | _ => false
def blkB (N : List Str) (sc scope : Scope) (own : List (Str × Nat)) : Bool :=
  isFun scope.kind && (scope.names.all fun y => decide (scope.names.lookup y.1 = some y.2)) && (own.all fun p => decide (N[p.2]? = some p.1)) &&
  (scope.names.all fun y => !(kFree y.2) || kOut (sc.names.lookup y.1)) && (scope.names.all fun y => !(kLoc y.2) || ((own.map (·.1)).contains y.1 || !(N.contains y.1)))
theorem blk_ok {N : List Str} {sc scope : Scope} {own : List (Str × Nat)} (h : blkB N sc scope own = true) : BlkOk N sc scope own := by
  unfold blkB at h
  simp only [Bool.and_eq_true, List.all_eq_true, decide_eq_true_iff, Bool.or_eq_true] at h
  obtain ⟨⟨⟨⟨h1, h2⟩, h3⟩, h4⟩, h5⟩ := h
  refine ⟨?_, h2, h3, fun y m e => ?_, fun y m e => ?_⟩
  · cases q : scope.kind <;> rw [q] at h1 <;> simp [isFun] at h1 ⊢
  · rcases h4 y m with z | z
    · rw [e] at z
      simp [kFree] at z
    · revert z
      unfold kOut
      split
      · rename_i q; exact fun _ => .inl q
      · rename_i q; exact fun _ => .inr q
      · exact fun z => by cases z
  · rcases h5 y m with z | z
    · rcases e with e | e <;> rw [e] at z <;> simp [kLoc] at z
    · rcases z with z | z
      · exact .inl (by simpa using z)
      · exact .inr (by simpa using z)
section
variable {P : Program} {w : World} {K : PySem.W.Frag} {mg : Str → Option Value} {base : Heap} {x qual : Str} {params : Arguments} {body : List Stmt} {scope : Scope} {f : Addr} {fd : FuncData}
/-- a def from its derivation -/
theorem callee_of {N ps : List Str} {k m n : Nat} {reb : List Bool} {g : Env → R Fl} (F : FunD K x qual params body scope [] [] f fd) (hm : mg x = some (.ref f)) (S : FnScope N ps scope) (hl : ps.length = reb.length) (hn : N.length - ps.length = n) (tb : tokB m scope ps = true)
    (hb : ∀ (kV doc pm : Value) (an : Option Addr) (cdv ct : Value) (us : List Value), us.length = ps.length → bindArgs (PySem.W.fnOf x qual params body scope .none kV doc pm an cdv ct) ⟨us, []⟩ = pure (ps.zip us))
    (hd : ∀ (cdv : Value) (A : Around) (outer : List PySem.Env) (s : Shared) (H : Hp) (E : XK), RoomG k (A.deeper (envOfC qual scope s.heap.objs.size f cdv)) → SndSs m (cxOf (L2N.CX P w) P w K mg base N qual scope f cdv A outer s H E) (prOf reb) body g) :
    Callee P w K mg base x (k + 1) ps (fnSem reb n g) := by
  refine ⟨f, fd, hm, F.kp, fnG_of F S tb (fun h => h.1) fun cdv A outer s H vs Q E hr h => ?_, F.bindsN hb⟩
  have e : start N vs = vs.map some ++ List.replicate n none := by
    rw [start_eq, h.1, hn]
  rw [e]
  rw [hl] at h
  exact body_post (hd cdv A outer s H E hr) (L2N.takes_of rfl rfl rfl rfl) h
theorem fnok_of {N ps : List Str} {k m n : Nat} {reb : List Bool} {g : Env → R Fl} (F : FunD K x qual params body scope [] [] f fd) (S : FnScope N ps scope) (hl : ps.length = reb.length) (hn : N.length - ps.length = n) (tb : tokB m scope ps = true)
    (hd : ∀ (cdv : Value) (A : Around) (outer : List PySem.Env) (s : Shared) (H : Hp) (E : XK), RoomG k (A.deeper (envOfC qual scope s.heap.objs.size f cdv)) → SndSs m (cxOf (L2N.CX P w) P w K mg base N qual scope f cdv A outer s H E) (prOf reb) body g) :
    FnG P w K mg base (L2N.CX P w) (k + 1) f fd ps (spF K (fnSem reb n g) ps.length) := by
  refine fnG_of F S tb (fun h => h.1) fun cdv A outer s H vs Q E hr h => ?_
  have e : start N vs = vs.map some ++ List.replicate n none := by
    rw [start_eq, h.1, hn]
  rw [e]
  rw [hl] at h
  exact body_post (hd cdv A outer s H E hr) (L2N.takes_of rfl rfl rfl rfl) h
theorem reps_ints {F : Hp} : ∀ ns : List Int, Reps K F (ns.map V.int) (ns.map D.int)
  | [] => .nil
  | i :: r => .cons (.int i) (reps_ints r)
/-- the promise of a law's def -/
theorem law_sp {φ : List O → FR} {H : Hp} {a : Addr} {ns : List Int} (hS : SqL K H a (ns.map V.int)) (h : ∃ outs, φ [.fz (.lst (ns.map D.int))] = .ret (.fz (.bl true)) outs) : spF K φ 1 [.ref a] H (fun v _ => v = .bl true) fun _ _ _ => False := by
  obtain ⟨outs, h⟩ := h
  refine ⟨rfl, H, [.fz (.lst (ns.map D.int))], [], Ex.refl H, .cons (fp := []) (fq := []) (.fz (.lst hS (reps_ints ns))) .nil, List.nodup_nil, fun _ m => (nomatch m), ?_⟩
  rw [h]
  intro v F' H' T1 T2 _ _ ow _ _ _
  cases ow with
  | fz r => exact r.bl_inv
theorem Callee.up {j k : Nat} {ps : List Str} {φ : List O → FR} (C : Callee P w K mg base x j ps φ) (h : j ≤ k) : Callee P w K mg base x k ps φ := by
  obtain ⟨f, fd, a, b, c, d⟩ := C.ex
  exact ⟨f, fd, a, b, c.mono h, d⟩
end
section
variable {n : Nat} {X : Cx}
def okB (l : List Nat) : Bool := decide (l.length ≤ LIM) && l.all fun c => decide (c < 128)
theorem okB_ok {l : List Nat} (h : okB l = true) : okS l := by
  simp only [okB, Bool.and_eq_true, decide_eq_true_iff, List.all_eq_true] at h
  exact ⟨lim_line h.1, h.2⟩
theorem snd_cstr {z : Str} {j} {pos : Pos} {l : List Nat} (h : z = sOf l) (hl : okB l = true) : SndE n X (.Constant (.str z) j pos) (eC (.str l)) := by
  subst h
  exact snd_c (a := .str l) pe_str (okB_ok hl)
theorem gl_ok {x : Str} (h : X.env.kindOf x = some .globalImplicit) : Gl X x := h
theorem blt {x : Str} {u : Value} (hm : X.mg x = none) (hb : bootBuiltins x = some u) (hg : X.env.kindOf x = some .globalImplicit) (hn : x ≠ "__name__") (hd : (x == ("__debug__" : Str)) = false) : BuiltinAt X x u := ⟨hg, hm, hb, hn, hd⟩
end
/-- the law's call over the script -/
theorem law_callG {P : Program} {w : World} {K : PySem.W.Frag} {mg mb : Str → Option Value} {CX : CXT} {k : Nat} {fa a : Addr} {fd : FuncData} {x : Str} {sp : Sp} {t : Shared} {us : List Value} {ns : List Int}
    (kin : K.In t.heap) (gl : t.heap.Ns mainGlobals mg) (bl : t.heap.Ns builtinsNs mb) (boot : ∀ x : Str, x ≠ "__name__" → mb x = bootBuiltins x) (free : t.heap.NoLimit) (gens : t.gens = #[])
    (obj : t.heap.get? a = some { cls := .type "list", data := .seq us.toArray }) (whole : IntsAre us ns) (few : ns.length ≤ sizeLine) (room : RoomG k callerA)
    (F : ∀ base : Heap, K.In base → base.Ns mainGlobals mg → FnG P w K mg base CX k fa fd [x] sp) (binds : ∀ (s : Shared) (u : Value), BindsTo s fd ⟨[u], []⟩ [(x, u)])
    (says : ∀ H : Hp, Only H → SqL K H a (ns.map V.int) → sp [.ref a] H (fun v _ => v = .bl true) fun _ _ _ => False) (no : ∀ H e s', CX [] H t (fun _ _ _ => False) e s' → False) :
    codeAny (model P w) callerA (.call (.ref fa) ⟨[.ref a], []⟩) (fun r s' => r = .ok (.ret (.bool true)) ∧ OldK t.heap s'.heap ∧ s'.os = t.os ∧ AllBare s'.gens) t := by
  have same := vals_ints whole
  have len := whole.length
  have one : ∀ G : Hp, Only G → SqL K G a (ns.map V.int) → HOk P w G t.heap → (∀ b, G b ≠ none → b = a) → (G a ≠ none → K.lookup a = none) →
      codeAny (model P w) callerA (.call (.ref fa) ⟨[.ref a], []⟩) (fun r s' => r = .ok (.ret (.bool true)) ∧ OldK t.heap s'.heap ∧ s'.os = t.os ∧ AllBare s'.gens) t := by
    intro G only seq good alone notK
    have hid : ∀ {b : Addr} {o : Obj}, t.heap.get? b = some o → G b = none → (hidT t.heap G).get? b = some o := fun e n => hidT_get e n
    have nodict : ∀ {b : Addr} {o : Obj} {es : Array DictEntry} {ep : Nat}, t.heap.get? b = some o → o.data = .dict es ep → G b = none := by
      intro b o es ep e d
      rcases hG : G b with _ | u
      · rfl
      · have eb : b = a := alone b (by rw [hG]; simp)
        subst eb
        rw [obj] at e
        cases e
        exact Data.noConfusion (show Data.seq us.toArray _ = Data.dict es ep from d)
    have nsp : ∀ {b : Addr} {m : Str → Option Value}, t.heap.Ns b m → (hidT t.heap G).Ns b m := by
      rintro b m ⟨o, es, ep, e, d, r⟩
      exact ⟨o, es, ep, hid e (nodict e d), d, r⟩
    have kinH : K.In (hidT t.heap G) := by
      intro b o e
      refine hid (kin b o e) ?_
      rcases hG : G b with _ | u
      · rfl
      · have eb : b = a := alone b (by rw [hG]; simp)
        subst eb
        rw [notK (by rw [hG]; simp)] at e
        cases e
    obtain ⟨mc, l1, l2⟩ := free
    have modH : Mod K mg (hidT t.heap G) := ⟨kinH, nsp gl, ⟨mb, nsp bl, boot⟩, ⟨mc, nsp l1, l2⟩⟩
    have nil : ∀ {b : Addr}, ¬ b ∈ ([] : List Addr) := fun m => nomatch m
    have env0 : Env0 P w K mg (hidT t.heap G) callerA [] t G := ⟨rfl, modH, fun b o e => of_hidT e, Nat.le_of_eq (hidT_size _ _), trivial, fun b hb => (nil hb).elim, good, .of_eq gens⟩
    refine codeAny_mono ((F _ kinH (nsp gl)).run (args := ⟨[.ref a], []⟩) (us := [.ref a]) (vs := [.ref a]) room env0 (binds t (.ref a)) (.cons rfl .nil) (says G only seq)) ?_
    intro r s' z
    match r, z with
    | .error e, z => exact (no G e s' z).elim
    | .ok .next, z => exact z.elim
    | .ok .brk, z => exact z.elim
    | .ok .cont, z => exact z.elim
    | .ok (.ret u), z =>
      obtain ⟨v, G', os, bare, un, good', rel, q⟩ := z
      obtain rfl : v = V.bl true := q
      obtain rfl : u = Value.bool true := rel
      refine ⟨rfl, OldK.of_keep ?_, os, bare⟩
      intro b o e
      rcases hG : G b with _ | u
      · exact un.keep b o e hG (fun m => nil m) (by simp)
      · rcases only b with n | ⟨ob, xs, n⟩
        · rw [hG] at n
          cases n
        · have was := (good b _ n).1
          have is := (good' b _ (un.frzs b ob _ n)).1
          rw [e] at was
          cases was
          exact is
  rcases hk : K.lookup a with _ | o
  · let G : Hp := fun b => if b = a then some (.frz { cls := .type "list", data := .seq us.toArray } (.lst (ns.map V.int))) else none
    have at' : ∀ b u, G b = some u → b = a ∧ u = HO.frz { cls := .type "list", data := .seq us.toArray } (.lst (ns.map V.int)) := by
      intro b u z
      by_cases hb : b = a
      · exact ⟨hb, (Option.some.inj ((if_pos hb).symm.trans z)).symm⟩
      · exact nomatch (if_neg hb).symm.trans z
    refine one G (fun b => ?_) (.inl (.inr ⟨{ cls := .type "list", data := .seq us.toArray }, if_pos rfl⟩)) (fun b u z => ?_) (fun b z => ?_) fun _ => hk
    · by_cases hb : b = a
      · exact .inr ⟨_, _, if_pos hb⟩
      · exact .inl (if_neg hb)
    · obtain ⟨rfl, rfl⟩ := at' b u z
      exact ⟨obj, by rw [List.length_map]; exact few, us, _, same, obj⟩
    · rcases hG : G b with _ | u
      · exact absurd hG z
      · exact (at' b u hG).1
  · have e := kin a o hk
    rw [obj] at e
    cases e
    refine one (fun _ => none) (fun _ => .inl rfl) (.inr ⟨_, us.toArray, _, hk, rfl, rfl, rfl, ?_, by simpa using same⟩) (fun b u z => nomatch (show (none : Option HO) = some u from z)) (fun b z => (z rfl).elim) fun z => (z rfl).elim
    rw [List.size_toArray, len]
    exact few
omit [Om] in
/-- a law, the exceptions as its defs let them out; the numbers of the script are bounded -/
theorem walk_law {l : PySem.W.OpenLaw} {n k : Nat} {q : Program} {loose : List Str} {XP : (Str → Option Value) → Heap → Prop} {YP : World → Heap → Prop} {d : DefRec} {x : Str}
    (most : l.most = some n) (small : n ≤ sizeLine) (nodef : d.params.defaults = []) (room : RoomG k callerA)
    (F : ∀ (w : World) (mg : Str → Option Value) (fa : Addr) (h : Heap), YP w h → h.Ns mainGlobals mg → mg d.name = some (.ref fa) →
      ∃ (om : Om) (K : PySem.W.Frag) (fd : FuncData) (φ : List O → FR), K.In h ∧ (∀ (s : Shared) (u : Value), BindsTo s fd ⟨[u], []⟩ [(x, u)]) ∧
        (∀ ns : List Int, ns.length ≤ n → (∀ z ∈ ns, Builtin.Int.intBits z ≤ 1048576) → ∃ outs, φ [.fz (.lst (ns.map D.int))] = .ret (.fz (.bl true)) outs) ∧
        ∀ base : Heap, K.In base → base.Ns mainGlobals mg → FnG l.prog w K mg base (L2N.CX l.prog w) k fa fd [x] (@spF om K φ 1)) :
    PySem.W.WalkO q loose XP YP l.row.toRowW d [] (fun f vs => PySem.call f vs) := by
  refine Att.attach_callB most nodef fun w s₀ s₁ mg mb fa o pm cd doc a vs ns G Y _ _ _ atLaw obj whole few bits gens => ?_
  obtain ⟨om, K, fd, φ, KX, binds, says, ok⟩ := F w mg fa _ Y G.T.g atLaw
  refine law_callG KX G.T.g G.T.b G.T.builtins G.T.nolimit gens obj whole (Nat.le_trans few small) room ok binds
    (fun H _ hS => law_sp hS (says ns few bits)) fun H e s' z => ?_
  obtain ⟨_, _, _, _, _, _, _, _, _, _, _, _, no⟩ := z
  exact no
end PyD
end

section
set_option Elab.async false
set_option linter.all false
set_option maxRecDepth 100000
namespace PyD
variable [Om]
open PySem L2 PySem.Spec PyProof.Rows
/-! ### calls by the names of the parameters -/
def pick {α : Type} (π : List Nat) (l : List α) : List α := π.filterMap (l[·]?)
/-- operands with what each one owns -/
inductive Tri (K : PySem.W.Frag) (F H : Hp) (σ : L2.St) : List V → List Opd → List (List Addr) → Prop
  | nil : Tri K F H σ [] [] []
  | v {i : Nat} {v : V} {vs : List V} {ops : List Opd} {T : List (List Addr)} : σ[i]? = some (some v) → Tri K F H σ vs ops T → Tri K F H σ (v :: vs) (.v i :: ops) ([] :: T)
  | t {o : O} {v : V} {vs : List V} {ops : List Opd} {fp : List Addr} {T : List (List Addr)} : Own K F H v o fp → Tri K F H σ vs ops T → Tri K F H σ (v :: vs) (.t o :: ops) (fp :: T)
section
variable {K : PySem.W.Frag} {F H : Hp} {σ : L2.St}
theorem Tri.len : ∀ {vs ops fs}, Tri K F H σ vs ops fs → vs.length = ops.length ∧ fs.length = ops.length
  | _, _, _, .nil => ⟨rfl, rfl⟩
  | _, _, _, .v h r => by obtain ⟨a, b⟩ := Tri.len r; simp [a, b]
  | _, _, _, .t h r => by obtain ⟨a, b⟩ := Tri.len r; simp [a, b]
theorem Tri.get : ∀ {vs ops fs} {i : Nat}, Tri K F H σ vs ops fs → i < ops.length → ∃ v o fp, vs[i]? = some v ∧ ops[i]? = some o ∧ fs[i]? = some fp ∧ Tri K F H σ [v] [o] [fp]
  | _, _, _, 0, .v h r, _ => ⟨_, _, _, rfl, rfl, rfl, .v h .nil⟩
  | _, _, _, 0, .t h r, _ => ⟨_, _, _, rfl, rfl, rfl, .t h .nil⟩
  | _, _, _, i + 1, .v h r, hi => by
    obtain ⟨v, o, fp, a, b, c, d⟩ := Tri.get r (i := i) (by simpa using hi)
    exact ⟨v, o, fp, by simpa using a, by simpa using b, by simpa using c, d⟩
  | _, _, _, i + 1, .t h r, hi => by
    obtain ⟨v, o, fp, a, b, c, d⟩ := Tri.get r (i := i) (by simpa using hi)
    exact ⟨v, o, fp, by simpa using a, by simpa using b, by simpa using c, d⟩
  | _, _, _, _, .nil, hi => by simp at hi
theorem Tri.cons1 {v o fp} {vs ops fs} (a : Tri K F H σ [v] [o] [fp]) (b : Tri K F H σ vs ops fs) : Tri K F H σ (v :: vs) (o :: ops) (fp :: fs) := by
  cases a with
  | v h r => exact .v h b
  | t h r => exact .t h b
theorem Tri.pick {vs ops fs} (r : Tri K F H σ vs ops fs) : ∀ π : List Nat, Tri K F H σ (PyD.pick π vs) (PyD.pick π ops) (PyD.pick π fs)
  | [] => .nil
  | i :: π => by
    have ih := Tri.pick r π
    unfold PyD.pick at ih ⊢
    rw [List.filterMap_cons, List.filterMap_cons, List.filterMap_cons]
    rcases Nat.lt_or_ge i ops.length with hi | hi
    · obtain ⟨v, o, fp, a, b, c, d⟩ := r.get hi
      rw [a, b, c]
      exact d.cons1 ih
    · obtain ⟨l1, l2⟩ := r.len
      rw [List.getElem?_eq_none hi, List.getElem?_eq_none (l1 ▸ hi), List.getElem?_eq_none (l2 ▸ hi)]
      exact ih
end
def oPick (π : List Nat) (f : Env → R (List Opd)) : Env → R (List Opd) := fun env => match f env with
  | .ok ops e => .ok (pick π ops) e
  | .exc c ds e => .exc c ds e
  | .bad => .bad
section
variable {n : Nat} {X : Cx}
/-- the keywords' values, from the left -/
theorem pk_w : ∀ kws : List Keyword, PK X kws fun σ H Q => wL 0 X (kws.map (·.value)) σ H Q
  | [] => pk_nil
  | ⟨_, _, _⟩ :: r => pk_cons pe_w (pk_w r)
end
section
variable {P : Program} {w : World} {K : PySem.W.Frag} {mg : Str → Option Value} {base : Heap} {x qual : Str} {params : Arguments} {body : List Stmt} {scope : Scope} {f : Addr} {fd : FuncData}
end
end PyD
end

section
set_option Elab.async false
set_option linter.all false
set_option maxRecDepth 100000
namespace PyD
variable [Om]
open PySem L2 PySem.Spec PyProof.Rows PySem.Froz
/-! ### sets of texts -/
def strV : Value → Str
  | .str k _ => k
  | _ => Str.empty
/-- the object at a is a set that holds the texts L -/
structure TxSet (P : Program) (w : World) (h : Heap) (a : Addr) (L : List Str) : Prop where
  ex : ∃ D : SD, h.get? a = some (sObj "set" D) ∧ TxOk P w D L ∧ (Ris D.2.2.place.toList ∧ (w.params.followText "set-order" = true ∨ D.2.2.led = true)) ∧ (∀ e ∈ D.1.toList, ∃ k u, e.2 = Value.str k u) ∧ (D.1.toList.map fun e => strV e.2).Perm L
theorem TxSet.stay {P : Program} {w : World} {h h' : Heap} {a : Addr} {L : List Str} (x : TxSet P w h a L) (k : ∀ o, h.get? a = some o → h'.get? a = some o) : TxSet P w h' a L := by
  obtain ⟨D, e, r⟩ := x.ex
  exact ⟨D, k _ e, r⟩
section
variable {P : Program} {w : World} {A : Around} {E : Value → Shared → Prop} {s : Shared}
end
/-! ### set(xs): the loop, whatever an add does -/
section
variable {P : Program} {w : World} {A : Around} {R : Result → Shared → Prop} {I : Addr} {fp wr : List Addr} {G : Array GenState → Array GenState → Prop} {n : Nat} {Pv : Nat → Value → Prop} {St : Nat → Shared → Prop}
end
section
variable {P : Program} {w : World} {A : Around} {E : Value → Shared → Prop} {s : Shared}
end
end PyD
end

section
set_option Elab.async false
set_option linter.all false
set_option maxRecDepth 100000
namespace PyD
variable [Om]
open PySem L2 PySem.Spec PyProof.Rows PySem.Froz
section
variable {P : Program} {w : World} {A : Around} {E : Value → Shared → Prop} {s : Shared}
end
section
variable {P : Program} {w : World} {A : Around} {E : Value → Shared → Prop} {s : Shared}
end
end PyD
end

section
set_option Elab.async false
set_option linter.all false
set_option maxRecDepth 100000
namespace PyD
variable [Om]
open PySem L2 PySem.Spec PyProof.Rows PySem.Froz
/-! ### sorted texts -/
/-! ### the rules -/
section
variable {K : PySem.W.Frag}
end
section
variable {n : Nat} {X : Cx}
end
end PyD
end

section
set_option Elab.async false
set_option linter.all false
set_option maxRecDepth 100000
namespace PyD
variable [Om]
open PySem L2 PySem.Spec PyProof.Rows
/-! ### a dict's display: keys that are written texts -/
inductive CK : List (Option Expr) → List (List Nat) → Prop
  | nil : CK [] []
  | cons {z : Str} {j} {pos : Pos} {l : List Nat} {r : List (Option Expr)} {ls : List (List Nat)} : z = sOf l → CK r ls → CK (some (.Constant (.str z) j pos) :: r) (l :: ls)
theorem CK.len : ∀ {r ls}, CK r ls → r.length = ls.length
  | _, _, .nil => rfl
  | _, _, .cons _ h => by simp [CK.len h]
theorem CK.some : ∀ {r ls}, CK r ls → r.all (·.isSome) = true
  | _, _, .nil => rfl
  | _, _, .cons _ h => by simp [CK.some h]
def dicZip : List (List Nat) → List O → List (D × O)
  | l :: ls, o :: os => (.str l, o) :: dicZip ls os
  | _, _ => []
section
variable {n : Nat} {X : Cx}
def eDic (ls : List (List Nat)) (f : Env → R (List O)) : Env → R O := fun env => if ls.length ≤ 15 ∧ ls.Nodup ∧ ls.all okB = true then (match f env with
  | .ok os e => if os.length = ls.length then .ok (.dic (dicZip ls os)) e else .bad
  | .exc c ds e => .exc c ds e
  | .bad => .bad) else .bad
def eDic0 : Env → R O := fun env => .ok (.dic []) env
end
/-! ### str.count -/
end PyD
end

section
set_option Elab.async false
set_option linter.all false
set_option maxRecDepth 100000
namespace PyD
variable [Om]
open PySem L2 PySem.Spec PyProof.Rows
/-! ### s.replace(y, z) -/
def rplS (y z l : List Nat) : List Nat := match y with
  | [c] => l.flatMap fun x => if x = c then z else [x]
  | _ => StrLaws.replL y z l
def replOk (y z l : List Nat) : Bool := decide (l.length + (l.length + 1) * z.length ≤ LIM)
def eRepl (y z : List Nat) (f : Env → R O) : Env → R O := fun env => match f env with
  | .ok (.fz (.str l)) e => if replOk y z l = true then .ok (.fz (.str (rplS y z l))) e else .bad
  | .exc c ds e => .exc c ds e
  | _ => .bad
section
variable {X : Cx}
end
end PyD
end

section
set_option Elab.async false
set_option linter.all false
set_option maxRecDepth 100000
namespace PyD
variable [Om]
open PySem L2 PySem.Spec PyProof.Rows
section
variable {n : Nat} {X : Cx} {pr : Nat → Bool}
/-! ### x += e, whole numbers -/
def sAug (i : Nat) (f : Env → R O) : Env → R Fl := fun env => match env[i]? with
  | some (some (.fz (.int a))) => (match f env with
    | .ok (.fz (.int b)) e => if i < e.length then .ok .nx (e.set i (some (.fz (.int (a + b))))) else .bad
    | .exc c ds e => .exc c ds e
    | _ => .bad)
  | _ => .bad
/-! ### x[k] += e, a list, whole numbers -/
def sAugS (i : Nat) (k : Nat) (f : Env → R O) : Env → R Fl := fun env => match env[i]? with
  | some (some (.lst os0)) => (match os0[k]? with
    | some (.fz (.int a)) => (match f env with
      | .ok (.fz (.int b)) e => (match e[i]? with
        | some (some (.lst os)) => if k < os.length ∧ os.length ≤ LIM then .ok .nx (e.set i (some (.lst (os.set k (.fz (.int (a + b))))))) else .bad
        | _ => .bad)
      | .exc c ds e => .exc c ds e
      | _ => .bad)
    | _ => .bad)
  | _ => .bad
theorem get_list : PGet X (fun o i H Q => ∃ (p : Addr) (xs : List V) (k : Nat) (v : V), o = .ref p ∧ i = .int (k : Nat) ∧ H p = some (.lst xs) ∧ xs[k]? = some v ∧ Q v H) := by
  intro pins s σ H o i ov iv Q I ro ri h
  obtain ⟨p, xs, k, v, rfl, rfl, hp, hk, q⟩ := h
  obtain rfl : ov = Value.ref p := ro
  obtain ⟨t, rfl⟩ := ri
  obtain ⟨its, r, isl, hz⟩ := I.list (SqL.of hp)
  obtain ⟨w, ew, rw'⟩ := r.get hk
  have kl : k < xs.length := (List.getElem?_eq_some_iff.mp hk).1
  have e63 : sizeLine < 2 ^ 63 := by decide
  refine wpAny_getItem_list isl.isList (Int.natCast_nonneg k) ?_ (by rw [Int.toNat_natCast]; simpa using ew) ⟨v, H, I, rw', q⟩
  have h63 : (2 : Int) ^ 63 = 9223372036854775808 := by decide
  have h63' : (2 : Nat) ^ 63 = 9223372036854775808 := by decide
  omega
theorem owns_int {K : PySem.W.Frag} {F H : Hp} {a : Int} : ∀ {us : List V} {os : List O} {T : List Addr} {k : Nat}, Owns K F H us os T → os[k]? = some (.fz (.int a)) → us[k]? = some (.int a)
  | _, _, _, _, .nil, h => by simp at h
  | _, _, _, 0, .cons h r, e => by
    simp at e
    subst e
    cases h with
    | fz r1 =>
      cases r1.int_inv
      rfl
  | _, _, _, k + 1, .cons h r, e => by simpa using owns_int r (k := k) (by simpa using e)
theorem snd_augS {i k : Nat} {x : Str} {e : Expr} {f : Env → R O} {j : Nat} {p cp tpos pos : Pos} (hN : X.N[i]? = some x) (hvis : Vis X.env.scope x) (he : SndE 0 X e f)
    (hd : (x == ("__debug__" : Str)) = false := by decide) (hcd : (x == ("__classdict__" : Str)) = false := by decide)
    (ha : ∀ ov iv new, augStore (.Constant (.int (k : Nat)) j cp) ov iv new = (do holding [new, ov, iv] (setItem ov iv new); release [new, ov, iv] []; pure .next) := by intros; rfl) :
    SndS n X pr (.AugAssign (.Subscript (.Name x p) (.Constant (.int (k : Nat)) j cp) tpos) .Add e pos) (sAugS i k f) := by
  refine .mk fun W tk env σ F H S D st q => ?_
  refine wS_of (ps_augS (pe_var hN hvis hd hcd) pe_int get_list pe_w ip_add set_list ha) ?_
  unfold sAugS at q
  split at q
  · rename_i os0 ho0
    split at q
    · rename_i a ha0
      obtain ⟨l, us, fp, S0, hv, hl, ow, pm, sl⟩ := st.own.takeL ho0
      obtain ⟨v0, hk0, r0⟩ : ∃ v0, us[k]? = some v0 ∧ v0 = .int a := by
        exact ⟨_, owns_int ow ha0, rfl⟩
      subst r0
      refine ⟨.ref l, hv, ?_⟩
      refine ⟨l, us, k, .int a, rfl, rfl, hl, hk0, ?_⟩
      refine he.run W tk env σ F H S _ st ?_
      revert q
      cases f env with
      | exc c ds e => exact fun q => ExcPostS.e q
      | bad => exact fun q => q.elim
      | ok o e1 =>
        cases o with
        | fz d =>
          cases d with
          | int b =>
            show PostS X W pr σ F H S D (match e1[i]? with
              | some (some (.lst os)) => if k < os.length ∧ os.length ≤ LIM then .ok .nx (e1.set i (some (.lst (os.set k (.fz (.int (a + b))))))) else .bad
              | _ => .bad) → _
            split
            · rename_i os ho
              by_cases hh : k < os.length ∧ os.length ≤ LIM
              · rw [if_pos hh]
                intro q v F1 H1 S1 T tr s
                cases s.one with
                | fz r2 =>
                cases r2.int_inv
                refine ⟨a, b, rfl, rfl, ?_⟩
                obtain ⟨l2, us2, fp2, S02, hv2, hl2, ow2, pm2, sl2⟩ := s.st.own.takeL ho
                rw [hv] at hv2
                cases hv2
                have sa : Sta X.K F1 H1 σ e1 S1 [.int (a + b)] [.fz (.int (a + b))] [] := sta_one s.st (.fz (.int (a + b))) List.nodup_nil Aside.nil
                have nd : ((l :: fp2) ++ S02).Nodup := pm2.nodup_iff.mpr s.st.nd
                have ndd := List.nodup_cons.mp (List.nodup_append.mp nd).1
                obtain ⟨fp', o1, m1, n1⟩ := Owns.set (H := upd H1 l (.lst (us2.set k (.int (a + b))))) k (ow2.keep (Ex.refl _) fun a m w e => by rw [upd_ne (fun z => ndd.1 (by rw [← z]; exact m))]; exact e) (Own.fz (.int (a + b))) (by simpa using ndd.2)
                obtain ⟨S', t3, st3⟩ := stt_mut (o := .lst os) sa hv pm2 sl2 (List.getElem?_eq_some_iff.mp ho).1 (.lst upd_same o1) (fun a m => by
                  rcases List.mem_cons.mp m with rfl | m
                  · exact List.mem_append_left _ List.mem_cons_self
                  · have := m1 a m
                    simp at this
                    exact List.mem_append_left _ (List.mem_cons_of_mem _ this)) (List.nodup_cons.mpr ⟨fun m => ndd.1 (by simpa using m1 l m), n1⟩)
                have hul : us2.length = os.length := ow2.length
                refine ⟨l, us2, (k : Nat), k, rfl, rfl, hl2, ?_, ?_⟩
                · unfold ixN
                  rw [if_pos (Int.natCast_nonneg k), if_pos (by rw [hul]; exact_mod_cast hh.1), Int.toNat_natCast]
                · exact q _ _ _ _ ((tr.sub fun x m => List.mem_append_right _ m).trans (by simpa using t3)) st3 Agree.refl
              · rw [if_neg hh]
                exact fun q => q.elim
            · exact fun q => q.elim
          | _ => exact fun q => q.elim
        | _ => exact fun q => q.elim
    · exact q.elim
  · exact q.elim
end
end PyD
end

section
set_option Elab.async false
set_option linter.all false
set_option maxRecDepth 100000
namespace PyD
variable [Om]
open PySem L2 PySem.Spec PyProof.Rows
/-! ### behind a rule that tells the frame's names alone -/
/-! ### max(texts, key=len) -/
section
variable {n : Nat} {X : Cx}
end
end PyD
end

section
set_option Elab.async false
set_option linter.all false
set_option maxRecDepth 100000
namespace PyD
variable [Om]
open PySem L2 PySem.Spec PyProof.Rows
/-! ### dicts with keys of whole numbers: {}, d[(i, j)] = v, d[(i, j)], in -/
def tget (es : List (List Int × D)) (k : List Int) : Option D := (es.find? fun p => decide (p.1 = k)).map (·.2)
def tput (es : List (List Int × D)) (k : List Int) (d : D) : List (List Int × D) :=
  if (es.any fun p => decide (p.1 = k)) = true then es.map (fun p => if p.1 = k then (p.1, d) else p) else es ++ [(k, d)]
theorem inl_inj {a b : List Int} : (a.map Sum.inl : List Key) = b.map Sum.inl ↔ a = b := by
  constructor
  · intro h
    exact List.map_inj_right (f := (Sum.inl : Int → Key)) (fun x y z => Sum.inl.inj z) |>.mp h
  · rintro rfl
    rfl
theorem RepT.get {K : PySem.W.Frag} {F : Hp} {k : List Int} : ∀ {kvs : List (List Key × V)} {es : List (List Int × D)}, RepT K F kvs es → (valV kvs (k.map Sum.inl)).isSome = (tget es k).isSome ∧ ∀ d, tget es k = some d → ∃ v, valV kvs (k.map Sum.inl) = some v ∧ Rep K F v d
  | _, _, .nil => ⟨rfl, fun d h => by cases h⟩
  | _, _, .cons (k := k') (v := v) (d := d) (r := r) (s := s) h t => by
    obtain ⟨i1, i2⟩ := RepT.get (k := k) t
    by_cases e : k' = k
    · subst e
      have a : valV ((k'.map Sum.inl, v) :: r) (k'.map Sum.inl) = some v := by simp [valV]
      have b : tget ((k', d) :: s) k' = some d := by simp [tget]
      rw [a, b]
      exact ⟨rfl, fun d' h' => by cases h'; exact ⟨v, rfl, h⟩⟩
    · have ne : ¬ (k'.map Sum.inl : List Key) = k.map Sum.inl := fun z => e (inl_inj.mp z)
      have a : valV ((k'.map Sum.inl, v) :: r) (k.map Sum.inl) = valV r (k.map Sum.inl) := by
        unfold valV
        rw [List.find?_cons_of_neg]
        exact fun z => ne (of_decide_eq_true z)
      have b : tget ((k', d) :: s) k = tget s k := by
        unfold tget
        rw [List.find?_cons_of_neg]
        exact fun z => e (of_decide_eq_true z)
      rw [a, b]
      exact ⟨i1, i2⟩
theorem RepT.length {K : PySem.W.Frag} {F : Hp} : ∀ {kvs : List (List Key × V)} {es : List (List Int × D)}, RepT K F kvs es → kvs.length = es.length
  | _, _, .nil => rfl
  | _, _, .cons _ t => by simp [RepT.length t]
theorem RepT.any {K : PySem.W.Frag} {F : Hp} {k : List Int} : ∀ {kvs : List (List Key × V)} {es : List (List Int × D)}, RepT K F kvs es → (kvs.any fun kv => decide (kv.1 = k.map Sum.inl)) = es.any fun p => decide (p.1 = k)
  | _, _, .nil => rfl
  | _, _, .cons _ t => by
    rw [List.any_cons, List.any_cons, RepT.any t]
    congr 1
    exact decide_eq_decide.mpr inl_inj
theorem RepT.map {K : PySem.W.Frag} {F : Hp} {k : List Int} {v : V} {d : D} (hv : Rep K F v d) : ∀ {kvs : List (List Key × V)} {es : List (List Int × D)}, RepT K F kvs es →
    RepT K F (kvs.map fun kv => if kv.1 = k.map Sum.inl then (kv.1, v) else kv) (es.map fun p => if p.1 = k then (p.1, d) else p)
  | _, _, .nil => .nil
  | _, _, .cons (k := k') h t => by
    rw [List.map_cons, List.map_cons]
    by_cases e : k' = k
    · subst e
      rw [if_pos rfl, if_pos rfl]
      exact .cons hv (RepT.map hv t)
    · rw [if_neg e, if_neg (fun z => e (inl_inj.mp z))]
      exact .cons h (RepT.map hv t)
theorem RepT.snoc {K : PySem.W.Frag} {F : Hp} {k : List Int} {v : V} {d : D} (hv : Rep K F v d) : ∀ {kvs : List (List Key × V)} {es : List (List Int × D)}, RepT K F kvs es → RepT K F (kvs ++ [(k.map Sum.inl, v)]) (es ++ [(k, d)])
  | _, _, .nil => .cons hv .nil
  | _, _, .cons h t => .cons h (RepT.snoc hv t)
theorem RepT.put {K : PySem.W.Frag} {F : Hp} {k : List Int} {v : V} {d : D} {kvs : List (List Key × V)} {es : List (List Int × D)} (r : RepT K F kvs es) (hv : Rep K F v d) : RepT K F (putK kvs (k.map Sum.inl) v) (tput es k d) := by
  unfold putK tput
  rw [r.any (k := k)]
  split
  · exact r.map hv
  · exact r.snoc hv
/-- a new tuple of whole numbers -/
def intsO : List O → Option (List Int)
  | [] => some []
  | .fz (.int i) :: r => (intsO r).map (i :: ·)
  | _ => none
def tkeyO : O → Option (List Int)
  | .tup os => intsO os
  | _ => none
section
variable {n : Nat} {X : Cx}
def eDct0 : Env → R O := fun env => .ok (.dct []) env
/-- d[key] -/
def eIxT (i : Nat) (g : Env → R O) : Env → R O := fun env => match env[i]? with
  | some (some (.dct _)) => (match g env with
    | .ok ko e => (match tkeyO ko, e[i]? with
      | some k, some (some (.dct es)) => (match tget es k with
        | some d => .ok (.fz d) e
        | none => .bad)
      | _, _ => .bad)
    | .exc c ds e => .exc c ds e
    | .bad => .bad)
  | _ => .bad
/-- d[key] = v, v frozen -/
def gSetT (i : Nat) (g : Env → R O) : O → Env → Option Env := fun o env => match env[i]? with
  | some (some (.dct _)) => (match g env with
    | .ok ko e => (match tkeyO ko, e[i]? with
      | some k, some (some (.dct es)) => if es.length < 1000000 then some (e.set i (some (.dct (tput es k o.erase)))) else none
      | _, _ => none)
    | _ => none)
  | _ => none
end
end PyD
end

section
set_option Elab.async false
set_option linter.all false
set_option maxRecDepth 100000
namespace PyD
variable [Om]
open PySem L2 PySem.Spec PyProof.Rows
/-! ### is True, is False -/
def semIsB (neg c : Bool) : List D → Option At
  | [.bl b] => some (.bl (if neg then !decide (b = c) else decide (b = c)))
  | _ => none
section
variable {n : Nat} {X : Cx}
/-! ### is, is not as tests -/
/-! ### range(i, j, -1) -/
variable {tg : Expr}
end
/-! ### a Hook that also looks at the tokens of two texts of the module -/
def SaysP (fa : List He.Fa) (fn : List He.DefD) (fx : PySem.W.Frag → Bool) (K : PySem.W.Frag) : Prop := He.SaysD fa fn K ∧ fx K = true
end PyD
end

section
set_option Elab.async false
set_option linter.all false
set_option maxRecDepth 100000
set_option maxHeartbeats 4000000
/-! isinstance of a caught error that has fields; its fields read -/
namespace PyD
open PySem PySem.Spec PyProof.Rows PySem.W PySem.Calls
section
variable {prog : Program} {w : World} {A : Around} {E : Value → Shared → Prop} {s : Shared} {K : Frag} {x D : Addr} {ox : Obj} {od : Option Obj}
theorem findObj_dataD {C : Addr} {name : Str} {a g : Value} (hc : (clsIn K C).isSome = true) (ha : findIn K (.ref C) name = some (some a)) (hg : specialIn K a "__get__" = some (some g)) (ht : takesIn K a = some true) : findObj K C od name = some (.bind g a) := by
  obtain ⟨cd, hc⟩ := Option.isSome_iff_exists.mp hc
  unfold findObj
  rw [hc, Option.bind_some, ha, Option.bind_some]
  simp [hg, ht]
theorem kin_classD {Q : Option Value → Shared → Prop} (C : L2.ExcC K D) (X : K.In s.heap) (I : InstAt s.heap x ox D od) (h : Q (some (.ref D)) { s with toks := s.toks + 1 }) : wpAny (model prog w) A (getAttr? (.ref x) "__class__") Q E s := by
  have hf : findObj K D od "__class__" = some (.bind (.builtin "getset_descriptor.__get__") (.builtin "object.__class__")) := findObj_dataD (by obtain ⟨cd, hc, _⟩ := any_some C.hd; rw [hc]; rfl) C.ha C.hn C.ht
  obtain ⟨hp, g, d, t, os⟩ := s
  have L0 := I.type (M := model prog w)
  have L1 := looks_findIn (M := model prog w) X C.hg
  have L2 := looks_findIn (M := model prog w) X C.hk
  have L3 := looks_find (M := model prog w) X I hf
  have sub : Looks (model prog w) hp (isInstance (.ref x) (.type "BaseException")) true := L0.andThen (looks_subIn X C.hs)
  have hx0 : (false && onTheHeap (Value.builtin "BaseException.__getattribute__")) = false := rfl
  have hx2 : (Value.builtin "BaseException.__getattribute__" == Value.builtin "object.__getattribute__") = false := by decide +kernel
  have hx1 : (onTheHeap (Value.ref D) && Value.builtin "BaseException.__getattribute__" == Value.builtin "object.__getattribute__") = false := by rw [hx2]; rfl
  unfold getAttr? getAttrBy? getAttrBy
  refine wpAny_bind (wpAny_mkText (wpAny_bind (wpAny_attempt (wpAny_holding (wpAny_bind (L0.at (wpAny_bind (L1.at ?_))))))))
  show wpAny _ _ (if (onTheHeap (Value.ref D) && Value.builtin "BaseException.__getattribute__" == Value.builtin "object.__getattribute__") = true then _ else _) _ _ _
  rw [hx1, if_neg Bool.false_ne_true]
  unfold getAttrByItsOwn hookBefore
  refine wpAny_bind ?_
  rw [if_pos (show onTheHeap (Value.ref D) = true from rfl)]
  refine L2.at ?_
  refine wpAny_bind (wpAny_attempt (wpAny_holding ?_))
  unfold callGetattribute
  rw [hx0, if_neg Bool.false_ne_true]
  unfold boundAndCalled
  rw [PySem.F.excAttr_ValueError.ga.bind (.ref x)]
  refine wpAny_bind (wpAny_pure ?_)
  show wpAny _ _ (call (.builtin "BaseException.__getattribute__") [.ref x, .str "__class__" t]) _ _ _
  refine wpAny_call (codeAny_call_builtin PySem.F.excAttr_ValueError.ga.plain PySem.F.entry_bexc_ga ?_)
  refine @check_slot (model prog w) _ _ ⟨hp, g, d, t + 1, os⟩ "BaseException.__getattribute__" "BaseException" "__getattribute__" (.ref x) [.str "__class__" t] [] _ (by decide +kernel) (by decide +kernel) sub (PySem.F.args_bexc_ga (.ref x) (.str "__class__" t)) ?_
  unfold Builtin.«object.__getattribute__»
  refine wpAny_bind (wpAny_of_eq (a := ((Value.ref x : Value), [Value.str "__class__" t])) (by first | rfl | (simp only [slotArgs]; rfl)) ?_)
  refine wpAny_bind (wpAny_pure (wpAny_bind (L0.at (wpAny_bind (L3.at ?_)))))
  show wpAny _ _ (holding [Value.builtin "object.__class__"] (call (.builtin "getset_descriptor.__get__") [.builtin "object.__class__", .ref x, .ref D]) >>= ret) _ _ _
  refine wpAny_bind (wpAny_holding (wpAny_call (class_get (s := ⟨hp, g, d, t + 1, os⟩) (ox := ox) (od := od) X I C.hm ?_)))
  refine wpAny_pure ?_
  show wpAny _ _ (handedOut (.ref D)) _ _ _
  rw [handedOut_of (v := .ref D) rfl]
  first
    | exact wpAny_pure (wpAny_pure h)
    | exact wpAny_pure h
    | exact wpAny_pure (wpAny_bind (wpAny_pure (wpAny_pure h)))
theorem kitx_exc (C : L2.ExcC K D) : KitX K (.ref x) (.ref D) (fun h => ∃ (ox : Obj) (od : Option Obj), InstAt h x ox D od) where
  ty := fun _ _ _ ⟨_, _, I⟩ => I.type
  it := fun _ _ X _ => by
    obtain ⟨cdD, hcD, _⟩ := any_some C.hd
    unfold clsIn at hcD
    split at hcD
    · rename_i c' d' cd' sl' ho
      intro A' Q' E' s' k q
      unfold isType loadHead
      exact wpAny_bind (wpAny_loadPart (k _ _ (X _ _ ho)) (wpAny_pure q))
    · cases hcD
  ne := fun h tp dd its n sl X htp => by
    obtain ⟨cdD, hcD, _⟩ := any_some C.hd
    refine Bool.eq_false_iff.mpr fun q => ?_
    have e : D = tp := Value.ref.inj (beq_iff_eq.mp q)
    subst e
    unfold clsIn at hcD
    split at hcD
    · rename_i c' d' cd' sl' ho
      have z := (X _ _ ho).symm.trans htp
      cases z
    · cases hcD
  ca := fun X ⟨_, _, I⟩ k => kin_classD C X I k
end
open L2
/-- the caught exception of the context: its place, its class, its dict -/
structure Hx (X : Cx) (a : Addr) (C : Addr) (d : Option Addr) (oe : Obj) : Prop where
  pn : (a, oe) ∈ X.pn
  hz : Zc (.ref C) d oe
  hf : ∃ vs, oe.data = .fields vs
theorem Hx.inst {X : Cx} {a C : Addr} {d : Option Addr} {oe : Obj} {pins : List (Addr × Obj)} {σ : L2.St} {H : Hp} {s : Shared} (h : Hx X a C d oe) (I : Inv X pins σ H s) (hd : ∀ x, d = some x → ∃ fs, H x = some (.xd fs)) : ∃ od, InstAt s.heap a oe C od := by
  obtain ⟨hget, _⟩ := I.pin (a, oe) (List.mem_append_left _ h.pn)
  obtain ⟨vs, hv⟩ := h.hf
  obtain ⟨oc, odd, oda, osl⟩ := oe
  obtain ⟨h1, h2⟩ := h.hz
  dsimp only at h1 h2 hv
  subst h1 h2 hv
  cases odd with
  | none => exact ⟨none, hget, rfl, rfl, trivial⟩
  | some x =>
    obtain ⟨fs, ex⟩ := hd x rfl
    have hx : ObjOk X.prog X.w H s.heap x (.xd fs) := I.hok x _ ex
    obtain ⟨mA, hns, hr⟩ := hx
    obtain ⟨od, ho, hl⟩ := lookIn_ns hns
    exact ⟨some od, hget, rfl, rfl, ho⟩
end PyD
end

section
set_option Elab.async false
set_option linter.all false
set_option maxRecDepth 100000
set_option maxHeartbeats 2000000
/-! a caught error in an except suite: isinstance, its fields; operations that need no calm -/
namespace PyD
variable [Om]
open PySem L2 PySem.Spec PyProof.Rows PySem.W
section
variable {K : Frag} {H : Hp} {v : V}
end
section
variable {n : Nat} {X : Cx} {a C : Addr} {d : Option Addr} {oe : Obj}
/-- what isinstance asks of its own name -/
structure IsiN (X : Cx) : Prop where
  gi : Gl X "isinstance"
  mi : X.mg "isinstance" = none
  bi : bootBuiltins "isinstance" = some (.builtin "isinstance")
/-! isinstance(e, (A, B, ..)) -/
/-! e.f -/
def lookups : List D → List D → List Nat → Option D
  | .str g :: ns, e :: ds, f => if g = f then some e else lookups ns ds f
  | _, _, _ => none
theorem lookups_ok {K : Frag} {F : Hp} {f : Str} {e : D} : ∀ {fs : List Str} {vs : List V} {ds : List D}, Reps K F vs ds → lookups (fs.map fun f => .str f.cps.toList) ds f.cps.toList = some e → ∃ v, (fs.zip vs).lookup f = some v ∧ Rep K F v e
  | [], _, _, _, h => by simp [lookups] at h
  | _ :: _, _, _, .nil, h => by simp [lookups] at h
  | g :: fs, v :: vs, x :: ds, .cons r rs, h => by
    simp only [List.map_cons, lookups] at h
    split at h
    · rename_i eq
      cases h
      have : g = f := by rw [← sOf_toList g, ← sOf_toList f, eq]
      subst this
      exact ⟨v, by simp [List.zip_cons_cons, List.lookup], r⟩
    · rename_i ne
      obtain ⟨y, h1, h2⟩ := lookups_ok (fs := fs) rs h
      refine ⟨y, ?_, h2⟩
      have : (f == g) = false := by
        rw [beq_eq_false_iff_ne]
        intro z
        exact ne (by rw [z])
      rw [List.zip_cons_cons, List.lookup, this]
      exact h1
end
end PyD
end

section
set_option Elab.async false
set_option linter.all false
set_option maxRecDepth 100000
set_option maxHeartbeats 2000000
/-! raise -/
namespace PyD
variable [Om]
open PySem L2 PySem.Spec PyProof.Rows PySem.W
/-- raise C(x), C with one field -/
def sRaise1 (c : Str) (f : Env → R O) : Env → R Fl := fun env => match f env with
  | .ok (.fz d) e => .exc c [d] e
  | .ok _ _ => .bad
  | .exc c ds e => .exc c ds e
  | .bad => .bad
/-- raise C(text), C without fields -/
def sRaise0 (c : Str) : Env → R Fl := fun env => .exc c [] env
section
variable {X : Cx} {n : Nat} {pr : Nat → Bool} {C : Addr}
end
end PyD
end

section
set_option Elab.async false
set_option linter.all false
set_option maxRecDepth 100000
set_option maxHeartbeats 2000000
/-! try: body except C as e: suite -/
namespace PyD
variable [Om]
open PySem L2 PySem.Spec PyProof.Rows PySem.W
section
variable {K : Frag} {F H : Hp}
theorem Slots.any {x : Option V} : ∀ {σ : L2.St} {env : Env} {S : List Addr} {i : Nat}, Slots K F H σ env S → (env.set i none = env) → Slots K F H (σ.set i x) env S
  | _, _, _, i, .nil, _ => by simpa using Slots.nil
  | _, _, _, 0, .no r, _ => .no r
  | _, _, _, i + 1, .no r, e => .no (Slots.any r (by simpa using e))
  | _, _, _, 0, .yes h r, e => by simp at e
  | _, _, _, i + 1, .yes h r, e => .yes h (Slots.any r (by simpa using e))
end
section
variable {X : Cx} {pr : Nat → Bool} {n : Nat}
end
end PyD
end

section
set_option Elab.async false
set_option linter.all false
set_option maxRecDepth 100000
set_option maxHeartbeats 2000000
/-! a def that is called in the suite with the exception -/
namespace PyD
variable [Om]
open PySem L2 PySem.Spec PyProof.Rows
section
variable {X : Cx} {n : Nat} {a : Addr} {oe : Obj} {pn : List (Addr × Obj)} {kn : Str → Prop} {k : Nat} {f C : Addr} {fd : FuncData} {ps : List Str} {φ : Str → Addr → Option Addr → List O → FR} {c : Str} {d : Option Addr}
end
end PyD
end

section
set_option Elab.async false
set_option linter.all false
set_option maxRecDepth 100000
set_option maxHeartbeats 2000000
/-! the end of a list's and of a tuple's iterator while an exception is handled -/
namespace PyD
variable [Om]
open PySem PySem.Spec PyProof.Rows HotX
section
variable {prog : Program} {w : World} {A : Around} {E : Value → Shared → Prop} {s : Shared}
end
open L2
end PyD
end

section
set_option Elab.async false
set_option linter.all false
set_option maxRecDepth 100000
set_option maxHeartbeats 4000000
/-! a list comprehension while an exception is handled -/
namespace PyD
variable [Om]
open PySem PySem.Spec PyProof.Rows L2 HotX
section
variable {X : Cx}
end
end PyD
end

section
set_option Elab.async false
set_option linter.all false
set_option maxRecDepth 100000
set_option maxHeartbeats 4000000
/-! comprehensions while an exception is handled -/
namespace PyD
variable [Om]
open PySem L2 PySem.Spec PyProof.Rows
section
variable {X : Cx} {tg : Expr}
end
section
variable (X : Cx) (tg : Expr) (ifs : List Expr) (elt : Expr) (scope : Scope)
end
section
variable {X : Cx} {n : Nat}
end
end PyD
end

section
set_option Elab.async false
set_option linter.all false
set_option maxRecDepth 100000
set_option maxHeartbeats 4000000
/-! the rest that an except suite's def needs -/
namespace PyD
variable [Om]
open PySem L2 PySem.Spec PyProof.Rows
section
variable {X : Cx} {pr : Nat → Bool} {n : Nat}
end
end PyD
end

section
set_option Elab.async false
set_option linter.all false
set_option maxRecDepth 100000
set_option maxHeartbeats 4000000
/-! what the head's end says of the classes of errors -/
namespace PyD
variable [Om]
open PySem L2 PySem.Spec PyProof.Rows PySem.W
/-- C.__init__ as it is written -/
structure IniD where
  x : Str
  qual : Str
  params : Arguments
  body : List Stmt
  scope : Scope
  fld : Str
  slf : Str
  ix : Str
  txt : Str
abbrev IW : Type := Option (Str × Arguments × FuncBody × Scope × Addr × List Str × Addr)
def iniW (K : Frag) (x : Str) : IW := match K.lookup (He.ma K (He.ga K x) "__init__") with
  | some ⟨_, _, .func fd, _⟩ => some (fd.qualname, fd.params, fd.body, fd.scope, fd.globals, fd.closure.map (·.1), fd.builtins)
  | _ => none
def IniD.val (d : IniD) : IW := some (d.qual, d.params, .stmts d.body, d.scope, mainGlobals, ["__class__"], builtinsNs)
def clsB (K : Frag) (C : Addr) : Bool := match K.lookup C with
  | some ⟨.type "type", _, .cls cd, sl⟩ => (match cd.mro, sl.toList with
    | .ref C' :: bm, [_, _, _, _, some (.builtin n), _] => decide (C' = C) && (decide (n = "ValueError.__new__") && (!cd.hasDel && (cd.hasDict && PySem.HandSPX.refsVE bm)))
    | _, _ => false)
  | _ => false
def cellB (K : Frag) (cc C : Addr) : Bool := match K.lookup cc with
  | some ⟨_, _, .cell (some (.ref C')), _⟩ => decide (C' = C)
  | _ => false
def fileB (P : Program) (K : Frag) (cda : Addr) : Bool := match K.lookup cda with
  | some ⟨_, _, .fields vs, _⟩ => (match (vs[2]? : Option Value) with
    | some (Value.str file _) => (P.main.file : Str) == file
    | _ => false)
  | _ => false
def funB (P : Program) (K : Frag) (C fI : Addr) : Bool := match K.lookup fI with
  | some ⟨_, _, .func fd, _⟩ => (match fd.closure, fd.code with
    | [(_, cc)], .ref cda => cellB K cc C && (fileB P K cda && (codeIn K (.ref cda) fd.qualname && decide (fd.defaults = Value.none)))
    | _, _ => false)
  | _ => false
theorem clsB_ok {K : Frag} {C : Addr} (h : clsB K C = true) : ∃ (nm q : Str) (N : Addr) (bs bm : List Value) (sn : List Str) (sub : List Value) (ab : Bool) (col : Option Bool) (dd : Option Addr) (k0 k1 k2 k3 k5 : Option Value),
    K.lookup C = some (excClassObj nm q C N bs bm true sn sub ab col dd k0 k1 k2 k3 k5 "ValueError.__new__") ∧ PySem.HandSPX.refsVE bm = true := by
  unfold clsB at h
  split at h
  · rename_i dd cd sl ho
    split at h
    · rename_i C' bm k0 k1 k2 k3 n k5 hm hs
      simp only [Bool.and_eq_true, decide_eq_true_iff, Bool.not_eq_true'] at h
      obtain ⟨rfl, rfl, h3, h4, h5⟩ := h
      obtain ⟨nm, bs, mro, ns, qn, hd, sn, sb, ab, col, del⟩ := cd
      dsimp only at hm h3 h4
      subst hm h3 h4
      have : sl = #[k0, k1, k2, k3, some (.builtin "ValueError.__new__"), k5] := by
        rw [← Array.toList_inj]
        exact hs
      subst this
      exact ⟨nm, qn, ns, bs, bm, sn, sb, ab, col, dd, k0, k1, k2, k3, k5, ho, h5⟩
    · cases h
  · cases h
/-- what is asked of the class besides -/
def restB (K : Frag) (C fI : Addr) (fld : Str) : Bool :=
  decide (mroIn K C (.ref C) = some true) && (decide (nsIn K mainGlobals "super" = some none) && (decide (nsIn K cStatics "thirdparty.any" = some none) && (decide (ks_superIn K C C "__init__" = some (some (.builtin "ValueError.__init__"))) &&
  (decide (subIn K (.ref C) (.type "ValueError") = some true) && (decide (findIn K (.ref C) "__setattr__" = some (some (.builtin "object.__setattr__"))) && (decide (findIn K (.ref C) fld = some none) &&
  (decide (findIn K (.ref C) "__init__" = some (some (.ref fI))) && (decide (typeIn K (.ref fI) = some (.type "function")) && (decide (subIn K (.ref C) (.type "BaseException") = some true) && (decide (typeIn K (.ref C) = some (.type "type")) && keepIn K (.ref C)))))))))))
/-- what isinstance and the reading of fields ask -/
def excCB (K : Frag) (C : Addr) : Bool :=
  decide (findIn K (.ref C) "__getattribute__" = some (some (.builtin "BaseException.__getattribute__"))) && (decide (findIn K (.ref C) "__getattr__" = some none) && (decide (subIn K (.ref C) (.type "BaseException") = some true) && (hasDictIn K C &&
  (decide (findIn K (.ref C) "__class__" = some (some (.builtin "object.__class__"))) && (decide (specialIn K (.builtin "object.__class__") "__get__" = some (some (.builtin "getset_descriptor.__get__"))) && (decide (takesIn K (.builtin "object.__class__") = some true) && decide (mroIn K C (.type "object") = some true)))))))
theorem excCB_ok {K : Frag} {C : Addr} (h : excCB K C = true) : ExcC K C ∧ XfC K C := by
  simp only [excCB, Bool.and_eq_true, decide_eq_true_iff] at h
  obtain ⟨h1, h2, h3, h4, h5, h6, h7, h8⟩ := h
  exact ⟨⟨h1, h2, h3, h4, h5, h6, h7, h8⟩, ⟨h1, h2, h3, h4⟩⟩
def iniB (P : Program) (K : Frag) (d : IniD) : Bool :=
  clsB K (He.ga K d.x) && (funB P K (He.ga K d.x) (He.ma K (He.ga K d.x) "__init__") && (restB K (He.ga K d.x) (He.ma K (He.ga K d.x) "__init__") d.fld && (excCB K (He.ga K d.x) && decide (nsIn K mainGlobals d.x = some (some (.ref (He.ga K d.x)))))))
end PyD
end

section
set_option Elab.async false
set_option linter.all false
set_option maxRecDepth 100000
set_option maxHeartbeats 2000000
/-! an own exception class whose __init__ says super().__init__(text); slf.f = x; .. -/
namespace PyD
open PySem PySem.Spec PyProof.Rows L2 PySem.W PySem.Calls
/-- the stores behind super().__init__(text) -/
inductive AsgV (slf : Str) : List (Str × Str) → List Stmt → Prop
  | nil : AsgV slf [] []
  | cons {fld ix : Str} {q6 q7 q8 q9 : Pos} {fs : List (Str × Str)} {ss : List Stmt} : AsgV slf fs ss → AsgV slf ((fld, ix) :: fs) (.Assign [.Attribute (.Name slf q6) fld q7] (.Name ix q8) q9 :: ss)
abbrev supV (txt : Str) (n1 : Nat) (q0 q1 q2 q3 q4 q5 : Pos) : Stmt := .Expr (.Call (.Attribute (.Call (.Name "super" q0) [] [] q1) "__init__" q2) [.Constant (.str txt) n1 q3] [] q4) q5
/-- what the written part says of such a class -/
structure ExcVF (P : Program) (K : Frag) (C fI : Addr) (qual slf txt : Str) (fs : List (Str × Str)) : Prop where
  ex : ∃ (nm q : Str) (N : Addr) (bs bm : List Value) (sn : List Str) (sub : List Value) (ab : Bool) (col : Option Bool) (dd : Option Addr) (k0 k1 k2 k3 k5 : Option Value) (oc ccl cl : Value) (od cdd cld : Option Addr) (osl ccs csl : Array (Option Value)) (cda cc : Addr) (vs : Array Value) (file : Str) (tf : Tok)
    (name : Str) (params : Arguments) (scope : Scope) (dV kV doc pm ct : Value) (an : Option Addr) (n1 : Nat) (q0 q1 q2 q3 q4 q5 : Pos) (ss : List Stmt) (ar : Arg),
    K.lookup C = some (excClassObj nm q C N bs bm true sn sub ab col dd k0 k1 k2 k3 k5 "ValueError.__new__") ∧ PySem.HandSPX.refsVE bm = true ∧
    K.lookup fI = some ⟨oc, od, .func (ksFn name qual params (supV txt n1 q0 q1 q2 q3 q4 q5 :: ss) scope dV kV doc pm an (.ref cda) ct cc), osl⟩ ∧ AsgV slf fs ss ∧
    (params.posonlyargs ++ params.args).head? = some ar ∧ ar.arg = slf ∧ K.lookup cda = some ⟨ccl, cdd, .fields vs, ccs⟩ ∧ vs[2]? = some (.str file tf) ∧ ((P.main.file : Str) == file) = true ∧
    K.lookup cc = some ⟨cl, cld, .cell (some (.ref C)), csl⟩ ∧ codeIn K (.ref cda) qual = true ∧
    scope.names.lookup ("super" : Str) = some .globalImplicit ∧ scope.names.lookup ("__class__" : Str) = some .free ∧ scope.names.lookup slf = some .local ∧ (∀ x ∈ fs, scope.names.lookup x.2 = some .local) ∧ scope.kind = .function ∧
    (∀ x ∈ scope.names, x.2 ≠ .cell) ∧ scope.isCoroutine = false ∧ scope.isGenerator = false ∧ (∀ L, EvI txt n1 q0 q1 q2 q3 q4 (ksEnv qual scope L fI (.ref cda) cc)) ∧
    (∀ (s : Shared) (a : Value) (us : List Value), us.length = fs.length → BindsTo s (ksFn name qual params (supV txt n1 q0 q1 q2 q3 q4 q5 :: ss) scope dV kV doc pm an (.ref cda) ct cc) ⟨a :: us, []⟩ ((slf, a) :: (fs.map (·.2)).zip us)) ∧
    (∀ (s : Shared) (a : Value) (us : List Value), us.length = fs.length → BindsTo s (ksFn name qual params (supV txt n1 q0 q1 q2 q3 q4 q5 :: ss) scope dV kV doc pm an (.ref cda) ct cc) ⟨[a], (fs.map (·.2)).zip us⟩ ((slf, a) :: (fs.map (·.2)).zip us))
  ne : slf ∉ fs.map (·.2)
  nd : (fs.map (·.2)).Nodup
  ds : (slf == ("__debug__" : Str)) = false
  di : ∀ x ∈ fs, (x.2 == ("__debug__" : Str)) = false
  mro : mroIn K C (.ref C) = some true
  sup : nsIn K mainGlobals "super" = some none
  any : nsIn K cStatics "thirdparty.any" = some none
  along : ks_superIn K C C "__init__" = some (some (.builtin "ValueError.__init__"))
  ve : subIn K (.ref C) (.type "ValueError") = some true
  top : (P.main.scope.names.lookup ("super" : Str)).isSome = false
  sa : findIn K (.ref C) "__setattr__" = some (some (.builtin "object.__setattr__"))
  noat : ∀ x ∈ fs, findIn K (.ref C) x.1 = some none
/-- the dict's content behind the stores -/
def putV (m0 : Str → Option Value) : List (Str × Value) → Str → Option Value
  | [], y => m0 y
  | (f, v) :: r, y => putV (fun z => if z = f then some v else m0 z) r y
section
variable {P : Program} {w : World} {A : Around} {K : Frag} {mg : Str → Option Value} {base : Heap} {E : Value → Shared → Prop} {s : Shared}
  {C fI cc cda e t0 oa : Addr}
/-- further stores: the exception has its dict -/
theorem asg_run {Γ : List Stmt} {env : PySem.Env} {slf : Str} {m : Str → Option Value} {dx t1 : Addr} {cd : ClassData} {Q : Flow → Shared → Prop} (hk : env.scope.kind = .function)
    (hka : env.kindOf slf = some .local) (hds : (slf == ("__debug__" : Str)) = false) (hcd : clsIn K C = some cd) (hm : PySem.HandSPX.refsVE cd.mro = true) (hh : cd.hasDict = true) (hsa : findIn K (.ref C) "__setattr__" = some (some (.builtin "object.__setattr__"))) (he : m slf = some (.ref e)) (hdx : env.locals ≠ dx) (hne : e ≠ dx) :
    ∀ {fs : List (Str × Str)} {ss : List Stmt} {us : List Value} {m0 : Str → Option Value} {nl : List Str} {s : Shared}, AsgV slf fs ss → us.length = fs.length → (∀ x ∈ fs, env.kindOf x.2 = some .local ∧ (x.2 == ("__debug__" : Str)) = false ∧ findIn K (.ref C) x.1 = some none) → (∀ (j : Nat) (x : Str) (u : Value), (fs.map (·.2))[j]? = some x → (us[j]? : Option Value) = some u → m x = some u) →
    (∀ b o, K.lookup b = some o → s.heap.get? b = some o ∧ b ≠ dx) → s.heap.Ns env.locals m → s.heap.get? e = some (excObj C t1 (some dx) .none) → s.heap.Ns1 dx m0 → Within m0 nl → nl.length + fs.length ≤ 1000 →
    (∀ h' tk, (∀ b o, b ≠ dx → s.heap.get? b = some o → h'.get? b = some o) → h'.Ns1 dx (putV m0 ((fs.map (·.1)).zip us)) → Q .next { s with heap := h', toks := tk }) → _root_.PySem.wpAt (model P w) A (.func Γ env) (execs ss env) Q E s
  | _, _, us, m0, nl, s, .nil, hl, _, _, _, _, hE, hN, _, _, h => wpAt_of_wpAny (wpAny_execs_nil (h s.heap s.toks (fun _ _ _ z => z) (by simpa [putV] using hN)))
  | _, _, [], _, _, _, .cons _, hl, _, _, _, _, _, _, _, _, _ => by simp at hl
  | _, _, u :: us, m0, nl, s, .cons (fld := fld) (ix := ix) (fs := fs) (ss := ss) h0, hl, hx, hv, hX, hns, hE, hN, hw, hz, h => by
    obtain ⟨k1, k2, k3⟩ := hx (fld, ix) List.mem_cons_self
    refine ks_wpAt_execs_cons (wpAt_of_wpAny ?_)
    refine plainObj_wpAny_Assign_Attribute ?_ rfl
    refine PySem.ESX.ldL hns (hv 0 ix u rfl rfl) ?_ hk k1 k2
    refine PySem.ESX.ldL hns he ?_ hk hka hds
    have X2 : K.In s.heap := fun b o z => (hX b o z).1
    have hN' := hN
    obtain ⟨oD, esD, epD, hoD, hdD, _⟩ := hN.count hw
    refine set_plain (K := K) X2 (ox := excObj C t1 (some dx) .none) (od := some oD) ⟨hE, rfl, rfl, hoD⟩ hsa ?_
    refine PySem.OEX.osa_old X2 hE hN' hw (by simp at hz; omega) hcd hm hh k3 (fun h3 tk3 k3' hn => ?_)
    refine asg_run hk hka hds hcd hm hh hsa he hdx hne (s := { s with heap := h3, toks := tk3 }) h0 (by simpa using hl) (fun x z => hx x (List.mem_cons_of_mem _ z)) (fun j x v a b => hv (j + 1) x v (by simpa using a) (by simpa using b)) (fun b o z => ⟨k3' b o (hX b o z).2 (hX b o z).1, (hX b o z).2⟩) ?_ (k3' _ _ hne hE) hn (Within.cons fld u hw) (by simp at hz ⊢; omega) (fun h' tk a b => ?_)
    · obtain ⟨oL, es, ep, hL, r⟩ := hns
      exact ⟨oL, es, ep, k3' _ _ hdx hL, r⟩
    · exact h h' tk (fun b o nb z => a b o nb (k3' b o nb z)) (by simpa [putV] using b)
end
/-- C.__init__(e, ..), by places or by names -/
theorem vinit_run {qual slf txt : Str} {fs : List (Str × Str)} {us : List Value} {ar : Args} {R : Result → Shared → Prop} {P : Program} {w : World} {A : Around} {K : Frag} {mg : Str → Option Value} {base : Heap} {s : Shared} {C fI e t0 : Addr} (F : ExcVF P K C fI qual slf txt fs) (md : Mod K mg base) (bk : ∀ b o, base.get? b = some o → s.heap.get? b = some o) (room : A.depth < recursionLimit) (be : ∀ o, base.get? e ≠ some o)
    (h0 : fs ≠ []) (h9 : fs.length ≤ 9) (hl : us.length = fs.length) (har : ar = ⟨.ref e :: us, []⟩ ∨ ar = ⟨[.ref e], (fs.map (·.2)).zip us⟩) (he : s.heap.get? e = some (excObj C t0 none .none))
    (h : ∀ h' dx t1 tk, (∀ b o, b ≠ e → s.heap.get? b = some o → h'.get? b = some o) → s.heap.objs.size ≤ dx → h'.get? e = some (excObj C t1 (some dx) .none) → h'.Ns1 dx (putV (fun _ => none) ((fs.map (·.1)).zip us)) → R (.ok (.ret .none)) { s with heap := h', toks := tk }) :
    codeAny (model P w) A (.call (.ref fI) ar) R s := by
  obtain ⟨nm, q, N, bs, bm, sn, sub, ab, col, dd, k0, k1, k2, k3, k5, oc, ccl, cl, od, cdd, cld, osl, ccs, csl, cda, cc, vs, file, tf, name, params, scope, dV, kV, doc, pm, ct, an, n1, q0, q1, q2, q3, q4, q5, ss, arg,
    hC, hbm, hf, hss, hp, hag, hcode, hvs, hfile, hcell, hcd, hks, hkc, hka, hki, hk, hcel, hco, hgen, hev, hbind, hbindK⟩ := F.ex
  have X : K.In s.heap := md.kin.keeps bk
  have hcl : clsIn K C = some { name := nm, bases := bs, mro := .ref C :: bm, ns := N, qualname := q, hasDict := true, slotNames := sn, subclasses := sub, abstract := ab, collection := col, hasDel := false } := by unfold clsIn; rw [hC] <;> rfl
  have hb : BindsTo s (ksFn name qual params (supV txt n1 q0 q1 q2 q3 q4 q5 :: ss) scope dV kV doc pm an (.ref cda) ct cc) ar ((slf, .ref e) :: (fs.map (·.2)).zip us) := by
    rcases har with rfl | rfl
    · exact hbind s _ us hl
    · exact hbindK s _ us hl
  refine ks_codeAny_call_defAt (fd := ksFn name qual params (supV txt n1 q0 q1 q2 q3 q4 q5 :: ss) scope dV kV doc pm an (.ref cda) ct cc) (body := supV txt n1 q0 q1 q2 q3 q4 q5 :: ss) (binds := (slf, .ref e) :: (fs.map (·.2)).zip us) room (X _ _ hf) rfl (md.nolimit.keeps bk) (codeRec_of X hcd) rfl hb hcel ?_ (fun h₁ hns hk₁ => ?_) hco hgen hk
  · intro y hy
    rcases List.mem_cons.mp hy with rfl | hy
    · exact hka
    · obtain ⟨x, hx, ex⟩ := List.mem_map.mp (List.of_mem_zip hy).1
      rw [← ex]
      exact hki x hx
  refine ks_wpAt_execs_cons ?_
  have nd : (((slf, Value.ref e) :: (fs.map (·.2)).zip us).map (·.1)).Nodup := by
    rw [List.map_cons, List.map_fst_zip (by rw [List.length_map]; omega)]
    exact List.nodup_cons.mpr ⟨F.ne, F.nd⟩
  have look : ∀ x v, (x, v) ∈ ((slf, Value.ref e) :: (fs.map (·.2)).zip us) → (fun x => ((slf, Value.ref e) :: (fs.map (·.2)).zip us).reverse.lookup x) x = some v := fun x v hx => by
    have hx' : (x, v) ∈ ((slf, Value.ref e) :: (fs.map (·.2)).zip us).reverse := List.mem_reverse.mpr hx
    have nd' : ((((slf, Value.ref e) :: (fs.map (·.2)).zip us).reverse).map (·.1)).Nodup := by rw [List.map_reverse]; exact (List.reverse_perm _).nodup_iff.mpr nd
    show (((slf, Value.ref e) :: (fs.map (·.2)).zip us).reverse).lookup x = some v
    generalize ((slf, Value.ref e) :: (fs.map (·.2)).zip us).reverse = L at hx' nd'
    induction L with
    | nil => cases hx'
    | cons p L ih =>
      obtain ⟨a, b⟩ := p
      rw [List.map_cons, List.nodup_cons] at nd'
      rw [List.lookup_cons]
      rcases List.mem_cons.mp hx' with z | z
      · cases z
        simp
      · have : (x == a) = false := by
          rw [beq_eq_false_iff_ne]
          intro e
          exact nd'.1 (e ▸ List.mem_map_of_mem (f := (·.1)) z)
        rw [this]
        exact ih z nd'.2
  have m1 := look slf (.ref e) List.mem_cons_self
  have mj : ∀ (j : Nat) (x : Str) (u : Value), (fs.map (·.2))[j]? = some x → us[j]? = some u → (fun x => ((slf, Value.ref e) :: (fs.map (·.2)).zip us).reverse.lookup x) x = some u := fun j x u a b => look x u (List.mem_cons_of_mem _ (List.mem_of_getElem? (i := j) (by rw [List.getElem?_zip_eq_some]; exact ⟨a, b⟩)))
  have lt : e < s.heap.objs.size := Heap.lt_size he
  refine super_init (K := K) (C := C) md (fun b o z => hk₁ b o (bk b o z)) hns m1 (hk₁ _ _ he) hC hbm hf hp hag hcode hvs hfile hcell F.mro F.sup F.any F.along F.ve hks hkc hka hk F.top (hev _) (fun h2 t1 tk k2 e2 => ?_)
  have ns2 : h2.Ns s.heap.objs.size (fun x => ((slf, Value.ref e) :: (fs.map (·.2)).zip us).reverse.lookup x) := by
    obtain ⟨oL, es, ep, hL, r⟩ := hns
    exact ⟨oL, es, ep, k2 _ _ (Nat.ne_of_gt lt) hL, r⟩
  have kk : ∀ b o, b ≠ e → s.heap.get? b = some o → h2.get? b = some o := fun b o hb z => k2 b o hb (hk₁ b o z)
  have X2 : K.In h2 := md.kin.keeps fun b o z => kk b o (fun y => be o (y ▸ z)) (bk b o z)
  show _root_.PySem.wpAt _ _ _ (execs ss _) _ _ _
  cases hss with
  | nil => exact absurd rfl h0
  | @cons fld ix q6 q7 q8 q9 fs ss hss =>
  cases us with
  | nil => simp at hl
  | cons u us =>
  have hx : ∀ x ∈ (fld, ix) :: fs, (ksEnv qual scope s.heap.objs.size fI (.ref cda) cc).kindOf x.2 = some .local ∧ (x.2 == ("__debug__" : Str)) = false ∧ findIn K (.ref C) x.1 = some none := fun x hx => ⟨hki x hx, F.di x hx, F.noat x hx⟩
  obtain ⟨g1, g2, g3⟩ := hx (fld, ix) List.mem_cons_self
  refine ks_wpAt_execs_cons (wpAt_of_wpAny ?_)
  refine plainObj_wpAny_Assign_Attribute ?_ rfl
  refine PySem.ESX.ldL ns2 (mj 0 ix u rfl rfl) ?_ hk g1 g2
  refine PySem.ESX.ldL ns2 m1 ?_ hk hka F.ds
  refine set_plain (K := K) X2 (ox := excObj C t1 none .none) (od := none) ⟨e2, rfl, rfl, trivial⟩ F.sa ?_
  refine PySem.HandSPX.exc_osa X2 e2 hcl (show PySem.HandSPX.refsVE (.ref C :: bm) = true from hbm) rfl g3 (fun h3 tk3 dx k3' dn dne hx3 hn => ?_)
  have dge : s.heap.objs.size < dx := Nat.lt_of_lt_of_le ns2.lt dn
  refine asg_run (env := ksEnv qual scope s.heap.objs.size fI (.ref cda) cc) (K := K) (P := P) (w := w) (t1 := t1) (dx := dx) (nl := [fld]) (s := { s with heap := h3, toks := tk3 }) (m := fun x => ((slf, Value.ref e) :: (((fld, ix) :: fs).map (·.2)).zip (u :: us)).reverse.lookup x) hk hka F.ds hcl (show PySem.HandSPX.refsVE (.ref C :: bm) = true from hbm) rfl F.sa m1 (Nat.ne_of_lt dge) dne.symm hss (by simpa using hl) (fun x z => hx x (List.mem_cons_of_mem _ z)) (fun j x v a b => mj (j + 1) x v (by simpa using a) (by simpa using b)) (fun b o z => ?_) ?_ hx3 hn ?_ (by simp at h9 ⊢; omega) (fun h' tk' a b => ?_)
  · have z2 := md.kin _ _ z
    have ne : b ≠ e := fun y => be o (y ▸ z2)
    have zb := bk b o z2
    exact ⟨k3' b o ne (kk b o ne zb), Nat.ne_of_lt (Nat.lt_trans (Heap.lt_size zb) dge)⟩
  · obtain ⟨oL, es, ep, hL, r⟩ := ns2
    exact ⟨oL, es, ep, k3' _ _ (Nat.ne_of_gt lt) hL, r⟩
  · exact Within.cons fld u Within.nil
  · refine h h' dx t1 tk' (fun b o hb z => a b o (Nat.ne_of_lt (Nat.lt_trans (Heap.lt_size z) dge)) (k3' b o hb (kk b o hb z))) (Nat.le_of_lt dge) (a _ _ dne.symm hx3) ?_
    simpa [putV] using b
end PyD
end

section
set_option Elab.async false
set_option linter.all false
set_option maxRecDepth 100000
set_option maxHeartbeats 2000000
/-! own exceptions as values: made, asked by isinstance, their fields read -/
namespace PyD
variable [Om]
open PySem L2 PySem.Spec PyProof.Rows PySem.W PySem.Calls
theorem putV_rel : ∀ {ns : List Str} {vs : List V} {us : List Value} {m0 : Str → Option Value}, ns.Nodup → Vals vs us → ns.length = vs.length → ∀ f, (f ∈ ns → RelO ((ns.zip vs).lookup f) (putV m0 (ns.zip us) f)) ∧ (f ∉ ns → (ns.zip vs).lookup f = none ∧ putV m0 (ns.zip us) f = m0 f)
  | [], _, _, _, _, .nil, _, f => ⟨fun h => absurd h (by simp), fun _ => ⟨rfl, rfl⟩⟩
  | n :: ns, v :: vs, u :: us, m0, nd, .cons r rs, hl, f => by
    obtain ⟨h1, h2⟩ := List.nodup_cons.mp nd
    obtain ⟨a, b⟩ := putV_rel (m0 := fun z => if z = n then some u else m0 z) h2 rs (by simpa using hl) f
    refine ⟨fun h => ?_, fun h => ?_⟩
    · rw [List.zip_cons_cons, List.zip_cons_cons, List.lookup_cons]
      by_cases e : f = n
      · subst e
        obtain ⟨_, b2⟩ := b h1
        rw [beq_self_eq_true, show putV m0 ((f, u) :: ns.zip us) f = putV (fun z => if z = f then some u else m0 z) (ns.zip us) f from rfl, b2]
        show RelO (some v) (if f = f then some u else m0 f)
        rw [if_pos rfl]
        exact r
      · rw [beq_eq_false_iff_ne.mpr e]
        exact a ((List.mem_cons.mp h).resolve_left e)
    · have n1 : f ≠ n := fun z => h (z ▸ List.mem_cons_self)
      have n2 : f ∉ ns := fun z => h (List.mem_cons_of_mem _ z)
      obtain ⟨b1, b2⟩ := b n2
      rw [List.zip_cons_cons, List.zip_cons_cons, List.lookup_cons, beq_eq_false_iff_ne.mpr n1]
      exact ⟨b1, b2.trans (if_neg n1)⟩
section
variable {X : Cx} {x : Str} {C fI : Addr} {qual slf txt : Str} {fs : List (Str × Str)} {k : Nat} {pins : List (Addr × Obj)} {σ : L2.St} {H : Hp} {s : Shared} {Q : VK}
/-- the class called with these values -/
theorem new_core {us : List Value} {vs : List V} {ar : Args} (F : ExcVF X.prog X.K C fI qual slf txt fs) (G : ExcR X.K C fI) (hr : Room (k + 1) X.A) (h0 : fs ≠ []) (h9 : fs.length ≤ 9) (hnf : (fs.map (·.1)).Nodup) (I1 : Inv X pins σ H s) (r1 : Vals vs us) (hl : vs.length = fs.length)
    (har : ar = ⟨us, []⟩ ∨ ar = ⟨[], (fs.map (·.2)).zip us⟩) (q1 : ∀ d a, H d = none → H a = none → a ≠ d → Q (.ref a) (upd (upd H d (.xd ((fs.map (·.1)).zip vs))) a (ExX (.ref C) a d))) :
    wpAny (model X.prog X.w) X.A (call (.ref C) ar.pos ar.kw) (EP X pins σ Q) X.xe s := by
  obtain ⟨nm, q, N, bs, bm, sn, sub, ab, col, dd, k0, k1, k2, k3, k5, oc, ccl, cl, od, cdd, cld, osl, ccs, csl, cda, cc, vs', file, tf, name, params, scope, dV, kV, doc, pm, ct, an, n1, q0, q1', q2, q3, q4, q5, ss, arg,
    hC, hbm, _⟩ := F.ex
  have lus : us.length = fs.length := by rw [← r1.length]; exact hl
  have har2 : ar.pos.length ≤ sizeLine := by
    rcases har with rfl | rfl
    · show us.length ≤ sizeLine
      rw [sizeLine_eq]; omega
    · exact Nat.zero_le _
  obtain ⟨hp, g, dr, tk, os⟩ := s
  have kk : ∀ b o, hp.get? b = some o → ((hp.push (PySem.W.kdv_tup ar.pos)).push (PySem.HandSPX.excO C hp.objs.size)).get? b = some o := fun b o e => Heap.get?_push_of_some _ (Heap.get?_push_of_some _ e)
  have hget : ((hp.push (PySem.W.kdv_tup ar.pos)).push (PySem.HandSPX.excO C hp.objs.size)).get? (hp.objs.size + 1) = some (PySem.HandSPX.excO C hp.objs.size) := by heap_get
  have nb : ∀ {b : Addr} {o : Obj}, hp.get? b = some o → b ≠ hp.objs.size + 1 := fun {b o} z => Nat.ne_of_lt (Nat.lt_succ_of_lt (Heap.lt_size z))
  refine wpAny_call (PySem.HandSPX.call_ownW PySem.F.excBase_ValueError (fun Y => PySem.HandSPX.refsVE_contains Y bm hbm) (I1.kIn _ _ hC) (PySem.W.looks_findIn I1.kIn G.init) (fun slf => PySem.W.bind_fn I1.kIn slf G.tyI) har2 ?_)
  refine vinit_run (us := us) (s := ⟨(hp.push (PySem.W.kdv_tup ar.pos)).push (PySem.HandSPX.excO C hp.objs.size), g, dr, tk, os⟩) (e := hp.objs.size + 1) (t0 := hp.objs.size) F I1.ok.mod (fun b o z => kk b o (I1.bk b o z)) (hr.make C ar.pos ar.kw).depth (fun o z => nb (I1.bk _ _ z) rfl) h0 h9 lus ?_ hget (fun h' dx t1 tk' k' dn he hn => ?_)
  · rcases har with rfl | rfl
    · exact .inl rfl
    · exact .inr rfl
  refine ⟨rfl, ?_⟩
  have dsz : hp.objs.size + 2 ≤ dx := by
    have z : ((hp.push (PySem.W.kdv_tup ar.pos)).push (PySem.HandSPX.excO C hp.objs.size)).objs.size ≤ dx := dn
    rw [Heap.size_push, Heap.size_push] at z
    exact z
  have nda : dx ≠ hp.objs.size + 1 := by omega
  have hd1 : H dx = none := I1.hok.fresh (by show hp.objs.size ≤ dx; omega)
  have ha1 : H (hp.objs.size + 1) = none := I1.hok.fresh (by show hp.objs.size ≤ hp.objs.size + 1; omega)
  obtain ⟨G', g1, g2⟩ := restrict h' fun b => decide (b ≠ hp.objs.size + 1)
  have gk : ∀ b, b ≠ hp.objs.size + 1 → G'.get? b = h'.get? b := fun b hb => g1 b (decide_eq_true hb)
  have ge : G'.get? (hp.objs.size + 1) = none := g2 _ (by simp)
  have kG : ∀ b o, hp.get? b = some o → G'.get? b = some o := fun b o z => (gk b (nb z)).trans (k' b o (nb z) (kk b o z))
  have rel : ∀ f, RelO (((fs.map (·.1)).zip vs).lookup f) (putV (fun _ => none) ((fs.map (·.1)).zip us) f) := fun f => by
    obtain ⟨a, b⟩ := putV_rel (m0 := fun _ => none) hnf r1 (by rw [List.length_map, hl]) f
    by_cases e : f ∈ fs.map (·.1)
    · exact a e
    · obtain ⟨b1, b2⟩ := b e
      rw [b1, b2]
      trivial
  have J : Inv X pins σ (upd H dx (.xd ((fs.map (·.1)).zip vs))) { (⟨hp, g, dr, tk, os⟩ : Shared) with heap := G', toks := tk' } :=
    I1.laid (a := dx) (o := .xd ((fs.map (·.1)).zip vs)) kG (by show hp.objs.size ≤ dx; omega) ⟨_, hn.at fun o z => (gk dx nda).trans z, rel⟩
  have ha2 : (upd H dx (.xd ((fs.map (·.1)).zip vs))) (hp.objs.size + 1) = none := by rw [upd_ne nda.symm]; exact ha1
  have J2 : Inv X pins σ (upd (upd H dx (.xd ((fs.map (·.1)).zip vs))) (hp.objs.size + 1) (ExX (.ref C) (hp.objs.size + 1) dx)) ⟨h', g, dr, tk', os⟩ :=
    J.laidN (t' := tk') (fun b o z => by
      by_cases hb : b = hp.objs.size + 1
      · subst hb
        rw [show (({ (⟨hp, g, dr, tk, os⟩ : Shared) with heap := G', toks := tk' } : Shared).heap) = G' from rfl, ge] at z
        cases z
      · exact (gk b hb).symm.trans z) ge ha2 ⟨⟨_, _, he, ⟨rfl, rfl⟩, rfl⟩, ⟨_, he⟩, fun _ _ ⟨o, v, q, r⟩ k => ⟨o, v, k o q, r⟩⟩
  exact ⟨.ref (hp.objs.size + 1), _, J2, rfl, q1 dx (hp.objs.size + 1) hd1 ha1 nda.symm⟩
theorem wE_newV {n : Nat} {e : Expr} {es : List Expr} {p pos : Pos} (F : ExcVF X.prog X.K C fI qual slf txt fs) (G : ExcR X.K C fI) (hr : Room (k + 1) X.A) (h0 : fs ≠ []) (h9 : fs.length ≤ 9) (hnf : (fs.map (·.1)).Nodup) (hg : Gl X x) (hm : X.mg x = some (.ref C)) (pl : Plain X (e :: es)) (hl : (e :: es).length = fs.length)
    (h : wL 0 X (e :: es) σ H fun vs H1 => ∀ d a, H1 d = none → H1 a = none → a ≠ d → Q (.ref a) (upd (upd H1 d (.xd ((fs.map (·.1)).zip vs))) a (ExX (.ref C) a d)))
    (hdb : (x == ("__debug__" : Str)) = false := by decide) (hpl : (backTo pos (starEach es X.env)).any (·.1) = false := by rfl) : wE n X (.Call (.Name x p) (e :: es) [] pos) σ H Q := by
  refine wE_mk fun pins s _ I => ?_
  refine wpAny_Call_Name_kw (ld_glob I hg hm ?_ hdb)
  refine PySem.W.callWith_K (h₀ := X.base) I.ok.mod.kin G.kC (thn (wA_L pl (wL_len (wL_mono h fun vs H1 z hv => (⟨hv, z⟩ : vs.length = (e :: es).length ∧ _))) pos pins s (Nat.zero_le _) I) fun us s1 ⟨vs, H1, I1, r1, hv, q1⟩ => ⟨I1.kIn, ?_⟩) pl.1 hpl
  exact new_core (ar := ⟨us, []⟩) F G hr h0 h9 hnf I1 r1 (hv.trans hl) (.inl rfl) q1
theorem wE_newK {n : Nat} {kws : List Keyword} {p pos : Pos} (F : ExcVF X.prog X.K C fI qual slf txt fs) (G : ExcR X.K C fI) (hr : Room (k + 1) X.A) (h0 : fs ≠ []) (h9 : fs.length ≤ 9) (hnf : (fs.map (·.1)).Nodup) (hg : Gl X x) (hm : X.mg x = some (.ref C)) (hl : kws.length = fs.length)
    (h : wL 0 X (kws.map (·.value)) σ H fun vs H1 => ∀ d a, H1 d = none → H1 a = none → a ≠ d → Q (.ref a) (upd (upd H1 d (.xd ((fs.map (·.1)).zip vs))) a (ExX (.ref C) a d)))
    (all : (backToKw pos (keywordEach kws X.env)).all (·.1.isSome) = true) (names : (backToKw pos (keywordEach kws X.env)).filterMap (·.1) = fs.map (·.2)) (plain : ((backTo pos (starEach [] X.env)).any (·.1) || (backToKw pos (keywordEach kws X.env)).any (·.1.isNone)) = false)
    (hdb : (x == ("__debug__" : Str)) = false := by decide) : wE n X (.Call (.Name x p) [] kws pos) σ H Q := by
  refine wE_mk fun pins s _ I => ?_
  refine wpAny_Call_Name_kw (ld_glob I hg hm (PySem.W.callWith_KW0 (h₀ := X.base) I.ok.mod.kin G.kC all ?_ plain) hdb)
  refine thn ((pk_w kws).run pos pins s σ H _ I (wL_len (wL_mono h fun vs H1 z hv => (⟨hv, z⟩ : vs.length = (kws.map (·.value)).length ∧ _)))) ?_
  rintro us s1 ⟨vs, H1, I1, r, hv, z⟩
  refine ⟨I1.kIn, ?_⟩
  rw [names]
  exact new_core (ar := ⟨[], (fs.map (·.2)).zip us⟩) F G hr h0 h9 hnf I1 r (by rw [hv, List.length_map, hl]) (.inr rfl) z
end
end PyD
end

section
set_option Elab.async false
set_option linter.all false
set_option maxRecDepth 100000
set_option maxHeartbeats 2000000
/-! own exceptions as values: the rules -/
namespace PyD
variable [Om]
open PySem L2 PySem.Spec PyProof.Rows PySem.W PySem.Calls
/-- frozen values -/
def frzs : List O → Option (List D)
  | [] => some []
  | .fz d :: os => (frzs os).map (d :: ·)
  | _ => none
theorem owns_frzs {K : Frag} {F H : Hp} : ∀ {vs : List V} {os : List O} {T : List Addr} {ds : List D}, Owns K F H vs os T → frzs os = some ds → T = [] ∧ Reps K F vs ds
  | _, _, _, _, .nil, h => by cases h; exact ⟨rfl, .nil⟩
  | _, _, _, _, .cons (o := .fz d) (.fz r) rs, h => by
    obtain ⟨ds, h1, rfl⟩ := Option.map_eq_some_iff.mp h
    obtain ⟨rfl, q⟩ := owns_frzs rs h1
    exact ⟨rfl, .cons r q⟩
  | _, _, _, _, .cons (o := .lst _) _ _, h => by cases h
  | _, _, _, _, .cons (o := .tup _) _ _, h => by cases h
  | _, _, _, _, .cons (o := .dic _) _ _, h => by cases h
  | _, _, _, _, .cons (o := .dct _) _ _, h => by cases h
  | _, _, _, _, .cons (o := .seen _) _ _, h => by cases h
  | _, _, _, _, .cons (o := .nd _) _ _, h => by cases h
/-- C(e, ..) -/
def eNewV (c : List Nat) (fs : List Str) (f : Env → R (List O)) : Env → R O := fun env => match f env with
  | .ok os e => (match frzs os with
    | some ds => .ok (.fz (.set [.str c, .lst (fs.map fun f => .str f.cps.toList), .lst ds])) e
    | none => .bad)
  | .exc c ds e => .exc c ds e
  | .bad => .bad
/-- C(e), C without own __init__ -/
def eNewZ (c : List Nat) (f : Env → R O) : Env → R O := fun env => match f env with
  | .ok (.fz _) e => .ok (.fz (.set [.str c])) e
  | .ok _ _ => .bad
  | .exc c ds e => .exc c ds e
  | .bad => .bad
/-- a frozen cell more -/
theorem new_fz {K : Frag} {F H F1 H1 : Hp} {σ : L2.St} {env : Env} {S S1 : List Addr} {p : Addr} {o : HO} (tr : Trans F H S F1 H1 S1) (s : Stt K F1 H1 σ env S1) (hp : H1 p = none) : Trans F H S (upd F1 p o) (upd H1 p o) S1 ∧ Stt K (upd F1 p o) (upd H1 p o) σ env S1 := by
  have hF : F1 p = none := by
    cases e : F1 p with
    | none => rfl
    | some w => rw [s.sub p w e] at hp; cases hp
  have ex : Ex H1 (upd H1 p o) := Ex.new hp
  have exF : Ex F1 (upd F1 p o) := Ex.new hF
  have nS : p ∉ S1 := fun m => by
    obtain ⟨w, e⟩ := s.own.live p m
    rw [hp] at e; cases e
  refine ⟨tr.trans ⟨fun a w e _ => ex a w e, exF, fun a w e => ?_, fun a m => .inl m, fun a e => ?_⟩, ⟨s.own.keep exF fun a _ w e => ex a w e, fun a w e => ?_, s.nd, fun a m => ?_⟩⟩
  · by_cases z : a = p
    · subst z; exact .inr (.inr hp)
    · rw [upd_ne z] at e; exact .inl ⟨w, e⟩
  · by_cases z : a = p
    · subst z; exact hp
    · rwa [upd_ne z] at e
  · by_cases z : a = p
    · subst z; rw [upd_same] at e ⊢; exact e
    · rw [upd_ne z] at e ⊢; exact s.sub a w e
  · rw [upd_ne (fun z : a = p => nS (z ▸ m))]; exact s.sep a m
section
variable {X : Cx} {n : Nat} {x : Str} {C fI : Addr} {qual slf txt : Str} {fs : List (Str × Str)} {k : Nat}
/-- what stands behind both forms of the call -/
theorem newV_post {σ : L2.St} {F H : Hp} {S : List Addr} {Q : VK} {W : WX} {es : List Expr} {f : Env → R (List O)} {env : Env} (gK : nsIn X.K mainGlobals x = some (some (.ref C))) (h : SndA 0 X es f) (tk : L2N.Takes X W) (st : Stt X.K F H σ env S) (q : PostE X W σ F H S Q (eNewV x.cps.toList (fs.map (·.1)) f env)) :
    wL 0 X es σ H fun vs H1 => ∀ d a, H1 d = none → H1 a = none → a ≠ d → Q (.ref a) (upd (upd H1 d (.xd ((fs.map (·.1)).zip vs))) a (ExX (.ref C) a d)) := by
  refine h.run W tk env σ F H S _ st ?_
  unfold eNewV at q
  revert q
  cases f env with
  | exc c ds e => exact fun q => q
  | bad => exact fun q => q
  | ok os e =>
    cases hz : frzs os with
    | none => intro q; rw [show (match (R.ok os e : R (List O)) with | .ok os e => (match frzs os with | some ds => R.ok (.fz (.set [.str x.cps.toList, .lst ((fs.map (·.1)).map fun f => .str f.cps.toList), .lst ds])) e | none => .bad) | .exc c ds e => .exc c ds e | .bad => .bad) = (.bad : R O) by simp only [hz]] at q; exact q.elim
    | some ds =>
      intro q
      rw [show (match (R.ok os e : R (List O)) with | .ok os e => (match frzs os with | some ds => R.ok (.fz (.set [.str x.cps.toList, .lst ((fs.map (·.1)).map fun f => .str f.cps.toList), .lst ds])) e | none => .bad) | .exc c ds e => .exc c ds e | .bad => .bad) = (R.ok (.fz (.set [.str x.cps.toList, .lst ((fs.map (·.1)).map fun f => .str f.cps.toList), .lst ds])) e : R O) by simp only [hz]] at q
      intro vs F1 H1 S1 T tr s d a hd ha ne
      obtain ⟨rfl, rp⟩ := owns_frzs s.val hz
      obtain ⟨t1, s1⟩ := new_fz (o := .xd ((fs.map (·.1)).zip vs)) (tr : Trans F H S F1 H1 S1) s.st hd
      have ha' : (upd H1 d (.xd ((fs.map (·.1)).zip vs))) a = none := by rw [upd_ne ne]; exact ha
      obtain ⟨t2, s2⟩ := new_fz (o := ExX (.ref C) a d) t1 s1 ha'
      have r : Rep X.K (upd (upd F1 d (.xd ((fs.map (·.1)).zip vs))) a (ExX (.ref C) a d)) (.ref a) (.set [.str x.cps.toList, .lst ((fs.map (·.1)).map fun f => .str f.cps.toList), .lst ds]) := by
        have hF : F1 d = none := by
          cases e : F1 d with
          | none => rfl
          | some w => rw [s.st.sub d w e] at hd; cases hd
        have hF2 : (upd F1 d (.xd ((fs.map (·.1)).zip vs))) a = none := by
          cases e : (upd F1 d (.xd ((fs.map (·.1)).zip vs))) a with
          | none => rfl
          | some w => rw [s1.sub a w e] at ha'; cases ha'
        refine .e1 _ (dx := d) (C := C) upd_same (by rw [sOf_toList]; exact gK) (fs := fs.map (·.1)) (vs := vs) ?_ (rp.mono ?_)
        · rw [upd_ne ne.symm, upd_same]
        · exact (Ex.new hF).trans (Ex.new hF2)
      exact q (.ref a) _ _ S1 [] t2 ⟨s2, .cons (fp := []) (fq := []) (.fz r) .nil, List.nodup_nil, ⟨fun _ m => (nomatch m), fun _ m => (nomatch m), fun _ m => (nomatch m)⟩⟩
theorem snd_newV {e : Expr} {es : List Expr} {p pos : Pos} {f : Env → R (List O)} (F : ExcVF X.prog X.K C fI qual slf txt fs) (G : ExcR X.K C fI) (gK : nsIn X.K mainGlobals x = some (some (.ref C))) (hm : X.mg x = some (.ref C)) (hr : Room (k + 1) X.A) (h0 : fs ≠ []) (h9 : fs.length ≤ 9) (hnf : (fs.map (·.1)).Nodup) (hg : Gl X x) (h : SndA 0 X (e :: es) f) (pl : Plain X (e :: es)) (hl : (e :: es).length = fs.length)
    (hdb : (x == ("__debug__" : Str)) = false := by decide) (hpl : (backTo pos (starEach es X.env)).any (·.1) = false := by rfl) : SndE n X (.Call (.Name x p) (e :: es) [] pos) (eNewV x.cps.toList (fs.map (·.1)) f) :=
  SndE.up (.mk fun W tk env σ F0 H S Q st q => wE_newV F G hr h0 h9 hnf hg hm pl hl (newV_post gK h tk st q) hdb hpl)
theorem snd_newK {kws : List Keyword} {p pos : Pos} {f : Env → R (List O)} (F : ExcVF X.prog X.K C fI qual slf txt fs) (G : ExcR X.K C fI) (gK : nsIn X.K mainGlobals x = some (some (.ref C))) (hm : X.mg x = some (.ref C)) (hr : Room (k + 1) X.A) (h0 : fs ≠ []) (h9 : fs.length ≤ 9) (hnf : (fs.map (·.1)).Nodup) (hg : Gl X x) (h : SndA 0 X (kws.map (·.value)) f) (hl : kws.length = fs.length)
    (all : (backToKw pos (keywordEach kws X.env)).all (·.1.isSome) = true) (names : (backToKw pos (keywordEach kws X.env)).filterMap (·.1) = fs.map (·.2)) (plain : ((backTo pos (starEach [] X.env)).any (·.1) || (backToKw pos (keywordEach kws X.env)).any (·.1.isNone)) = false)
    (hdb : (x == ("__debug__" : Str)) = false := by decide) : SndE n X (.Call (.Name x p) [] kws pos) (eNewV x.cps.toList (fs.map (·.1)) f) :=
  SndE.up (.mk fun W tk env σ F0 H S Q st q => wE_newK F G hr h0 h9 hnf hg hm hl (newV_post gK h tk st q) all names plain hdb)
theorem snd_newZ {e : Expr} {p pos : Pos} {f : Env → R O} (E : excIn X.K C He.veBase "ValueError.__new__" = true) (gC : X.mg x = some (.ref C)) (gK : nsIn X.K mainGlobals x = some (some (.ref C))) (kC : keepIn X.K (.ref C) = true) (hg : Gl X x) (h : SndE 0 X e f) (hs : starEach [e] X.env = (false, eval e X.env) :: starEach [] X.env := by rfl) (hdb : (x == ("__debug__" : Str)) = false := by decide) :
    SndE n X (.Call (.Name x p) [e] [] pos) (eNewZ x.cps.toList f) := by
  refine SndE.up (.mk fun W tk env σ F0 H S Q st q => ?_)
  refine wE_of (L2.pe_exc1 PySem.F.excBase_ValueError E gC kC hg pe_w hs hdb) ?_
  refine h.run W tk env σ F0 H S _ st ?_
  unfold eNewZ at q
  revert q
  cases f env with
  | exc c ds e => exact fun q => q
  | bad => exact fun q => q
  | ok o e =>
    cases o with
    | fz d =>
      intro q v F1 H1 S1 T tr s a ha
      cases s.val with
      | cons rv rn =>
      cases rn
      cases rv
      obtain ⟨t1, s1⟩ := new_fz (o := ExO (.ref C) a) (by simpa using tr : Trans F0 H S F1 H1 S1) s.st ha
      exact q (.ref a) _ _ S1 [] t1 ⟨s1, .cons (fp := []) (fq := []) (.fz (.e0 _ (C := C) upd_same (by rw [sOf_toList]; exact gK))) .nil, List.nodup_nil, ⟨fun _ m => (nomatch m), fun _ m => (nomatch m), fun _ m => (nomatch m)⟩⟩
    | _ => exact fun q => q.elim
end
end PyD
end

section
set_option Elab.async false
set_option linter.all false
set_option maxRecDepth 100000
set_option maxHeartbeats 2000000
/-! own exceptions as values: isinstance, fields -/
namespace PyD
variable [Om]
open PySem L2 PySem.Spec PyProof.Rows PySem.W PySem.Calls
/-- an exception that is tracked -/
def XvAt (C a : Addr) (H : Hp) : Prop := H a = some (ExO (.ref C) a) ∨ ∃ dx fs, H a = some (ExX (.ref C) a dx) ∧ H dx = some (.xd fs)
theorem XvAt.inst {X : Cx} {pins : List (Addr × Obj)} {σ : L2.St} {H : Hp} {s : Shared} {C a : Addr} (h : XvAt C a H) (I : Inv X pins σ H s) : ∃ ox od, InstAt s.heap a ox C od := by
  rcases h with h | ⟨dx, fs, h, hx⟩
  · obtain ⟨⟨oe, vs, ho, hz, hd, _⟩, _, _⟩ := I.hok a _ h
    obtain ⟨oc, odd, oda, osl⟩ := oe
    obtain ⟨h1, h2⟩ := hz
    dsimp only at h1 h2 hd
    subst h1 h2 hd
    exact ⟨_, none, ho, rfl, rfl, trivial⟩
  · obtain ⟨⟨oe, vs, ho, hz, hd⟩, _, _⟩ := I.hok a _ h
    obtain ⟨oc, odd, oda, osl⟩ := oe
    obtain ⟨h1, h2⟩ := hz
    dsimp only at h1 h2 hd
    subst h1 h2 hd
    obtain ⟨mA, hns, hr⟩ := (show ObjOk X.prog X.w H s.heap dx (.xd fs) from I.hok dx _ hx)
    obtain ⟨od, ho2, hl⟩ := lookIn_ns hns
    exact ⟨_, some od, ho, rfl, rfl, ho2⟩
/-- isinstance(e, c) -/
def rIsV (K : Frag) : List V → Hp → VK → Prop := fun xs H Q => ∃ (a C : Addr) (c : V) (cv : Value) (b : Bool), xs = [.ref a, c] ∧ (∀ u, RelV c u → u = cv) ∧ ExcC K C ∧ kitOne K (.ref C) cv = some b ∧ XvAt C a H ∧ Q (.bl b) H
theorem call_isV {X : Cx} : CallR X (.builtin "isinstance") (rIsV X.K) := by
  intro pins s σ H xs us Q I r h
  obtain ⟨a, C, c, cv, b, rfl, hcv, F, e, hx, q⟩ := h
  obtain ⟨u1, u2, rfl, r1, r2⟩ := vals2 r
  have ec := hcv _ r2
  subst ec
  cases (show u1 = Value.ref a from r1)
  obtain ⟨ox, od, J⟩ := hx.inst I
  exact kia_one (kitx_exc F) I.kIn ⟨_, _, J⟩ e (fun z => nomatch z) fun tk => ⟨.bl b, H, I.kept (t' := tk) fun _ _ z => z, rfl, q⟩
def semIsV (b : List Nat → Option Bool) : List D → Option At
  | [.set [.str c]] => (b c).map .bl
  | [.set [.str c, .lst _, .lst _]] => (b c).map .bl
  | _ => none
theorem xv_rep {K : Frag} {H : Hp} {v : V} {c : List Nat} {ds : List D} (r : Rep K H v (.set (.str c :: ds))) (h : ds = [] ∨ ∃ n m, ds = [.lst n, .lst m]) : ∃ a C, v = .ref a ∧ nsIn K mainGlobals (sOf c) = some (some (.ref C)) ∧ XvAt C a H := by
  rcases h with rfl | ⟨n, m, rfl⟩
  · cases r with
    | e0 _ h n => exact ⟨_, _, rfl, n, .inl h⟩
  · cases r with
    | e1 _ h n g r => exact ⟨_, _, rfl, n, .inr ⟨_, _, h, g⟩⟩
theorem opa_isV {K : Frag} {c : V} {cv : Value} {b : List Nat → Option Bool} (hcv : ∀ u, RelV c u → u = cv) (hb : ∀ x t C, b x = some t → nsIn K mainGlobals (sOf x) = some (some (.ref C)) → ExcC K C ∧ kitOne K (.ref C) cv = some t) : OpA K (fun vs H Q => rIsV K (vs ++ [c]) H Q) (semIsV b) := by
  intro H vs ds t Q r h q
  have main : ∀ (x : List Nat) (es : List D), ds = [.set (.str x :: es)] → (es = [] ∨ ∃ n m, es = [.lst n, .lst m]) → (b x).map At.bl = some t → rIsV K (vs ++ [c]) H Q := by
    intro x es e1 e2 e3
    subst e1
    obtain ⟨v, rfl, rv⟩ := r.one
    obtain ⟨tt, e4, rfl⟩ := Option.map_eq_some_iff.mp e3
    obtain ⟨a, C, rfl, hn, hx⟩ := xv_rep rv e2
    obtain ⟨h1, h2⟩ := hb x tt C e4 hn
    exact ⟨a, C, c, cv, tt, rfl, hcv, h1, h2, hx, q trivial⟩
  unfold semIsV at h
  split at h
  · exact main _ _ rfl (.inl rfl) h
  · exact main _ _ rfl (.inr ⟨_, _, rfl⟩) h
  · cases h
section
variable {n : Nat} {X : Cx}
theorem snd_isV {x : Str} {Cy : Addr} {b : List Nat → Option Bool} {e : Expr} {p p2 pos : Pos} {f : Env → R (List Opd)} (hb : ∀ x t C, b x = some t → nsIn X.K mainGlobals (sOf x) = some (some (.ref C)) → ExcC X.K C ∧ kitOne X.K (.ref C) (.ref Cy) = some t) (B : IsiN X) (hg : Gl X x) (hm : X.mg x = some (.ref Cy)) (h : SndL n X [e] f) (pl : Plain X [e, .Name x p2])
    (hpl : (backTo pos (starEach [.Name x p2] X.env)).any (·.1) = false := by rfl) (hdb : (x == ("__debug__" : Str)) = false := by decide) : SndE n X (.Call (.Name "isinstance" p) [e, .Name x p2] [] pos) (eA (semIsV b) f) :=
  snd_A h (opa_isV (c := .ref Cy) (fun u r => r) hb) fun σ H Q hq => by
    refine wE_callB call_isV B.gi B.mi B.bi pl (by decide) (by decide) hpl σ H Q ?_
    refine wE_mono hq fun v H1 h1 => ?_
    exact wE_of (pe_glob hg hm (v := .ref Cy) rfl hdb) h1
theorem snd_isVB {x : Str} {T : String} {b : List Nat → Option Bool} {e : Expr} {p p2 pos : Pos} {f : Env → R (List Opd)} (hb : ∀ x t C, b x = some t → nsIn X.K mainGlobals (sOf x) = some (some (.ref C)) → ExcC X.K C ∧ kitOne X.K (.ref C) (.type T) = some t) (B : IsiN X) (hg : Gl X x) (hm : X.mg x = none) (ht : bootBuiltins x = some (.type T)) (h : SndL n X [e] f) (pl : Plain X [e, .Name x p2])
    (hpl : (backTo pos (starEach [.Name x p2] X.env)).any (·.1) = false := by rfl) (hn : x ≠ "__name__" := by decide) (hdb : (x == ("__debug__" : Str)) = false := by decide) : SndE n X (.Call (.Name "isinstance" p) [e, .Name x p2] [] pos) (eA (semIsV b) f) :=
  snd_A h (opa_isV (c := .ty T) (fun u r => r) hb) fun σ H Q hq => by
    refine wE_callB call_isV B.gi B.mi B.bi pl (by decide) (by decide) hpl σ H Q ?_
    refine wE_mono hq fun v H1 h1 => ?_
    exact wE_of (pe_bltn hg hm ht (v := .ty T) rfl hn hdb) h1
/-! e.f -/
def semXv (ok : List Nat → Bool) (f : List Nat) : D → Option D
  | .set [.str c, .lst ns, .lst ds] => if ok c = true then lookups ns ds f else none
  | _ => none
def eXv (ok : List Nat → Bool) (f : List Nat) (g : Env → R O) : Env → R O := fun env => match g env with
  | .ok (.fz e) e1 => (match semXv ok f e with
    | some x => .ok (.fz x) e1
    | none => .bad)
  | .ok _ _ => .bad
  | .exc c ds e => .exc c ds e
  | .bad => .bad
theorem snd_xv {nm : Str} {e : Expr} {pos : Pos} {g : Env → R O} {ok : List Nat → Bool} (hT : ∀ c C, ok c = true → nsIn X.K mainGlobals (sOf c) = some (some (.ref C)) → XfC X.K C ∧ PySem.W.findIn X.K (.ref C) nm = some none) (h : SndE n X e g) (hb : attributeBase e nm X.env (eval e X.env) = eval e X.env := by rfl) : SndE n X (.Attribute e nm pos) (eXv ok nm.cps.toList g) := by
  refine .mk fun W tk env σ F H S Q st q => ?_
  have run : wE n X e σ H (fun v H1 => ∃ (a dd C : Addr) (fs : List (Str × V)) (y : V), v = .ref a ∧ XfC X.K C ∧ PySem.W.findIn X.K (.ref C) nm = some none ∧ H1 a = some (ExX (.ref C) a dd) ∧ H1 dd = some (.xd fs) ∧ fs.lookup nm = some y ∧ Q y H1) := by
    refine h.run W tk env σ F H S _ st ?_
    unfold eXv at q
    revert q
    cases g env with
    | exc c ds e => exact fun q => q
    | bad => exact fun q => q
    | ok o e1 =>
      cases o with
      | fz x =>
        simp only []
        cases hs : semXv ok nm.cps.toList x with
        | none => exact fun q => q.elim
        | some y =>
          intro q v F' H' S' T' tr sta
          unfold semXv at hs
          split at hs
          · split at hs
            · rename_i c ns ds hok
              cases sta.val with
              | cons r rr =>
                cases rr
                cases r with
                | fz r =>
                cases r with
                | e1 _ h1 hn hF rs =>
                  obtain ⟨t1, t2⟩ := hT _ _ hok hn
                  obtain ⟨y', hy, ry⟩ := lookups_ok rs hs
                  exact ⟨_, _, _, _, y', rfl, t1, t2, sta.st.sub _ _ h1, sta.st.sub _ _ hF, hy, q y' F' H' S' [] tr ⟨sta.st, .cons (.fz ry) .nil, List.nodup_nil, sta.as⟩⟩
            · cases hs
          · cases hs
      | _ => exact fun q => q.elim
  refine wE_mk fun pins s hn I => attr_of hb (thn (wE_run run pins s hn I) fun u s1 ⟨v, H1, I1, rv, a, dd, C, fs, y, ev, T, hno, e0, ea, l, q1⟩ => ?_)
  subst ev
  obtain rfl : u = Value.ref a := rv
  obtain ⟨⟨oe, vs, ho, hz, hd⟩, _, _⟩ := I1.hok a _ e0
  obtain ⟨mA, hns, hr⟩ := (show ObjOk X.prog X.w H1 s1.heap dd (.xd fs) from I1.hok dd _ ea)
  obtain ⟨od, ho2, hl⟩ := lookIn_ns hns
  obtain ⟨u, hu, ru⟩ := RelO.some_of (v := y) (o := mA nm) (by rw [← l]; exact hr nm)
  have J : InstAt s1.heap a oe C (some od) := ⟨ho, hz.1, by unfold notCls; rw [hd] <;> rfl, by rw [hz.2]; exact ho2⟩
  exact PySem.HandSPX.exc_get I1.kIn J T.ga T.gg T.exC (findObj_own T.hdC hno rfl (by rw [hl, hu])) (handed_of ru) ⟨y, H1, I1.tok _, ru, q1⟩
end
end PyD
end

section
set_option Elab.async false
set_option linter.all false
set_option maxRecDepth 100000
/-! the Hook that also looks at classes of errors -/
namespace PyD
variable [Om]
open PySem L2 PySem.Spec PyProof.Rows PySem.W
abbrev AlE : Type := (He.AlD × Bool) × List IW
def frE (g : Addr → Option Obj) (n : Nat) : Frag := He.frG g (He.asD g n ++ [cStatics, sysModules])
def obsEG (n : Nat) (fa : List He.Fa) (fn : List He.DefD) (fx : Frag → Bool) (P : Program) (ins : List IniD) (g : Addr → Option Obj) : AlE :=
  ((He.obsD fa fn (frE g n), fx (frE g n) && ins.all fun d => iniB P (frE g n) d), ins.map fun d => iniW (frE g n) d.x)
structure SaysE (fa : List He.Fa) (fn : List He.DefD) (fx : Frag → Bool) (P : Program) (ins : List IniD) (K : Frag) : Prop where
  p : SaysP fa fn fx K
  i : ∀ d ∈ ins, iniB P K d = true ∧ iniW K d.x = d.val
def hookE (n : Nat) (fa : List He.Fa) (fn : List He.DefD) (fx : Frag → Bool) (P : Program) (ins : List IniD) : PySem.W.Hook where
  α := AlE
  obs := fun s => obsEG n fa fn fx P ins s.heap.get?
  val := fun _ => ((He.valD fn, true), ins.map IniD.val)
  says := fun _ h => ∃ K : PySem.W.Frag, K.In h ∧ SaysE fa fn fx P ins K
  of := fun _ s e => by
    refine ⟨frE s.heap.get? n, He.frG_in, ⟨congrArg (fun z : AlE => z.1.1) e, ?_⟩, fun d hd => ⟨?_, ?_⟩⟩
    · have z := congrArg (fun z : AlE => z.1.2) e
      exact (Bool.and_eq_true_iff.mp (show (fx (frE s.heap.get? n) && ins.all fun d => iniB P (frE s.heap.get? n) d) = true from z)).1
    · have z := congrArg (fun z : AlE => z.1.2) e
      exact List.all_eq_true.mp (Bool.and_eq_true_iff.mp (show (fx (frE s.heap.get? n) && ins.all fun d => iniB P (frE s.heap.get? n) d) = true from z)).2 d hd
    · have z : ins.map (fun d => iniW (frE s.heap.get? n) d.x) = ins.map IniD.val := congrArg (fun z : AlE => z.2) e
      exact List.map_inj_left.mp z d hd
  keeps := fun _ _ _ ⟨K, hK, c⟩ k => ⟨K, PySem.W.Frag.In.keeps hK k, c⟩
end PyD
end

section
set_option Elab.async false
set_option linter.all false
set_option maxRecDepth 100000
/-! the rules with the classes' facts by name -/
namespace PyD
variable [Om]
open PySem L2 PySem.Spec PyProof.Rows PySem.W
/-- a class without own __init__ -/
structure ExcZ (K : Frag) (mg : Str → Option Value) (x : Str) : Prop where
  q : excIn K (He.ga K x) He.veBase "ValueError.__new__" = true
  gC : mg x = some (.ref (He.ga K x))
  gK : nsIn K mainGlobals x = some (some (.ref (He.ga K x)))
  kC : keepIn K (.ref (He.ga K x)) = true
  sub : subIn K (.ref (He.ga K x)) (.type "BaseException") = some true
  ty : typeIn K (.ref (He.ga K x)) = some (.type "type")
section
variable {X : Cx} {n : Nat} {pr : Nat → Bool}
end
theorem excZ_of {K : Frag} {h : Heap} {mg : Str → Option Value} {x : Str} (X : K.In h) (G : h.Ns mainGlobals mg) (c1 : (He.Fa.glo x).ok K = true) (c2 : (He.Fa.exc x).ok K = true) : ExcZ K mg x := by
  have z : excIn K (He.ga K x) He.veBase "ValueError.__new__" = true ∧ keepIn K (.ref (He.ga K x)) = true ∧ subIn K (.ref (He.ga K x)) (.type "BaseException") = some true ∧ typeIn K (.ref (He.ga K x)) = some (.type "type") := by
    simpa [He.Fa.ok] using c2
  exact ⟨z.1, He.glo_ok X G c1, He.eqO_ok c1, z.2.1, z.2.2.1, z.2.2.2⟩
theorem ga_of {K : Frag} {c : Str} {C : Addr} (h : nsIn K mainGlobals c = some (some (.ref C))) : He.ga K c = C := by
  unfold He.ga
  rw [h]
section
variable {X : Cx} {n : Nat} {a C : Addr} {oe : Obj} {pn : List (Addr × Obj)} {kn : Str → Prop} {k : Nat} {ps : List Str} {φ : Str → Addr → Option Addr → List O → FR} {c : Str} {d : Option Addr}
end
end PyD
end

section
set_option Elab.async false
set_option linter.all false
set_option maxRecDepth 100000
set_option maxHeartbeats 4000000
/-! own exceptions as values: the classes' facts by name -/
namespace PyD
variable [Om]
open PySem L2 PySem.Spec PyProof.Rows PySem.W PySem.Calls
structure ExcVI (P : Program) (K : Frag) (mg : Str → Option Value) (x : Str) (fs : List (Str × Str)) : Prop where
  gC : mg x = some (.ref (He.ga K x))
  gK : nsIn K mainGlobals x = some (some (.ref (He.ga K x)))
  ex : ∃ (fI : Addr) (qual slf txt : Str), ExcVF P K (He.ga K x) fI qual slf txt fs ∧ ExcR K (He.ga K x) fI
section
variable {X : Cx} {n : Nat} {x : Str} {fs : List (Str × Str)} {k : Nat}
theorem snd_newI {e : Expr} {es : List Expr} {p pos : Pos} {f : Env → R (List O)} (E : ExcVI X.prog X.K X.mg x fs) (hr : Room (k + 1) X.A) (hg : Gl X x) (h : SndA 0 X (e :: es) f) (pl : Plain X (e :: es)) (hl : (e :: es).length = fs.length := by rfl) (h0 : fs ≠ [] := by decide) (h9 : fs.length ≤ 9 := by decide) (hnf : (fs.map (·.1)).Nodup := by decide)
    (hdb : (x == ("__debug__" : Str)) = false := by decide) (hpl : (backTo pos (starEach es X.env)).any (·.1) = false := by rfl) : SndE n X (.Call (.Name x p) (e :: es) [] pos) (eNewV x.cps.toList (fs.map (·.1)) f) := by
  obtain ⟨fI, qual, slf, txt, h1, h2⟩ := E.ex
  exact snd_newV h1 h2 E.gK E.gC hr h0 h9 hnf hg h pl hl hdb hpl
theorem snd_newKI {kws : List Keyword} {p pos : Pos} {f : Env → R (List O)} (E : ExcVI X.prog X.K X.mg x fs) (hr : Room (k + 1) X.A) (hg : Gl X x) (h : SndA 0 X (kws.map (·.value)) f)
    (all : (backToKw pos (keywordEach kws X.env)).all (·.1.isSome) = true) (names : (backToKw pos (keywordEach kws X.env)).filterMap (·.1) = fs.map (·.2)) (plain : ((backTo pos (starEach [] X.env)).any (·.1) || (backToKw pos (keywordEach kws X.env)).any (·.1.isNone)) = false)
    (hl : kws.length = fs.length := by rfl) (h0 : fs ≠ [] := by decide) (h9 : fs.length ≤ 9 := by decide) (hnf : (fs.map (·.1)).Nodup := by decide) (hdb : (x == ("__debug__" : Str)) = false := by decide) : SndE n X (.Call (.Name x p) [] kws pos) (eNewV x.cps.toList (fs.map (·.1)) f) := by
  obtain ⟨fI, qual, slf, txt, h1, h2⟩ := E.ex
  exact snd_newK h1 h2 E.gK E.gC hr h0 h9 hnf hg h hl all names plain hdb
theorem snd_newZI {e : Expr} {p pos : Pos} {f : Env → R O} (E : ExcZ X.K X.mg x) (hg : Gl X x) (h : SndE 0 X e f) (hs : starEach [e] X.env = (false, eval e X.env) :: starEach [] X.env := by rfl) (hdb : (x == ("__debug__" : Str)) = false := by decide) :
    SndE n X (.Call (.Name x p) [e] [] pos) (eNewZ x.cps.toList f) := snd_newZ E.q E.gC E.gK E.kC hg h hs hdb
end
/-- what is seen from the text alone -/
structure IniTV (P : Program) (d : IniD) (fs : List (Str × Str)) : Prop where
  body : ∃ (n1 : Nat) (q0 q1 q2 q3 q4 q5 : Pos) (ss : List Stmt), d.body = supV d.txt n1 q0 q1 q2 q3 q4 q5 :: ss ∧ AsgV d.slf fs ss ∧ ∀ (L fI cda cc : Addr), EvI d.txt n1 q0 q1 q2 q3 q4 (ksEnv d.qual d.scope L fI (.ref cda) cc)
  head : ∃ ar : Arg, (d.params.posonlyargs ++ d.params.args).head? = some ar ∧ ar.arg = d.slf
  hks : d.scope.names.lookup ("super" : Str) = some .globalImplicit
  hkc : d.scope.names.lookup ("__class__" : Str) = some .free
  hka : d.scope.names.lookup d.slf = some .local
  hki : ∀ x ∈ fs, d.scope.names.lookup x.2 = some .local
  hk : d.scope.kind = .function
  cel : ∀ x ∈ d.scope.names, x.2 ≠ .cell
  co : d.scope.isCoroutine = false
  gen : d.scope.isGenerator = false
  binds : ∀ (name : Str) (kV doc pm ct : Value) (an : Option Addr) (cda cc : Addr) (s : Shared) (a : Value) (us : List Value), us.length = fs.length → BindsTo s (ksFn name d.qual d.params d.body d.scope .none kV doc pm an (.ref cda) ct cc) ⟨a :: us, []⟩ ((d.slf, a) :: (fs.map (·.2)).zip us)
  bindsK : ∀ (name : Str) (kV doc pm ct : Value) (an : Option Addr) (cda cc : Addr) (s : Shared) (a : Value) (us : List Value), us.length = fs.length → BindsTo s (ksFn name d.qual d.params d.body d.scope .none kV doc pm an (.ref cda) ct cc) ⟨[a], (fs.map (·.2)).zip us⟩ ((d.slf, a) :: (fs.map (·.2)).zip us)
  ne : d.slf ∉ fs.map (·.2)
  nd : (fs.map (·.2)).Nodup
  ds : (d.slf == ("__debug__" : Str)) = false
  di : ∀ x ∈ fs, (x.2 == ("__debug__" : Str)) = false
  top : (P.main.scope.names.lookup ("super" : Str)).isSome = false
theorem iniV_ok {P : Program} {K : Frag} {d : IniD} {fs : List (Str × Str)} (t : IniTV P d fs) (e : iniW K d.x = d.val) (h : iniB P K d = true) (hn : ∀ x ∈ fs, findIn K (.ref (He.ga K d.x)) x.1 = some none) :
    ExcVF P K (He.ga K d.x) (He.ma K (He.ga K d.x) "__init__") d.qual d.slf d.txt fs ∧ ExcR K (He.ga K d.x) (He.ma K (He.ga K d.x) "__init__") := by
  simp only [iniB, Bool.and_eq_true] at h
  obtain ⟨h1, h2, h3, h4, h5⟩ := h
  generalize hC : He.ga K d.x = C at *
  generalize hfI : He.ma K C "__init__" = fI at *
  simp only [restB, Bool.and_eq_true, decide_eq_true_iff] at h3
  obtain ⟨r1, r2, r3, r4, r5, r6, r7, r8, r9, r10, r11, r12⟩ := h3
  refine ⟨⟨?_, t.ne, t.nd, t.ds, t.di, r1, r2, r3, r4, r5, t.top, r6, hn⟩, ⟨r8, r9, r10, r11, r12⟩⟩
  obtain ⟨nm, q, N, bs, bm, sn, sub, ab, col, dd, k0, k1, k2, k3, k5, hCl, hbm⟩ := clsB_ok h1
  obtain ⟨n1, q0, q1, q2, q3, q4, q5, ss, hb, hss, hev⟩ := t.body
  obtain ⟨ar, har, ha⟩ := t.head
  unfold iniW at e
  rw [hC, hfI] at e
  unfold funB at h2
  split at h2
  · rename_i oc od fd osl hl
    rw [hl] at e
    split at h2
    · rename_i cn cc cda hcl hcode
      simp only [Bool.and_eq_true] at h2
      obtain ⟨g1, g2, g3, g4'⟩ := h2
      have g4 : fd.defaults = Value.none := of_decide_eq_true g4'
      clear g4'
      obtain ⟨m1, m2, m3, m4, m5, m6, m7, m8, m9, m10, m11, m12, m13, m14, m15⟩ := fd
      dsimp only at hcl hcode g3 g4
      subst hcl hcode g4
      have e2 : (some (m2, m3, m4, m5, m6, [cn], m15) : IW) = (some (d.qual, d.params, FuncBody.stmts d.body, d.scope, mainGlobals, ["__class__"], builtinsNs) : IW) := e
      simp only [Option.some.injEq, Prod.mk.injEq, List.cons.injEq, and_true] at e2
      obtain ⟨e3, e4, e5, e6, e7, e8, e9⟩ := e2
      subst e3 e4 e5 e6 e7 e8 e9
      unfold cellB at g1
      split at g1
      · rename_i cl cld C' csl hcc
        have := of_decide_eq_true g1
        subst this
        unfold fileB at g2
        split at g2
        · rename_i ccl cdd vs ccs hcda
          split at g2
          · rename_i file tf hvs
            rw [hb] at hl
            refine ⟨nm, q, N, bs, bm, sn, sub, ab, col, dd, k0, k1, k2, k3, k5, oc, ccl, cl, od, cdd, cld, osl, ccs, csl, cda, cc, vs, file, tf, m1, d.params, d.scope, .none, m9, m10, m11, m14, m12, n1, q0, q1, q2, q3, q4, q5, ss, ar,
              hCl, hbm, hl, hss, har, ha, hcda, hvs, g2, hcc, g3, t.hks, t.hkc, t.hka, t.hki, t.hk, t.cel, t.co, t.gen, fun L => hev L fI cda cc, fun s a us hu => ?_, fun s a us hu => ?_⟩
            · have z := t.binds m1 m9 m10 m11 m14 m12 cda cc s a us hu
              rw [hb] at z
              exact z
            · have z := t.bindsK m1 m9 m10 m11 m14 m12 cda cc s a us hu
              rw [hb] at z
              exact z
          · cases g2
        · cases g2
      · cases g1
    · cases h2
  · cases h2
theorem excVI_of {P : Program} {K : Frag} {h : Heap} {mg : Str → Option Value} {d : IniD} {fs : List (Str × Str)} (X : K.In h) (G : h.Ns mainGlobals mg) (c1 : (He.Fa.glo d.x).ok K = true) (t : IniTV P d fs) (e : iniB P K d = true ∧ iniW K d.x = d.val) (hn : ∀ x ∈ fs, findIn K (.ref (He.ga K d.x)) x.1 = some none) : ExcVI P K mg d.x fs := by
  have h5 : nsIn K mainGlobals d.x = some (some (.ref (He.ga K d.x))) := by
    have z := e.1
    simp only [iniB, Bool.and_eq_true] at z
    exact of_decide_eq_true z.2.2.2.2
  obtain ⟨h1, h2⟩ := iniV_ok t e.2 e.1 hn
  exact ⟨He.glo_ok X G c1, h5, _, _, _, _, h1, h2⟩
end PyD
end

section
set_option Elab.async false
set_option linter.all false
set_option maxRecDepth 100000
namespace PyD
variable [Om]
open PySem L2 PySem.Spec PyProof.Rows
/-! ### repr -/
section
variable {n : Nat} {X : Cx} {pins : List (Addr × Obj)} {σ : L2.St} {H : Hp} {s : Shared}
end
end PyD
end

section
set_option Elab.async false
set_option linter.all false
set_option maxRecDepth 100000
namespace PyD
variable [Om]
open PySem L2
/-! ### what holds behind a reading -/
abbrev WXK := Str → List D → Env → Prop
abbrev WXF := Str → List D → List O → Prop
def wpR {α : Type} (r : R α) (Q : α → Env → Prop) (X : WXK) : Prop := match r with
  | .ok a e => Q a e
  | .exc c ds e => X c ds e
  | .bad => False
def wpF (r : FR) (Q : O → List O → Prop) (X : WXF) : Prop := match r with
  | .ret o outs => Q o outs
  | .exc c ds outs => X c ds outs
  | .bad => False
def okO {α : Type} (r : Option α) (Q : α → Prop) : Prop := match r with
  | some a => Q a
  | none => False
def okSl (r : Option (Option O)) (Q : Prop) : Prop := match r with
  | some (some _) => Q
  | _ => False
def noX : WXK := fun _ _ _ => False
def noF : WXF := fun _ _ _ => False
theorem wpR_ok {α : Type} {a : α} {e : Env} {Q : α → Env → Prop} {X : WXK} : wpR (.ok a e) Q X ↔ Q a e := Iff.rfl
theorem wpR_exc {α : Type} {c : Str} {ds : List D} {e : Env} {Q : α → Env → Prop} {X : WXK} : wpR (.exc c ds e) Q X ↔ X c ds e := Iff.rfl
theorem wpF_ret {o : O} {outs : List O} {Q : O → List O → Prop} {X : WXF} : wpF (.ret o outs) Q X ↔ Q o outs := Iff.rfl
theorem wpF_exc {c : Str} {ds : List D} {outs : List O} {Q : O → List O → Prop} {X : WXF} : wpF (.exc c ds outs) Q X ↔ X c ds outs := Iff.rfl
theorem okO_some {α : Type} {a : α} {Q : α → Prop} : okO (some a) Q ↔ Q a := Iff.rfl
def kMap {α β : Type} (f : α → β) (Q : β → Prop) : α → Prop := fun a => Q (f a)
def kBind {α β : Type} (f : α → Option β) (Q : β → Prop) : α → Prop := fun a => okO (f a) Q
theorem okO_map {α β : Type} {r : Option α} {f : α → β} {Q : β → Prop} : okO (r.map f) Q ↔ okO r (kMap f Q) := by cases r <;> exact Iff.rfl
theorem okO_bind {α β : Type} {r : Option α} {f : α → Option β} {Q : β → Prop} : okO (r.bind f) Q ↔ okO r (kBind f Q) := by cases r <;> exact Iff.rfl
def kBody {α : Type} (b : Env → R α) (Q : α → Env → Prop) (X : WXK) : Env → Prop := fun e => wpR (b e) Q X
def kItems (Q : List O → Env → Prop) (e : Env) : List O → Prop := fun os => Q os e
theorem okSl_some {o : O} {Q : Prop} : okSl (some (some o)) Q ↔ Q := Iff.rfl
theorem wpR_mono {α : Type} {r : R α} {Q Q' : α → Env → Prop} {X X' : WXK} (h : wpR r Q X) (q : ∀ a e, Q a e → Q' a e) (x : ∀ c ds e, X c ds e → X' c ds e) : wpR r Q' X' := by
  cases r with
  | ok a e => exact q _ _ h
  | exc c ds e => exact x _ _ _ h
  | bad => exact h
theorem wpF_mono {r : FR} {Q Q' : O → List O → Prop} {X X' : WXF} (h : wpF r Q X) (q : ∀ a e, Q a e → Q' a e) (x : ∀ c ds e, X c ds e → X' c ds e) : wpF r Q' X' := by
  cases r with
  | ret a e => exact q _ _ h
  | exc c ds e => exact x _ _ _ h
  | bad => exact h
/-- a call that ends well -/
theorem wpF_use {r : FR} {Q Q' : O → List O → Prop} {X' : WXF} (h : wpF r Q noF) (q : ∀ a e, Q a e → Q' a e) : wpF r Q' X' := wpF_mono h q fun _ _ _ z => z.elim
theorem wpF_eq {r : FR} {o : O} {outs : List O} (h : wpF r (fun a b => a = o ∧ b = outs) noF) : r = .ret o outs := by
  cases r with
  | ret a e => obtain ⟨rfl, rfl⟩ := h; rfl
  | exc c ds e => exact h.elim
  | bad => exact h.elim
theorem wpF_ex {r : FR} {Q : O → List O → Prop} (h : wpF r Q noF) : ∃ o outs, r = .ret o outs ∧ Q o outs := by
  cases r with
  | ret a e => exact ⟨a, e, rfl, h⟩
  | exc c ds e => exact h.elim
  | bad => exact h.elim
/-! operands -/
def kOV (i : Nat) (Q : List Opd → Env → Prop) : List Opd → Env → Prop := fun ops e => Q (.v i :: ops) e
def kOE2 (o : O) (Q : List Opd → Env → Prop) : List Opd → Env → Prop := fun ops e => Q (.t o :: ops) e
def kOE (r : Env → R (List Opd)) (Q : List Opd → Env → Prop) (X : WXK) : O → Env → Prop := fun o e => wpR (r e) (kOE2 o Q) X
def kA2 (Q : O → Env → Prop) (e : Env) : At → Prop := fun a => Q (.fz a.d) e
def kA1 (sem : List D → Option At) (Q : O → Env → Prop) (e : Env) : List D → Prop := fun ds => okO (sem ds) (kA2 Q e)
def kA (sem : List D → Option At) (Q : O → Env → Prop) : List Opd → Env → Prop := fun ops e => okO (resA e ops) (kA1 sem Q e)
def kB2 (Q : O → Env → Prop) (e : Env) : O → Prop := fun o => Q o e
def kB1 (sem : List D → Option O) (Q : O → Env → Prop) : List D × Env → Prop := fun p => okO (sem p.1) (kB2 Q p.2)
def kB (sem : List D → Option O) (Q : O → Env → Prop) : List Opd → Env → Prop := fun ops e => okO (resB e ops) (kB1 sem Q)
section
variable {α : Type} {env e : Env} {X : WXK}
theorem wp_oNil {Q} : wpR (oNil env) Q X ↔ Q [] env := Iff.rfl
theorem wp_oVar {i r} {Q} : wpR (oVar i r env) Q X ↔ okSl env[i]? (wpR (r env) (kOV i Q) X) := by
  unfold oVar
  cases h : env[i]? with
  | none => exact Iff.rfl
  | some x => cases x with
    | none => exact Iff.rfl
    | some o => cases h2 : r env <;> simp [h2, wpR, okSl, kOV]
theorem wp_oExp {f r} {Q} : wpR (oExp f r env) Q X ↔ wpR (f env) (kOE r Q X) X := by
  unfold oExp
  cases h : f env with
  | ok o e1 => cases h2 : r e1 <;> simp [h2, wpR, kOE, kOE2]
  | exc c ds e => exact Iff.rfl
  | bad => exact Iff.rfl
theorem wp_eA {sem f} {Q} : wpR (eA sem f env) Q X ↔ wpR (f env) (kA sem Q) X := by
  unfold eA
  cases h : f env with
  | ok ops e =>
    cases h1 : resA e ops with
    | none => simp [h1, wpR, kA, okO]
    | some ds => cases h2 : sem ds <;> simp [h1, h2, wpR, kA, kA1, kA2, okO]
  | exc c ds e => exact Iff.rfl
  | bad => exact Iff.rfl
theorem wp_eB {sem f} {Q} : wpR (eB sem f env) Q X ↔ wpR (f env) (kB sem Q) X := by
  unfold eB
  cases h : f env with
  | ok ops e =>
    cases h1 : resB e ops with
    | none => simp [h1, wpR, kB, okO]
    | some ds => cases h2 : sem ds.1 <;> simp [h1, h2, wpR, kB, kB1, kB2, okO]
  | exc c ds e => exact Iff.rfl
  | bad => exact Iff.rfl
theorem wp_eC {a : At} {Q} : wpR (eC a env) Q X ↔ Q (.fz a.d) env := Iff.rfl
/-! a name as a value: frozen -/
def kVar (i : Nat) (env : Env) (Q : O → Env → Prop) : Option (Option O) → Prop
  | some (some (.fz d)) => Q (.fz d) env
  | some (some (.lst os)) => Q (.fz (.lst (O.erases os))) (env.set i (some (.fz (.lst (O.erases os)))))
  | some (some (.tup os)) => Q (.fz (.tup (O.erases os))) (env.set i (some (.fz (.tup (O.erases os)))))
  | some (some (.dic os)) => Q (.fz (.dic (O.eraseK os))) (env.set i (some (.fz (.dic (O.eraseK os)))))
  | _ => False
theorem wp_eVar {i} {Q} : wpR (eVar i env) Q X ↔ kVar i env Q env[i]? := by
  unfold eVar
  cases h : env[i]? with
  | none => exact Iff.rfl
  | some x => cases x with
    | none => exact Iff.rfl
    | some o => cases o <;> simp [wpR, kVar, O.erase]
def kMove (i : Nat) (env : Env) (Q : O → Env → Prop) : Option (Option O) → Prop
  | some (some o) => Q o (env.set i none)
  | _ => False
theorem wp_eMove {i} {Q} : wpR (eMove i env) Q X ↔ kMove i env Q env[i]? := by
  unfold eMove
  cases h : env[i]? with
  | none => exact Iff.rfl
  | some x => cases x with
    | none => exact Iff.rfl
    | some o => exact Iff.rfl
/-! displays -/
def kL (Q : O → Env → Prop) : List O → Env → Prop := fun os e => os.length ≤ 1000000 ∧ Q (.lst os) e
def kT (Q : O → Env → Prop) : List O → Env → Prop := fun os e => os.length ≤ 1000000 ∧ Q (.tup os) e
def kAC2 (o : O) (Q : List O → Env → Prop) : List O → Env → Prop := fun os e => Q (o :: os) e
def kAC (r : Env → R (List O)) (Q : List O → Env → Prop) (X : WXK) : O → Env → Prop := fun o e => wpR (r e) (kAC2 o Q) X
theorem wp_eLst {f} {Q} : wpR (eLst f env) Q X ↔ wpR (f env) (kL Q) X := by
  unfold eLst
  cases h : f env with
  | ok os e => by_cases hl : os.length ≤ 1000000 <;> simp [hl, wpR, kL]
  | exc c ds e => exact Iff.rfl
  | bad => exact Iff.rfl
theorem wp_eTup {f} {Q} : wpR (eTup f env) Q X ↔ wpR (f env) (kT Q) X := by
  unfold eTup
  cases h : f env with
  | ok os e => by_cases hl : os.length ≤ 1000000 <;> simp [hl, wpR, kT]
  | exc c ds e => exact Iff.rfl
  | bad => exact Iff.rfl
theorem wp_aNil {Q} : wpR (aNil env) Q X ↔ Q [] env := Iff.rfl
theorem wp_aCons {f r} {Q} : wpR (aCons f r env) Q X ↔ wpR (f env) (kAC r Q X) X := by
  unfold aCons
  cases h : f env with
  | ok o e1 => cases h2 : r e1 <;> simp [h2, wpR, kAC, kAC2]
  | exc c ds e => exact Iff.rfl
  | bad => exact Iff.rfl
/-! methods of texts -/
def kM1 (g : List Nat → List D → Option O) (l : List Nat) (Q : O → Env → Prop) (e : Env) : List D → Prop := fun ds => okO (g l ds) (kB2 Q e)
def kM2 (g : List Nat → List D → Option O) (l : List Nat) (Q : O → Env → Prop) : List Opd → Env → Prop := fun ops e => okO (resA e ops) (kM1 g l Q e)
def kM (g : List Nat → List D → Option O) (r : Env → R (List Opd)) (Q : O → Env → Prop) (X : WXK) : O → Env → Prop
  | .fz (.str l), e => wpR (r e) (kM2 g l Q) X
  | _, _ => False
theorem wp_eM {g f r} {Q} : wpR (eM g f r env) Q X ↔ wpR (f env) (kM g r Q X) X := by
  unfold eM
  cases h : f env with
  | ok o e1 =>
    cases o with
    | fz d => cases d with
      | str l =>
        cases h1 : r e1 with
        | ok ops e => cases h2 : resA e ops with
          | none => simp [h1, h2, wpR, kM, kM2, okO]
          | some ds => cases h3 : g l ds <;> simp [h1, h2, h3, wpR, kM, kM2, kM1, kB2, okO]
        | exc c ds e => simp [h1, wpR, kM]
        | bad => simp [h1, wpR, kM]
      | _ => exact Iff.rfl
    | _ => exact Iff.rfl
  | exc c ds e => exact Iff.rfl
  | bad => exact Iff.rfl
/-! and, or, not, if -/
def kAnd (g : Env → R O) (Q : O → Env → Prop) (X : WXK) : O → Env → Prop
  | .fz (.bl true), e => wpR (g e) Q X
  | .fz (.bl false), e => Q (.fz (.bl false)) e
  | _, _ => False
def kOr (g : Env → R O) (Q : O → Env → Prop) (X : WXK) : O → Env → Prop
  | .fz (.bl true), e => Q (.fz (.bl true)) e
  | .fz (.bl false), e => wpR (g e) Q X
  | _, _ => False
def kNot (Q : O → Env → Prop) : O → Env → Prop
  | .fz (.bl b), e => Q (.fz (.bl (!b))) e
  | _, _ => False
theorem wp_eAnd {f g} {Q} : wpR (eAnd f g env) Q X ↔ wpR (f env) (kAnd g Q X) X := by
  unfold eAnd
  cases h : f env with
  | ok o e =>
    cases o with
    | fz d => cases d with
      | bl b => cases b <;> simp [wpR, kAnd]
      | _ => exact Iff.rfl
    | _ => exact Iff.rfl
  | exc c ds e => exact Iff.rfl
  | bad => exact Iff.rfl
theorem wp_eOr {f g} {Q} : wpR (eOr f g env) Q X ↔ wpR (f env) (kOr g Q X) X := by
  unfold eOr
  cases h : f env with
  | ok o e =>
    cases o with
    | fz d => cases d with
      | bl b => cases b <;> simp [wpR, kOr]
      | _ => exact Iff.rfl
    | _ => exact Iff.rfl
  | exc c ds e => exact Iff.rfl
  | bad => exact Iff.rfl
theorem wp_eNot {f} {Q} : wpR (eNot f env) Q X ↔ wpR (f env) (kNot Q) X := by
  unfold eNot
  cases h : f env with
  | ok o e =>
    cases o with
    | fz d => cases d with
      | bl b => cases b <;> simp [wpR, kNot]
      | _ => exact Iff.rfl
    | _ => exact Iff.rfl
  | exc c ds e => exact Iff.rfl
  | bad => exact Iff.rfl
def kIf {α : Type} (f g : Env → R α) (Q : α → Env → Prop) (X : WXK) : Bool → Env → Prop
  | true, e => wpR (f e) Q X
  | false, e => wpR (g e) Q X
theorem wp_eIf {c f g} {Q} : wpR (eIf c f g env) Q X ↔ wpR (c env) (kIf f g Q X) X := by
  unfold eIf
  cases h : c env with
  | ok b e => cases b <;> simp [wpR, kIf]
  | exc c ds e => exact Iff.rfl
  | bad => exact Iff.rfl
def kBool (Q : Bool → Env → Prop) : O → Env → Prop
  | .fz (.bl b), e => Q b e
  | _, _ => False
theorem wp_tBool {f} {Q} : wpR (tBool f env) Q X ↔ wpR (f env) (kBool Q) X := by
  unfold tBool
  cases h : f env with
  | ok o e =>
    cases o with
    | fz d => cases d with
      | bl b => simp [wpR, kBool]
      | _ => exact Iff.rfl
    | _ => exact Iff.rfl
  | exc c ds e => exact Iff.rfl
  | bad => exact Iff.rfl
def kTAnd (g : Env → R Bool) (Q : Bool → Env → Prop) (X : WXK) : Bool → Env → Prop
  | true, e => wpR (g e) Q X
  | false, e => Q false e
def kTOr (g : Env → R Bool) (Q : Bool → Env → Prop) (X : WXK) : Bool → Env → Prop
  | true, e => Q true e
  | false, e => wpR (g e) Q X
def kTNot (Q : Bool → Env → Prop) : Bool → Env → Prop := fun b e => Q (!b) e
theorem wp_tAnd {f g} {Q} : wpR (tAnd' f g env) Q X ↔ wpR (f env) (kTAnd g Q X) X := by
  unfold tAnd'
  cases h : f env with
  | ok b e => cases b <;> simp [wpR, kTAnd]
  | exc c ds e => exact Iff.rfl
  | bad => exact Iff.rfl
theorem wp_tOr {f g} {Q} : wpR (tOr' f g env) Q X ↔ wpR (f env) (kTOr g Q X) X := by
  unfold tOr'
  cases h : f env with
  | ok b e => cases b <;> simp [wpR, kTOr]
  | exc c ds e => exact Iff.rfl
  | bad => exact Iff.rfl
theorem wp_tNot {f} {Q} : wpR (tNot' f env) Q X ↔ wpR (f env) (kTNot Q) X := by
  unfold tNot'
  cases h : f env with
  | ok b e => cases b <;> simp [wpR, kTNot]
  | exc c ds e => exact Iff.rfl
  | bad => exact Iff.rfl
theorem wp_tTrue {Q} : wpR (tTrue env) Q X ↔ Q true env := Iff.rfl
/-! iterables -/
def kVal (g : D → Option (List O)) (Q : List O → Env → Prop) : O → Env → Prop := fun o e => okO (g o.erase) (kItems Q e)
theorem wp_iVal {f} {Q} : wpR (iVal f env) Q X ↔ wpR (f env) (kVal itemsOf Q) X := by
  unfold iVal
  cases h : f env with
  | ok o e => cases h2 : itemsOf o.erase <;> simp [h2, wpR, kVal, kItems, okO]
  | exc c ds e => exact Iff.rfl
  | bad => exact Iff.rfl
theorem wp_iFz {g f} {Q} : wpR (iFz g f env) Q X ↔ wpR (f env) (kVal g Q) X := by
  unfold iFz
  cases h : f env with
  | ok o e => cases h2 : g o.erase <;> simp [h2, wpR, kVal, kItems, okO]
  | exc c ds e => exact Iff.rfl
  | bad => exact Iff.rfl
def kRd1 (g : List D → Option (List O)) (Q : List O → Env → Prop) (e : Env) : List D → Prop := fun ds => okO (g ds) (kItems Q e)
def kRd (g : List D → Option (List O)) (Q : List O → Env → Prop) : List Opd → Env → Prop := fun ops e => okO (resA e ops) (kRd1 g Q e)
theorem wp_iRd {g f} {Q} : wpR (iRd g f env) Q X ↔ wpR (f env) (kRd g Q) X := by
  unfold iRd
  cases h : f env with
  | ok ops e =>
    cases h2 : resA e ops with
    | none => simp [h2, wpR, kRd, okO]
    | some ds => cases h3 : g ds <;> simp [h2, h3, wpR, kRd, kRd1, kItems, okO]
  | exc c ds e => exact Iff.rfl
  | bad => exact Iff.rfl
/-! calls -/
def kRet (ops : List Opd) (e : Env) (Q : O → Env → Prop) : O → List O → Prop := fun o outs => Q o (putOps ops outs e)
def kRetX (ops : List Opd) (e : Env) (X : WXK) : WXF := fun c ds outs => X c ds (putOps ops outs e)
def kCall1 (φ : List O → FR) (ops : List Opd) (Q : O → Env → Prop) (X : WXK) : List O × Env → Prop := fun p => wpF (φ p.1) (kRet ops p.2 Q) (kRetX ops p.2 X)
def kCall (φ : List O → FR) (Q : O → Env → Prop) (X : WXK) : List Opd → Env → Prop := fun ops e => okO (takeOps ops e) (kCall1 φ ops Q X)
theorem wp_eCall {φ f} {Q} : wpR (eCall φ f env) Q X ↔ wpR (f env) (kCall φ Q X) X := by
  unfold eCall
  cases h : f env with
  | ok ops e =>
    cases h2 : takeOps ops e with
    | none => simp [h2, wpR, kCall, okO]
    | some p =>
      obtain ⟨os, e2⟩ := p
      cases h3 : φ os <;> simp [h2, h3, wpR, wpF, kCall, kCall1, kRet, kRetX, okO]
  | exc c ds e => exact Iff.rfl
  | bad => exact Iff.rfl
/-! statements -/
def kSeq (h : Env → R Fl) (Q : Fl → Env → Prop) (X : WXK) : Fl → Env → Prop
  | .nx, e => wpR (h e) Q X
  | .rt o, e => Q (.rt o) e
  | .bk, e => Q .bk e
  | .ct, e => Q .ct e
theorem wp_sSeq {g h} {Q} : wpR (sSeq g h env) Q X ↔ wpR (g env) (kSeq h Q X) X := by
  unfold sSeq
  cases hh : g env with
  | ok f e => cases f <;> simp [wpR, kSeq]
  | exc c ds e => exact Iff.rfl
  | bad => exact Iff.rfl
theorem wp_sIf {c} {f g : Env → R Fl} {Q} : wpR (sIf c f g env) Q X ↔ wpR (c env) (kIf f g Q X) X := by
  unfold sIf
  cases h : c env with
  | ok b e => cases b <;> simp [wpR, kIf]
  | exc c ds e => exact Iff.rfl
  | bad => exact Iff.rfl
def kRt (Q : Fl → Env → Prop) : O → Env → Prop := fun o e => Q (.rt o) e
theorem wp_sRet {f} {Q} : wpR (sRet f env) Q X ↔ wpR (f env) (kRt Q) X := by
  unfold sRet
  cases h : f env <;> exact Iff.rfl
def kEx (Q : Fl → Env → Prop) : O → Env → Prop := fun _ e => Q .nx e
theorem wp_sExpr {f} {Q} : wpR (sExpr f env) Q X ↔ wpR (f env) (kEx Q) X := by
  unfold sExpr
  cases h : f env <;> exact Iff.rfl
def kAsg (h : O → Env → Option Env) (Q : Fl → Env → Prop) : O → Env → Prop := fun o e => okO (h o e) (Q .nx)
theorem wp_sAsg {f h} {Q} : wpR (sAsg f h env) Q X ↔ wpR (f env) (kAsg h Q) X := by
  unfold sAsg
  cases hh : f env with
  | ok o e => cases h2 : h o e <;> simp [h2, wpR, kAsg, okO]
  | exc c ds e => exact Iff.rfl
  | bad => exact Iff.rfl
def kPar (js : List Nat) (Q : Fl → Env → Prop) : List O → Env → Prop := fun os e => (js.length = os.length ∧ (js.all fun j => decide (j < e.length)) = true) ∧ Q .nx (setO js os e)
theorem wp_sPar {js f} {Q} : wpR (sPar js f env) Q X ↔ wpR (f env) (kPar js Q) X := by
  unfold sPar
  cases h : f env with
  | ok os e =>
    by_cases hh : js.length = os.length ∧ (js.all fun j => decide (j < e.length)) = true
    · show wpR (if js.length = os.length ∧ (js.all fun j => decide (j < e.length)) = true then R.ok Fl.nx (setO js os e) else .bad) Q X ↔ _
      rw [if_pos hh]
      exact ⟨fun z => ⟨hh, z⟩, fun z => z.2⟩
    · show wpR (if js.length = os.length ∧ (js.all fun j => decide (j < e.length)) = true then R.ok Fl.nx (setO js os e) else .bad) Q X ↔ _
      rw [if_neg hh]
      exact ⟨fun z => z.elim, fun z => hh z.1⟩
  | exc c ds e => exact Iff.rfl
  | bad => exact Iff.rfl
theorem wp_sNil {Q} : wpR (sNil env) Q X ↔ Q .nx env := Iff.rfl
theorem wp_sPass {Q} : wpR (sPass env) Q X ↔ Q .nx env := Iff.rfl
theorem wp_sCont {Q} : wpR (sCont env) Q X ↔ Q .ct env := Iff.rfl
theorem wp_sBreak {Q} : wpR (sBreak env) Q X ↔ Q .bk env := Iff.rfl
/-! targets -/
theorem ok_gN {i o} {Q} : okO (gN i o env) Q ↔ i < env.length ∧ Q (env.set i (some o)) := by
  unfold gN
  by_cases h : i < env.length <;> simp [h, okO]
def kSet1 (i : Nat) (o : O) (e : Env) (Q : Env → Prop) : List D → Prop := fun k => okO (setAt i o k e) Q
def kSet (i : Nat) (o : O) (Q : Env → Prop) : List Opd → Env → Prop := fun ops e => okO (resA e ops) (kSet1 i o e Q)
theorem ok_gSet {i f o} {Q} : okO (gSet i f o env) Q ↔ okSl env[i]? (wpR (f env) (kSet i o Q) noX) := by
  unfold gSet
  cases h : env[i]? with
  | none => exact Iff.rfl
  | some x => cases x with
    | none => exact Iff.rfl
    | some y =>
      cases h2 : f env with
      | ok ops e => cases h3 : resA e ops <;> simp [h2, h3, wpR, okSl, kSet, kSet1, okO]
      | exc c ds e => simp [h2, wpR, okSl, okO, noX]
      | bad => simp [h2, wpR, okSl, okO]
/-! loops -/
def kFor (h : O → Env → Option Env) (b : Env → R Fl) (Q : Fl → Env → Prop) (X : WXK) : List O → Env → Prop := fun os e => wpR (sLoop h b os e) Q X
theorem wp_sFor {f h b} {Q} : wpR (sFor f h b env) Q X ↔ wpR (f env) (kFor h b Q X) X := by
  unfold sFor
  cases hh : f env with
  | ok os e => exact Iff.rfl
  | exc c ds e => exact Iff.rfl
  | bad => exact Iff.rfl
def kTurn (I : Env → Prop) (Q : Fl → Env → Prop) : Fl → Env → Prop
  | .nx, e => I e
  | .ct, e => I e
  | .bk, e => Q .nx e
  | .rt o, e => Q (.rt o) e
/-- a loop by what holds with the items still to come -/
theorem wp_loop {h : O → Env → Option Env} {b : Env → R Fl} {Q : Fl → Env → Prop} (I : List O → Env → Prop) : ∀ {os : List O} {env : Env}, I os env →
    (∀ o os e, I (o :: os) e → okO (h o e) (kBody b (kTurn (I os) Q) X)) → (∀ e, I [] e → Q .nx e) → wpR (sLoop h b os env) Q X
  | [], env, i, _, q => q env i
  | o :: os, env, i, st, q => by
    have s := st o os env i
    unfold sLoop
    revert s
    cases h o env with
    | none => exact fun s => s
    | some e1 =>
      show wpR (b e1) (kTurn (I os) Q) X → _
      simp only []
      cases hb : b e1 with
      | ok f e2 =>
        cases f with
        | nx => exact fun s => wp_loop I s st q
        | ct => exact fun s => wp_loop I s st q
        | bk => exact fun s => s
        | rt o => exact fun s => s
      | exc c ds e => exact fun s => s
      | bad => exact fun s => s
/-- .. with a counter: the items are f 0, f 1, .. -/
theorem wp_loopN {h : O → Env → Option Env} {b : Env → R Fl} {Q : Fl → Env → Prop} {os : List O} (I : Nat → Env → Prop) {env : Env} (h0 : I 0 env)
    (st : ∀ k e o, os[k]? = some o → I k e → okO (h o e) (kBody b (kTurn (I (k + 1)) Q) X)) (q : ∀ e, I os.length e → Q .nx e) : wpR (sLoop h b os env) Q X := by
  refine wp_loop (I := fun rest e => ∃ k, os.drop k = rest ∧ k ≤ os.length ∧ I k e) ⟨0, rfl, Nat.zero_le _, h0⟩ ?_ ?_
  · rintro o rest e ⟨k, hk, hl, i⟩
    have hlt : k < os.length := by
      rcases Nat.lt_or_ge k os.length with z | z
      · exact z
      · rw [List.drop_eq_nil_of_le z] at hk; cases hk
    have hg : os[k]? = some o := by
      have := congrArg (·[0]?) hk
      simpa using this
    have hr : os.drop (k + 1) = rest := by
      rw [List.drop_eq_getElem_cons hlt] at hk
      exact (List.cons.inj hk).2
    have s := st k e o hg i
    revert s
    cases h o e with
    | none => exact fun s => s
    | some e1 =>
      intro s
      show wpR (b e1) _ X
      refine wpR_mono (show wpR (b e1) (kTurn (I (k + 1)) Q) X from s) ?_ fun _ _ _ z => z
      intro f e2 z
      cases f with
      | nx => exact ⟨k + 1, hr, hlt, z⟩
      | ct => exact ⟨k + 1, hr, hlt, z⟩
      | bk => exact z
      | rt o => exact z
  · rintro e ⟨k, hk, hl, i⟩
    have : os.length ≤ k := by
      have := congrArg List.length hk
      simp at this
      omega
    have : k = os.length := by omega
    subst this
    exact q e i
/-! comprehensions -/
def kElt1 (own : Nat → Bool) (I : List O → Env → Prop) (ys : List O) : O → Env → Prop := fun y e => I (ys ++ [y]) (offE own 0 e)
def kElt (own : Nat → Bool) (el : Env → R O) (I : List O → Env → Prop) (ys : List O) : Bool → Env → Prop
  | true, e => wpR (el e) (kElt1 own I ys) noX
  | false, e => I ys (offE own 0 e)
theorem wp_comp {own : Nat → Bool} {h : O → Env → Option Env} {t : Env → R Bool} {el : Env → R O} (I : List O → List O → Env → Prop) {Q : List O × Env → Prop} : ∀ {os ys : List O} {env : Env}, I os ys env →
    (∀ o os ys e, I (o :: os) ys e → okO (h o e) (kBody t (kElt own el (I os) ys) noX)) →
    (∀ ys e, I [] ys e → Q (ys, e)) → okO (compLoop own h t el os env) fun p => Q (ys ++ p.1, p.2)
  | [], ys, env, i, _, q => by
    show Q (ys ++ [], env)
    rw [List.append_nil]
    exact q ys env i
  | o :: os, ys, env, i, st, q => by
    have s := st o os ys env i
    unfold compLoop
    revert s
    cases h o env with
    | none => exact fun s => s
    | some e1 =>
      show wpR (t e1) _ noX → _
      simp only []
      cases ht : t e1 with
      | exc c ds e => exact fun s => s.elim
      | bad => exact fun s => s.elim
      | ok b e2 =>
        intro s
        cases b with
        | false => exact wp_comp I s st q
        | true =>
          have s1 : wpR (el e2) (kElt1 own (I os) ys) noX := s
          clear s
          revert s1
          simp only []
          cases hy : el e2 with
          | exc c ds e => exact fun s => s.elim
          | bad => exact fun s => s.elim
          | ok y e3 =>
            intro s1
            show okO ((compLoop own h t el os (offE own 0 e3)).map fun p => (y :: p.1, p.2)) _
            have r := wp_comp I (show I os (ys ++ [y]) (offE own 0 e3) from s1) st q
            revert r
            cases compLoop own h t el os (offE own 0 e3) with
            | none => exact fun r => r
            | some p =>
              intro r
              show Q (ys ++ (y :: p.1), p.2)
              have r : Q ((ys ++ [y]) ++ p.1, p.2) := r
              rwa [List.append_assoc] at r
def kComp2 (own : List Nat) (Q : O → Env → Prop) (e1 : Env) : List O × Env → Prop := fun p => Q (.lst p.1) (onE (ownP own) 0 p.2 e1)
def kComp (own : List Nat) (h : O → Env → Option Env) (t : Env → R Bool) (el : Env → R O) (Q : O → Env → Prop) : List O → Env → Prop := fun os e1 =>
  os.length ≤ 1000000 ∧ okO (compLoop (ownP own) h t el os (offE (ownP own) 0 e1)) (kComp2 own Q e1)
theorem wp_eComp {own f h t el} {Q} : wpR (eComp own f h t el env) Q X ↔ wpR (f env) (kComp own h t el Q) X := by
  unfold eComp
  cases hh : f env with
  | ok os e1 =>
    by_cases hl : os.length ≤ 1000000
    · simp only [if_pos hl, wpR, kComp, hl, true_and]
      cases hc : compLoop (ownP own) h t el os (offE (ownP own) 0 e1) <;> simp [hc, okO, kComp2]
    · show wpR (if os.length ≤ 1000000 then _ else R.bad) Q X ↔ _
      rw [if_neg hl]
      exact ⟨fun z => z.elim, fun z => hl z.1⟩
  | exc c ds e => exact Iff.rfl
  | bad => exact Iff.rfl
end
/-! defs -/
def kOuts (reb : List Bool) (os : List O) (Q : O → List O → Prop) : Fl → Env → Prop
  | .nx, e => okO (outsO reb os e) (Q (.fz .non))
  | .rt o, e => okO (outsO reb os e) (Q o)
  | _, _ => False
def kOutsX (reb : List Bool) (os : List O) (X : WXF) : WXK := fun c ds e => okO (outsO reb os e) (X c ds)
theorem wp_fn {reb : List Bool} {n : Nat} {body : Env → R Fl} {os : List O} {Q : O → List O → Prop} {X : WXF} :
    wpF (fnSem reb n body os) Q X ↔ os.length = reb.length ∧ wpR (body ((entryO reb os).map some ++ List.replicate n none)) (kOuts reb os Q) (kOutsX reb os X) := by
  unfold fnSem
  by_cases h : os.length = reb.length
  · rw [if_pos h]
    simp only [h, true_and]
    cases hb : body ((entryO reb os).map some ++ List.replicate n none) with
    | bad => exact Iff.rfl
    | exc c ds e => cases h2 : outsO reb os e <;> simp [h2, wpR, wpF, kOutsX, okO]
    | ok f e => cases f <;> (try exact Iff.rfl) <;> (cases h2 : outsO reb os e <;> simp [h2, wpR, wpF, kOuts, okO])
  · rw [if_neg h]
    simp [wpF, h]
theorem kIf_dec {α : Type} {f g : Env → R α} {Q : α → Env → Prop} {X : WXK} {e : Env} {p : Prop} [Decidable p] : kIf f g Q X (decide p) e ↔ (p → wpR (f e) Q X) ∧ (¬ p → wpR (g e) Q X) := by
  by_cases h : p <;> simp [kIf, h]
theorem kIf_ndec {α : Type} {f g : Env → R α} {Q : α → Env → Prop} {X : WXK} {e : Env} {p : Prop} [Decidable p] : kIf f g Q X (!decide p) e ↔ (¬ p → wpR (f e) Q X) ∧ (p → wpR (g e) Q X) := by
  by_cases h : p <;> simp [kIf, h]
theorem kIf_beq {α : Type} {f g : Env → R α} {Q : α → Env → Prop} {β : Type} [BEq β] [LawfulBEq β] {x y : β} {X : WXK} {e : Env} : kIf f g Q X (x == y) e ↔ (x = y → wpR (f e) Q X) ∧ (¬ x = y → wpR (g e) Q X) := by
  by_cases h : x = y
  · subst h; simp [kIf]
  · have : (x == y) = false := by simpa using h
    simp [kIf, h, this]
theorem kIf_bne {α : Type} {f g : Env → R α} {Q : α → Env → Prop} {β : Type} [BEq β] [LawfulBEq β] {x y : β} {X : WXK} {e : Env} : kIf f g Q X (x != y) e ↔ (¬ x = y → wpR (f e) Q X) ∧ (x = y → wpR (g e) Q X) := by
  by_cases h : x = y
  · subst h; simp [kIf]
  · have : (x != y) = true := by simpa using h
    simp [kIf, h, this]
theorem kIf_nbeq {α : Type} {f g : Env → R α} {Q : α → Env → Prop} {β : Type} [BEq β] [LawfulBEq β] {x y : β} {X : WXK} {e : Env} : kIf f g Q X (!(x == y)) e ↔ (¬ x = y → wpR (f e) Q X) ∧ (x = y → wpR (g e) Q X) := kIf_bne
theorem kTAnd_dec {g : Env → R Bool} {Q : Bool → Env → Prop} {X : WXK} {e : Env} {p : Prop} [Decidable p] : kTAnd g Q X (decide p) e ↔ (p → wpR (g e) Q X) ∧ (¬ p → Q false e) := by
  by_cases h : p <;> simp [kTAnd, h]
theorem kTAnd_ndec {g : Env → R Bool} {Q : Bool → Env → Prop} {X : WXK} {e : Env} {p : Prop} [Decidable p] : kTAnd g Q X (!decide p) e ↔ (¬ p → wpR (g e) Q X) ∧ (p → Q false e) := by
  by_cases h : p <;> simp [kTAnd, h]
theorem kTAnd_beq {g : Env → R Bool} {Q : Bool → Env → Prop} {β : Type} [BEq β] [LawfulBEq β] {x y : β} {X : WXK} {e : Env} : kTAnd g Q X (x == y) e ↔ (x = y → wpR (g e) Q X) ∧ (¬ x = y → Q false e) := by
  by_cases h : x = y
  · subst h; simp [kTAnd]
  · have : (x == y) = false := by simpa using h
    simp [kTAnd, h, this]
theorem kTAnd_bne {g : Env → R Bool} {Q : Bool → Env → Prop} {β : Type} [BEq β] [LawfulBEq β] {x y : β} {X : WXK} {e : Env} : kTAnd g Q X (x != y) e ↔ (¬ x = y → wpR (g e) Q X) ∧ (x = y → Q false e) := by
  by_cases h : x = y
  · subst h; simp [kTAnd]
  · have : (x != y) = true := by simpa using h
    simp [kTAnd, h, this]
theorem kTAnd_nbeq {g : Env → R Bool} {Q : Bool → Env → Prop} {β : Type} [BEq β] [LawfulBEq β] {x y : β} {X : WXK} {e : Env} : kTAnd g Q X (!(x == y)) e ↔ (¬ x = y → wpR (g e) Q X) ∧ (x = y → Q false e) := kTAnd_bne
theorem kTOr_dec {g : Env → R Bool} {Q : Bool → Env → Prop} {X : WXK} {e : Env} {p : Prop} [Decidable p] : kTOr g Q X (decide p) e ↔ (p → Q true e) ∧ (¬ p → wpR (g e) Q X) := by
  by_cases h : p <;> simp [kTOr, h]
theorem kTOr_ndec {g : Env → R Bool} {Q : Bool → Env → Prop} {X : WXK} {e : Env} {p : Prop} [Decidable p] : kTOr g Q X (!decide p) e ↔ (¬ p → Q true e) ∧ (p → wpR (g e) Q X) := by
  by_cases h : p <;> simp [kTOr, h]
theorem kTOr_beq {g : Env → R Bool} {Q : Bool → Env → Prop} {β : Type} [BEq β] [LawfulBEq β] {x y : β} {X : WXK} {e : Env} : kTOr g Q X (x == y) e ↔ (x = y → Q true e) ∧ (¬ x = y → wpR (g e) Q X) := by
  by_cases h : x = y
  · subst h; simp [kTOr]
  · have : (x == y) = false := by simpa using h
    simp [kTOr, h, this]
theorem kTOr_bne {g : Env → R Bool} {Q : Bool → Env → Prop} {β : Type} [BEq β] [LawfulBEq β] {x y : β} {X : WXK} {e : Env} : kTOr g Q X (x != y) e ↔ (¬ x = y → Q true e) ∧ (x = y → wpR (g e) Q X) := by
  by_cases h : x = y
  · subst h; simp [kTOr]
  · have : (x != y) = true := by simpa using h
    simp [kTOr, h, this]
theorem kTOr_nbeq {g : Env → R Bool} {Q : Bool → Env → Prop} {β : Type} [BEq β] [LawfulBEq β] {x y : β} {X : WXK} {e : Env} : kTOr g Q X (!(x == y)) e ↔ (¬ x = y → Q true e) ∧ (x = y → wpR (g e) Q X) := kTOr_bne
theorem kAnd_dec {g : Env → R O} {Q : O → Env → Prop} {X : WXK} {e : Env} {p : Prop} [Decidable p] : kAnd g Q X (.fz (.bl (decide p))) e ↔ (p → wpR (g e) Q X) ∧ (¬ p → Q (.fz (.bl false)) e) := by
  by_cases h : p <;> simp [kAnd, h]
theorem kAnd_ndec {g : Env → R O} {Q : O → Env → Prop} {X : WXK} {e : Env} {p : Prop} [Decidable p] : kAnd g Q X (.fz (.bl (!decide p))) e ↔ (¬ p → wpR (g e) Q X) ∧ (p → Q (.fz (.bl false)) e) := by
  by_cases h : p <;> simp [kAnd, h]
theorem kAnd_beq {g : Env → R O} {Q : O → Env → Prop} {β : Type} [BEq β] [LawfulBEq β] {x y : β} {X : WXK} {e : Env} : kAnd g Q X (.fz (.bl (x == y))) e ↔ (x = y → wpR (g e) Q X) ∧ (¬ x = y → Q (.fz (.bl false)) e) := by
  by_cases h : x = y
  · subst h; simp [kAnd]
  · have : (x == y) = false := by simpa using h
    simp [kAnd, h, this]
theorem kAnd_bne {g : Env → R O} {Q : O → Env → Prop} {β : Type} [BEq β] [LawfulBEq β] {x y : β} {X : WXK} {e : Env} : kAnd g Q X (.fz (.bl (x != y))) e ↔ (¬ x = y → wpR (g e) Q X) ∧ (x = y → Q (.fz (.bl false)) e) := by
  by_cases h : x = y
  · subst h; simp [kAnd]
  · have : (x != y) = true := by simpa using h
    simp [kAnd, h, this]
theorem kAnd_nbeq {g : Env → R O} {Q : O → Env → Prop} {β : Type} [BEq β] [LawfulBEq β] {x y : β} {X : WXK} {e : Env} : kAnd g Q X (.fz (.bl (!(x == y)))) e ↔ (¬ x = y → wpR (g e) Q X) ∧ (x = y → Q (.fz (.bl false)) e) := kAnd_bne
theorem kOr_dec {g : Env → R O} {Q : O → Env → Prop} {X : WXK} {e : Env} {p : Prop} [Decidable p] : kOr g Q X (.fz (.bl (decide p))) e ↔ (p → Q (.fz (.bl true)) e) ∧ (¬ p → wpR (g e) Q X) := by
  by_cases h : p <;> simp [kOr, h]
theorem kOr_ndec {g : Env → R O} {Q : O → Env → Prop} {X : WXK} {e : Env} {p : Prop} [Decidable p] : kOr g Q X (.fz (.bl (!decide p))) e ↔ (¬ p → Q (.fz (.bl true)) e) ∧ (p → wpR (g e) Q X) := by
  by_cases h : p <;> simp [kOr, h]
theorem kOr_beq {g : Env → R O} {Q : O → Env → Prop} {β : Type} [BEq β] [LawfulBEq β] {x y : β} {X : WXK} {e : Env} : kOr g Q X (.fz (.bl (x == y))) e ↔ (x = y → Q (.fz (.bl true)) e) ∧ (¬ x = y → wpR (g e) Q X) := by
  by_cases h : x = y
  · subst h; simp [kOr]
  · have : (x == y) = false := by simpa using h
    simp [kOr, h, this]
theorem kOr_bne {g : Env → R O} {Q : O → Env → Prop} {β : Type} [BEq β] [LawfulBEq β] {x y : β} {X : WXK} {e : Env} : kOr g Q X (.fz (.bl (x != y))) e ↔ (¬ x = y → Q (.fz (.bl true)) e) ∧ (x = y → wpR (g e) Q X) := by
  by_cases h : x = y
  · subst h; simp [kOr]
  · have : (x != y) = true := by simpa using h
    simp [kOr, h, this]
theorem kOr_nbeq {g : Env → R O} {Q : O → Env → Prop} {β : Type} [BEq β] [LawfulBEq β] {x y : β} {X : WXK} {e : Env} : kOr g Q X (.fz (.bl (!(x == y)))) e ↔ (¬ x = y → Q (.fz (.bl true)) e) ∧ (x = y → wpR (g e) Q X) := kOr_bne
theorem kElt_dec {own : Nat → Bool} {el : Env → R O} {I : List O → Env → Prop} {ys : List O} {X : WXK} {e : Env} {p : Prop} [Decidable p] : kElt own el I ys (decide p) e ↔ (p → wpR (el e) (kElt1 own I ys) noX) ∧ (¬ p → I ys (offE own 0 e)) := by
  by_cases h : p <;> simp [kElt, h]
theorem kElt_ndec {own : Nat → Bool} {el : Env → R O} {I : List O → Env → Prop} {ys : List O} {X : WXK} {e : Env} {p : Prop} [Decidable p] : kElt own el I ys (!decide p) e ↔ (¬ p → wpR (el e) (kElt1 own I ys) noX) ∧ (p → I ys (offE own 0 e)) := by
  by_cases h : p <;> simp [kElt, h]
theorem kElt_beq {own : Nat → Bool} {el : Env → R O} {I : List O → Env → Prop} {ys : List O} {β : Type} [BEq β] [LawfulBEq β] {x y : β} {X : WXK} {e : Env} : kElt own el I ys (x == y) e ↔ (x = y → wpR (el e) (kElt1 own I ys) noX) ∧ (¬ x = y → I ys (offE own 0 e)) := by
  by_cases h : x = y
  · subst h; simp [kElt]
  · have : (x == y) = false := by simpa using h
    simp [kElt, h, this]
theorem kElt_bne {own : Nat → Bool} {el : Env → R O} {I : List O → Env → Prop} {ys : List O} {β : Type} [BEq β] [LawfulBEq β] {x y : β} {X : WXK} {e : Env} : kElt own el I ys (x != y) e ↔ (¬ x = y → wpR (el e) (kElt1 own I ys) noX) ∧ (x = y → I ys (offE own 0 e)) := by
  by_cases h : x = y
  · subst h; simp [kElt]
  · have : (x != y) = true := by simpa using h
    simp [kElt, h, this]
theorem kElt_nbeq {own : Nat → Bool} {el : Env → R O} {I : List O → Env → Prop} {ys : List O} {β : Type} [BEq β] [LawfulBEq β] {x y : β} {X : WXK} {e : Env} : kElt own el I ys (!(x == y)) e ↔ (¬ x = y → wpR (el e) (kElt1 own I ys) noX) ∧ (x = y → I ys (offE own 0 e)) := kElt_bne (X := X)
theorem kIf_t {α : Type} {f g : Env → R α} {Q : α → Env → Prop} {X : WXK} {e : Env} : kIf f g Q X true e ↔ wpR (f e) Q X := Iff.rfl
theorem kIf_f {α : Type} {f g : Env → R α} {Q : α → Env → Prop} {X : WXK} {e : Env} : kIf f g Q X false e ↔ wpR (g e) Q X := Iff.rfl
theorem kTAnd_t {g : Env → R Bool} {Q : Bool → Env → Prop} {X : WXK} {e : Env} : kTAnd g Q X true e ↔ wpR (g e) Q X := Iff.rfl
theorem kTAnd_f {g : Env → R Bool} {Q : Bool → Env → Prop} {X : WXK} {e : Env} : kTAnd g Q X false e ↔ Q false e := Iff.rfl
theorem kTOr_t {g : Env → R Bool} {Q : Bool → Env → Prop} {X : WXK} {e : Env} : kTOr g Q X true e ↔ Q true e := Iff.rfl
theorem kTOr_f {g : Env → R Bool} {Q : Bool → Env → Prop} {X : WXK} {e : Env} : kTOr g Q X false e ↔ wpR (g e) Q X := Iff.rfl
theorem kAnd_t {g : Env → R O} {Q : O → Env → Prop} {X : WXK} {e : Env} : kAnd g Q X (.fz (.bl true)) e ↔ wpR (g e) Q X := Iff.rfl
theorem kAnd_f {g : Env → R O} {Q : O → Env → Prop} {X : WXK} {e : Env} : kAnd g Q X (.fz (.bl false)) e ↔ Q (.fz (.bl false)) e := Iff.rfl
theorem kOr_t {g : Env → R O} {Q : O → Env → Prop} {X : WXK} {e : Env} : kOr g Q X (.fz (.bl true)) e ↔ Q (.fz (.bl true)) e := Iff.rfl
theorem kOr_f {g : Env → R O} {Q : O → Env → Prop} {X : WXK} {e : Env} : kOr g Q X (.fz (.bl false)) e ↔ wpR (g e) Q X := Iff.rfl
theorem kElt_t {own : Nat → Bool} {el : Env → R O} {I : List O → Env → Prop} {ys : List O} {e : Env} : kElt own el I ys true e ↔ wpR (el e) (kElt1 own I ys) noX := Iff.rfl
theorem kElt_f {own : Nat → Bool} {el : Env → R O} {I : List O → Env → Prop} {ys : List O} {e : Env} : kElt own el I ys false e ↔ I ys (offE own 0 e) := Iff.rfl
end PyD
end

section
set_option Elab.async false
set_option linter.all false
set_option maxRecDepth 100000
namespace PyD
variable [Om]
open PySem L2
variable {α : Type}
theorem ixN_in {n : Nat} {r : Int} (h0 : 0 ≤ r) (h1 : r < n) : ixN n r = some r.toNat := by
  unfold ixN
  rw [if_pos h0, if_pos h1]
theorem atI_in {α : Type} {l : List α} {r : Int} (h0 : 0 ≤ r) (h1 : r < l.length) : ∃ h : r.toNat < l.length, atI l r = some l[r.toNat] := by
  have h : r.toNat < l.length := by omega
  refine ⟨h, ?_⟩
  unfold atI
  rw [ixN_in h0 h1]
  exact List.getElem?_eq_getElem h
theorem ok_ixL {ds : List D} {r : Int} {Q : O → Prop} (h0 : 0 ≤ r) (h1 : r < ds.length) (q : ∀ d ∈ ds, Q (.fz d)) : okO (semIx [.lst ds, .int r]) Q := by
  obtain ⟨h, e⟩ := atI_in h0 h1
  show okO ((atI ds r).map .fz) Q
  rw [e]
  exact q _ (List.getElem_mem h)
theorem ok_ixS {l : List Nat} {r : Int} {Q : O → Prop} (h0 : 0 ≤ r) (h1 : r < l.length) (q : ∀ c ∈ l, Q (.fz (.str [c]))) : okO (semIx [.str l, .int r]) Q := by
  obtain ⟨h, e⟩ := atI_in h0 h1
  show okO ((atI l r).map fun c => .fz (.str [c])) Q
  rw [e]
  exact q _ (List.getElem_mem h)
theorem erases_mapF {α : Type} (g : α → D) : ∀ l : List α, O.erases (l.map fun x => O.fz (g x)) = l.map g
  | [] => rfl
  | x :: l => by
    rw [List.map_cons, O.erases, erases_mapF g l]
    rfl
theorem okO_ite {α : Type} {c : Prop} [Decidable c] {a : α} {Q : α → Prop} : okO (if c then some a else none) Q ↔ c ∧ Q a := by
  by_cases h : c <;> simp [h, okO]
theorem rng_eq (n : Nat) : rng 0 n = (List.range n).map fun k => O.fz (.int (k : Nat)) := by
  unfold rng
  simp
theorem rng1_eq {j : Int} (h : j < 2 ^ 60) (h0 : 0 ≤ j) : rng1 [.int j] = some ((List.range j.toNat).map fun k => O.fz (.int (k : Nat))) := by
  have s1 : small62 j = true := small62_of (by omega) (by omega)
  show (if small62 j = true then some (rng 0 j.toNat) else none) = _
  rw [if_pos s1, rng_eq]
theorem rng1_lit (n : Nat) (h : n < 2 ^ 60) : rng1 [.int (n : Int)] = some ((List.range n).map fun k => O.fz (.int (k : Nat))) := by
  have := rng1_eq (j := (n : Int)) (by omega) (by omega)
  rwa [Int.toNat_natCast] at this
theorem cutL_take {α : Type} {xs : List α} {r : Int} (h : 0 ≤ r) : cutL xs none (some r) = xs.take r.toNat := by
  obtain ⟨k, rfl⟩ := Int.eq_ofNat_of_zero_le h
  show (xs.drop (HT.sIx xs.length 0 none)).take (HT.sIx xs.length xs.length (some (k : Int)) - HT.sIx xs.length 0 none) = _
  rw [HT.sIx_nat, HT.sIx_none, Nat.sub_zero, List.drop_zero, Int.toNat_natCast]
  rcases Nat.le_total k xs.length with z | z
  · rw [Nat.min_eq_left z]
  · rw [Nat.min_eq_right z, List.take_of_length_le (Nat.le_refl _), List.take_of_length_le z]
theorem erases_mapO : ∀ l : List D, O.erases (l.map O.fz) = l
  | [] => rfl
  | x :: l => by
    rw [List.map_cons, O.erases, erases_mapO l]
    rfl
theorem rng_at {n k : Nat} {o : O} (h : ((List.range n).map fun j => O.fz (.int (j : Nat)))[k]? = some o) : o = .fz (.int (k : Nat)) ∧ k < n := by
  rw [List.getElem?_map, Option.map_eq_some_iff] at h
  obtain ⟨j, hj, rfl⟩ := h
  obtain ⟨h1, h2⟩ := List.getElem?_eq_some_iff.mp hj
  rw [List.getElem_range] at h2
  exact ⟨by rw [h2], by simpa using h1⟩
/-- a pure comprehension: nothing else changes -/
theorem comp_map {own : List Nat} {h : O → Env → Option Env} {el : Env → R O} {env : Env} {os : List O} {g : Nat → O} {Q : List O × Env → Prop}
    (st : ∀ k o, os[k]? = some o → okO (h o env) (kBody el (fun y e => y = g k ∧ offE (ownP own) 0 e = env) noX)) (q : Q ((List.range os.length).map g, env)) : okO (compLoop (ownP own) h tTrue el os env) Q := by
  have z := wp_comp (own := ownP own) (h := h) (t := tTrue) (el := el) (Q := Q) (os := os) (ys := []) (env := env) (fun rest ys e => e = env ∧ ∃ k, os.drop k = rest ∧ k ≤ os.length ∧ ys = (List.range k).map g) ⟨rfl, 0, rfl, Nat.zero_le _, rfl⟩ ?_ ?_
  · exact z
  · rintro o rest ys e ⟨rfl, k, hk, hl, rfl⟩
    have hlt : k < os.length := by
      rcases Nat.lt_or_ge k os.length with z | z
      · exact z
      · rw [List.drop_eq_nil_of_le z] at hk; cases hk
    have hg : os[k]? = some o := by
      have := congrArg (·[0]?) hk
      simpa using this
    have hr : os.drop (k + 1) = rest := by
      rw [List.drop_eq_getElem_cons hlt] at hk
      exact (List.cons.inj hk).2
    have s := st k o hg
    revert s
    cases h o e with
    | none => exact fun s => s
    | some e1 =>
      intro s
      show wpR (el e1) _ noX
      refine wpR_mono (show wpR (el e1) _ noX from s) ?_ fun _ _ _ z => z
      rintro y e3 ⟨rfl, e4⟩
      exact ⟨e4, k + 1, hr, hlt, by rw [List.range_succ, List.map_append]; rfl⟩
  · rintro ys e ⟨rfl, k, hk, hl, rfl⟩
    have : os.length ≤ k := by
      have := congrArg List.length hk
      simp at this
      omega
    have : k = os.length := by omega
    subst this
    exact q
theorem kComp_map {own : List Nat} {h : O → Env → Option Env} {el : Env → R O} {e1 : Env} {os : List O} {g : Nat → O} {Q : O → Env → Prop} (len : os.length ≤ 1000000)
    (st : ∀ k o, os[k]? = some o → okO (h o (offE (ownP own) 0 e1)) (kBody el (fun y e => y = g k ∧ offE (ownP own) 0 e = offE (ownP own) 0 e1) noX))
    (q : Q (.lst ((List.range os.length).map g)) (onE (ownP own) 0 (offE (ownP own) 0 e1) e1)) : kComp own h tTrue el Q os e1 :=
  ⟨len, comp_map (g := g) st q⟩
/-- .. over a list -/
theorem kComp_list {α : Type} {own : List Nat} {h : O → Env → Option Env} {el : Env → R O} {e1 : Env} {l : List α} {f : α → O} {g : α → O} {Q : O → Env → Prop} (len : l.length ≤ 1000000)
    (st : ∀ x ∈ l, okO (h (f x) (offE (ownP own) 0 e1)) (kBody el (fun y e => y = g x ∧ offE (ownP own) 0 e = offE (ownP own) 0 e1) noX))
    (q : Q (.lst (l.map g)) (onE (ownP own) 0 (offE (ownP own) 0 e1) e1)) : kComp own h tTrue el Q (l.map f) e1 := by
  cases l with
  | nil => exact ⟨by simp, q⟩
  | cons z l =>
    refine kComp_map (g := fun k => g (((z :: l)[k]?).getD z)) (by simpa using len) (fun k o ho => ?_) ?_
    · rw [List.getElem?_map, Option.map_eq_some_iff] at ho
      obtain ⟨x, hx, rfl⟩ := ho
      rw [hx]
      exact st x (List.mem_of_getElem? hx)
    · have e : (List.range ((z :: l).map f).length).map (fun k => g (((z :: l)[k]?).getD z)) = (z :: l).map g := by
        refine List.ext_getElem? fun k => ?_
        rw [List.getElem?_map, List.getElem?_map, List.length_map]
        rcases Nat.lt_or_ge k (z :: l).length with hk | hk
        · rw [List.getElem?_eq_getElem (by simpa using hk), List.getElem?_eq_getElem hk]
          simp only [List.getElem_range, Option.map_some]
          rw [List.getElem?_eq_getElem hk]
          rfl
        · rw [List.getElem?_eq_none (by simpa using hk), List.getElem?_eq_none hk]
          rfl
      rw [e]
      exact q
theorem slNS_s {l : List Nat} {j : Int} : semSlNS [.str l, .int j] = some (.fz (.str (cutL l none (some j)))) := rfl
theorem slSN_s {l : List Nat} {j : Int} : semSlSN [.str l, .int j] = some (.fz (.str (cutL l (some j) none))) := rfl
theorem slSS_s {l : List Nat} {i j : Int} : semSlSS [.str l, .int i, .int j] = some (.fz (.str (cutL l (some i) (some j)))) := rfl
theorem slNS_l {l : List D} {j : Int} : semSlNS [.lst l, .int j] = some (.lst ((cutL l none (some j)).map .fz)) := rfl
theorem slSN_l {l : List D} {j : Int} : semSlSN [.lst l, .int j] = some (.lst ((cutL l (some j) none).map .fz)) := rfl
theorem slSS_l {l : List D} {i j : Int} : semSlSS [.lst l, .int i, .int j] = some (.lst ((cutL l (some i) (some j)).map .fz)) := rfl
def kPick (π : List Nat) (Q : List Opd → Env → Prop) : List Opd → Env → Prop := fun ops e => Q (pick π ops) e
theorem wp_oPick {π f} {env : Env} {X : WXK} {Q} : wpR (oPick π f env) Q X ↔ wpR (f env) (kPick π Q) X := by
  unfold oPick
  cases h : f env <;> exact Iff.rfl
end PyD
end

section
set_option Elab.async false
set_option linter.all false
set_option maxRecDepth 100000
namespace PyD
variable [Om]
open PySem L2 PySem.Spec PyProof.Rows
variable {env : Env} {X : WXK}
def kAug (i : Nat) (Q : Fl → Env → Prop) (a : Int) : O → Env → Prop
  | .fz (.int b), e => i < e.length ∧ Q .nx (e.set i (some (.fz (.int (a + b)))))
  | _, _ => False
def kAug0 (i : Nat) (f : Env → R O) (Q : Fl → Env → Prop) (X : WXK) (env : Env) : Option (Option O) → Prop
  | some (some (.fz (.int a))) => wpR (f env) (kAug i Q a) X
  | _ => False
theorem wp_sAug {i f} {Q} : wpR (sAug i f env) Q X ↔ kAug0 i f Q X env env[i]? := by
  unfold sAug kAug0
  cases env[i]? with
  | none => exact Iff.rfl
  | some a =>
    cases a with
    | none => exact Iff.rfl
    | some o =>
      cases o with
      | fz d =>
        cases d with
        | int a =>
          show wpR (match f env with
            | .ok (.fz (.int b)) e => if i < e.length then .ok .nx (e.set i (some (.fz (.int (a + b))))) else .bad
            | .exc c ds e => .exc c ds e
            | _ => .bad) Q X ↔ wpR (f env) (kAug i Q a) X
          cases f env with
          | exc c ds e => exact Iff.rfl
          | bad => exact Iff.rfl
          | ok o e =>
            cases o with
            | fz d =>
              cases d with
              | int b =>
                show wpR (if i < e.length then .ok .nx (e.set i (some (.fz (.int (a + b))))) else .bad) Q X ↔ _
                split
                · exact ⟨fun h => ⟨by assumption, h⟩, fun h => h.2⟩
                · exact ⟨fun h => h.elim, fun h => absurd h.1 (by assumption)⟩
              | _ => exact Iff.rfl
            | _ => exact Iff.rfl
        | _ => exact Iff.rfl
      | _ => exact Iff.rfl
def kRepl (y z : List Nat) (Q : O → Env → Prop) : O → Env → Prop
  | .fz (.str l), e => replOk y z l = true ∧ Q (.fz (.str (rplS y z l))) e
  | _, _ => False
theorem wp_eRepl {y z f} {Q} : wpR (eRepl y z f env) Q X ↔ wpR (f env) (kRepl y z Q) X := by
  unfold eRepl
  cases f env with
  | exc c ds e => exact Iff.rfl
  | bad => exact Iff.rfl
  | ok o e =>
    show _ ↔ kRepl y z Q o e
    cases o with
    | fz d =>
      cases d with
      | str l =>
        show wpR (if replOk y z l = true then .ok (.fz (.str (rplS y z l))) e else .bad) Q X ↔ _
        split
        · exact ⟨fun h => ⟨by assumption, h⟩, fun h => h.2⟩
        · exact ⟨fun h => h.elim, fun h => absurd h.1 (by assumption)⟩
      | _ => exact Iff.rfl
    | _ => exact Iff.rfl
def kIxT2 (k : List Int) (Q : O → Env → Prop) (e : Env) : Option (Option O) → Prop
  | some (some (.dct es)) => okO (tget es k) fun d => Q (.fz d) e
  | _ => False
def kIxT1 (i : Nat) (Q : O → Env → Prop) (e : Env) (k : List Int) : Prop := kIxT2 k Q e e[i]?
def kIxT (i : Nat) (Q : O → Env → Prop) (ko : O) (e : Env) : Prop := okO (tkeyO ko) (kIxT1 i Q e)
def kIxT0 (i : Nat) (g : Env → R O) (Q : O → Env → Prop) (X : WXK) (env : Env) : Option (Option O) → Prop
  | some (some (.dct _)) => wpR (g env) (kIxT i Q) X
  | _ => False
theorem wp_eIxT {i g} {Q} : wpR (eIxT i g env) Q X ↔ kIxT0 i g Q X env env[i]? := by
  unfold eIxT kIxT0
  cases env[i]? with
  | none => exact Iff.rfl
  | some a =>
    cases a with
    | none => exact Iff.rfl
    | some o =>
      cases o with
      | dct es0 =>
        show wpR (match g env with
          | .ok ko e => (match tkeyO ko, e[i]? with
            | some k, some (some (.dct es)) => (match tget es k with
              | some d => R.ok (O.fz d) e
              | none => .bad)
            | _, _ => .bad)
          | .exc c ds e => .exc c ds e
          | .bad => .bad) Q X ↔ _
        cases g env with
        | exc c ds e => exact Iff.rfl
        | bad => exact Iff.rfl
        | ok ko e =>
          show wpR (match tkeyO ko, e[i]? with
            | some k, some (some (.dct es)) => (match tget es k with
              | some d => R.ok (O.fz d) e
              | none => .bad)
            | _, _ => .bad) Q X ↔ okO (tkeyO ko) (fun k => kIxT2 k Q e e[i]?)
          cases tkeyO ko with
          | none => exact Iff.rfl
          | some k =>
            show wpR (match some k, e[i]? with
              | some k, some (some (.dct es)) => (match tget es k with
                | some d => R.ok (O.fz d) e
                | none => .bad)
              | _, _ => .bad) Q X ↔ kIxT2 k Q e e[i]?
            cases e[i]? with
            | none => exact Iff.rfl
            | some a =>
              cases a with
              | none => exact Iff.rfl
              | some o =>
                cases o with
                | dct es =>
                  show wpR (match tget es k with
                    | some d => R.ok (O.fz d) e
                    | none => .bad) Q X ↔ okO (tget es k) fun d => Q (.fz d) e
                  cases tget es k <;> exact Iff.rfl
                | _ => exact Iff.rfl
      | _ => exact Iff.rfl
def kSetT2 (i : Nat) (o : O) (k : List Int) (Q : Env → Prop) (e : Env) : Option (Option O) → Prop
  | some (some (.dct es)) => es.length < 1000000 ∧ Q (e.set i (some (.dct (tput es k o.erase))))
  | _ => False
def kSetT (i : Nat) (o : O) (Q : Env → Prop) (ko : O) (e : Env) : Prop := okO (tkeyO ko) fun k => kSetT2 i o k Q e e[i]?
def kSetT0 (i : Nat) (g : Env → R O) (o : O) (Q : Env → Prop) (env : Env) : Option (Option O) → Prop
  | some (some (.dct _)) => wpR (g env) (kSetT i o Q) noX
  | _ => False
theorem ok_gSetT {i g o} {Q : Env → Prop} : okO (gSetT i g o env) Q ↔ kSetT0 i g o Q env env[i]? := by
  unfold gSetT kSetT0
  cases env[i]? with
  | none => exact Iff.rfl
  | some a =>
    cases a with
    | none => exact Iff.rfl
    | some o2 =>
      cases o2 with
      | dct es0 =>
        show okO (match g env with
          | .ok ko e => (match tkeyO ko, e[i]? with
            | some k, some (some (.dct es)) => if es.length < 1000000 then some (e.set i (some (.dct (tput es k o.erase)))) else none
            | _, _ => none)
          | _ => none) Q ↔ _
        cases g env with
        | exc c ds e => exact Iff.rfl
        | bad => exact Iff.rfl
        | ok ko e =>
          show okO (match tkeyO ko, e[i]? with
            | some k, some (some (.dct es)) => if es.length < 1000000 then some (e.set i (some (.dct (tput es k o.erase)))) else none
            | _, _ => none) Q ↔ okO (tkeyO ko) fun k => kSetT2 i o k Q e e[i]?
          cases tkeyO ko with
          | none => exact Iff.rfl
          | some k =>
            show okO (match some k, e[i]? with
              | some k, some (some (.dct es)) => if es.length < 1000000 then some (e.set i (some (.dct (tput es k o.erase)))) else none
              | _, _ => none) Q ↔ kSetT2 i o k Q e e[i]?
            cases e[i]? with
            | none => exact Iff.rfl
            | some a =>
              cases a with
              | none => exact Iff.rfl
              | some o2 =>
                cases o2 with
                | dct es =>
                  show okO (if es.length < 1000000 then some (e.set i (some (.dct (tput es k o.erase)))) else none) Q ↔ _
                  split
                  · exact ⟨fun h => ⟨by assumption, h⟩, fun h => h.2⟩
                  · exact ⟨fun h => h.elim, fun h => absurd h.1 (by assumption)⟩
                | _ => exact Iff.rfl
      | _ => exact Iff.rfl
theorem wp_eDct0 {Q} : wpR (eDct0 env) Q X ↔ Q (.dct []) env := Iff.rfl
end PyD
end

section
set_option Elab.async false
set_option linter.all false
set_option maxRecDepth 100000
namespace PyD
variable [Om]
open PySem L2 PySem.Spec PyProof.Rows
/-! ### tuple(a list) -/
end PyD
end

section
set_option Elab.async false
set_option linter.all false
set_option maxRecDepth 100000
namespace PyD
variable [Om]
open PySem L2 PySem.Spec PyProof.Rows
/-! ### sorted(set(a list of ints)) -/
def insI (a : Int) : List Int → List Int
  | [] => [a]
  | b :: r => if a < b then a :: b :: r else if a = b then b :: r else b :: insI a r
def setI : List Int → List Int
  | [] => []
  | a :: r => insI a (setI r)
section
variable {P : Program} {w : World} {A : Around} {E : Value → Shared → Prop} {s : Shared}
end
section
variable {n : Nat} {X : Cx}
end
end PyD
end

section
set_option Elab.async false
set_option linter.all false
set_option maxRecDepth 100000
set_option maxHeartbeats 1000000
namespace PyD
variable [Om]
open PySem L2 PySem.Spec PyProof.Rows
/-! ### zip: any two sources -/
section
variable {P : Program} {w : World} {A : Around} {E : Value → Shared → Prop} {s : Shared} {z TI TO i1 i2 l1 l2 : Addr} {vs us : List Value} {S1 S2 : Nat → Heap → Prop} {a b : Value} {k : Nat}
end
/-! zip(a list, a tuple) -/
section
variable {P : Program} {w : World} {A : Around} {E : Value → Shared → Prop} {s : Shared}
end
end PyD
end

section
set_option Elab.async false
set_option linter.all false
set_option maxRecDepth 100000
set_option maxHeartbeats 1000000
namespace PyD
variable [Om]
open PySem L2 PySem.Spec PyProof.Rows
section
variable {n : Nat} {X : Cx}
def zipO (ds es : List D) : List O := (ds.zip es).map fun p => .tup [.fz p.1, .fz p.2]
def semZm : List O → Option (List O)
  | [o1, o2] => match o1.erase, o2.erase with
    | .lst ds, .tup es => some (zipO ds es)
    | _, _ => none
  | _ => none
def iZm (f : Env → R (List O)) : Env → R (List O) := fun env => match f env with
  | .ok os e => (match semZm os with
    | some r => .ok r e
    | none => .bad)
  | .exc c ds e => .exc c ds e
  | .bad => .bad
end
end PyD
end

section
set_option Elab.async false
set_option linter.all false
set_option maxRecDepth 100000
set_option maxHeartbeats 1000000
namespace PyD
variable [Om]
open PySem L2 PySem.Spec PyProof.Rows
/-! ### tuples of tuples of ints as keys -/
section
variable {P : Program} {w : World}
inductive NItems (P : Program) (w : World) (h : Heap) : List (List Int) → List Value → Prop
  | nil : NItems P w h [] []
  | cons {k : List Int} {b : Addr} {ks : List (List Int)} {vs : List Value} : IsTupleKey (intKind P w) h k b → NItems P w h ks vs → NItems P w h (k :: ks) (.ref b :: vs)
def NKey (P : Program) (w : World) (h : Heap) (ks : List (List Int)) (a : Addr) : Prop := ∃ o items n, h.get? a = some o ∧ o.cls = .type "tuple" ∧ o.data = .seq items n ∧ NItems P w h ks items.toList
theorem NItems.inj {h : Heap} : ∀ {x y : List (List Int)} {vs : List Value}, NItems P w h x vs → NItems P w h y vs → x = y
  | _, _, _, .nil, .nil => rfl
  | _, _, _, .cons a b, .cons c d => by rw [a.inj c, NItems.inj b d]
theorem NItems.length {h : Heap} : ∀ {x : List (List Int)} {vs : List Value}, NItems P w h x vs → x.length = vs.length
  | _, _, .nil => rfl
  | _, _, .cons a b => by simp [NItems.length b]
theorem NKey.inj {h : Heap} {a : Addr} {x y : List (List Int)} (p : NKey P w h x a) (q : NKey P w h y a) : x = y := by
  obtain ⟨o, items, n, e, _, d, i⟩ := p
  obtain ⟨o', items', n', e', _, d', i'⟩ := q
  rw [e] at e'
  cases e'
  rw [d] at d'
  cases d'
  exact i.inj i'
theorem NItems.keeps {h g : Heap} {d : Addr} {o : Obj} {es ep} (e : h.get? d = some o) (hd : o.data = .dict es ep) (hs : Heap.SameBut d h g) : ∀ {ks : List (List Int)} {vs : List Value}, NItems P w h ks vs → NItems P w g ks vs
  | _, _, .nil => .nil
  | _, _, .cons a b => .cons (a.keeps e hd hs) (NItems.keeps e hd hs b)
theorem NKey.keeps {h g : Heap} {ks : List (List Int)} {a d : Addr} {o : Obj} {es ep} (x : NKey P w h ks a) (e : h.get? d = some o) (hd : o.data = .dict es ep) (hs : Heap.SameBut d h g) : NKey P w g ks a := by
  obtain ⟨u, items, n, e1, c, d1, i⟩ := x
  have ne : a ≠ d := by
    intro z
    subst z
    rw [e] at e1
    cases e1
    rw [hd] at d1
    cases d1
  exact ⟨u, items, n, (hs.2 a ne).trans e1, c, d1, i.keeps e hd hs⟩
variable {A : Around} {E : Value → Shared → Prop} {s : Shared}
end
end PyD
end

section
set_option Elab.async false
set_option linter.all false
set_option maxRecDepth 100000
namespace PyD
variable [Om]
open PySem L2 PySem.Spec PyProof.Rows
/-! ### a dict with keys that are tuples of tuples of ints, True throughout -/
section
variable {X : Cx} {pins : List (Addr × Obj)} {σ : L2.St} {H : Hp} {s : Shared}
end
end PyD
end

section
set_option Elab.async false
set_option linter.all false
set_option maxRecDepth 100000
namespace PyD
variable [Om]
open PySem L2 PySem.Spec PyProof.Rows
def tIntD : D → Option (List Int)
  | .tup ds => intsOf ds
  | _ => none
def tIntDs : List D → Option (List (List Int))
  | [] => some []
  | d :: r => (tIntD d).bind fun k => (tIntDs r).map (k :: ·)
def nkeyD : D → Option (List (List Int))
  | .tup ds => tIntDs ds
  | _ => none
/-- key not in seen, as a test -/
def tNotSeen (j : Nat) (g : Env → R O) : Env → R Bool := fun env => match g env with
  | .ok ko e => (match nkeyD ko.erase, e[j]? with
    | some ks, some (some (.seen l)) => .ok (!decide (ks ∈ l)) e
    | _, _ => .bad)
  | .exc c ds e => .exc c ds e
  | .bad => .bad
section
variable {n : Nat} {X : Cx}
end
end PyD
end

section
set_option Elab.async false
set_option linter.all false
set_option maxRecDepth 100000
namespace PyD
variable [Om]
open PySem L2 PySem.Spec PyProof.Rows
section
variable {X : Cx}
/-- seen[key] = True -/
def gSeen (i : Nat) (g : Env → R O) : O → Env → Option Env := fun o env => match o, env[i]? with
  | .fz (.bl true), some (some (.seen _)) => (match g env with
    | .ok ko e => (match nkeyD ko.erase, e[i]? with
      | some ks, some (some (.seen l)) => if l.length < 1000000 then some (e.set i (some (.seen (if ks ∈ l then l else l ++ [ks])))) else none
      | _, _ => none)
    | _ => none)
  | _, _ => none
end
end PyD
end

section
set_option Elab.async false
set_option linter.all false
set_option maxRecDepth 100000
namespace PyD
variable [Om]
open PySem L2 PySem.Spec PyProof.Rows
/-- {name: True} -/
def eSeen1 (j : Nat) : Env → R O := fun env => match env[j]? with
  | some (some (.fz d)) => (match nkeyD d with
    | some ks => .ok (.seen [ks]) env
    | none => .bad)
  | _ => .bad
section
variable {n : Nat} {X : Cx}
end
end PyD
end

section
set_option Elab.async false
set_option linter.all false
set_option maxRecDepth 100000
namespace PyD
variable [Om]
open PySem L2 PySem.Spec PyProof.Rows
variable {env : Env} {X : WXK}
def kZm (Q : List O → Env → Prop) : List O → Env → Prop := fun os e => okO (semZm os) (kItems Q e)
theorem wp_iZm {f} {Q} : wpR (iZm f env) Q X ↔ wpR (f env) (kZm Q) X := by
  unfold iZm
  cases f env with
  | exc c ds e => exact Iff.rfl
  | bad => exact Iff.rfl
  | ok os e =>
    show wpR (match semZm os with
      | some r => R.ok r e
      | none => R.bad) Q X ↔ okO (semZm os) (kItems Q e)
    cases semZm os <;> exact Iff.rfl
def kSeen1 (env : Env) (Q : O → Env → Prop) : Option (Option O) → Prop
  | some (some (.fz d)) => okO (nkeyD d) fun ks => Q (.seen [ks]) env
  | _ => False
theorem wp_eSeen1 {j} {Q} : wpR (eSeen1 j env) Q X ↔ kSeen1 env Q env[j]? := by
  unfold eSeen1 kSeen1
  cases env[j]? with
  | none => exact Iff.rfl
  | some a =>
    cases a with
    | none => exact Iff.rfl
    | some o =>
      cases o with
      | fz d =>
        show wpR (match nkeyD d with
          | some ks => R.ok (O.seen [ks]) env
          | none => R.bad) Q X ↔ okO (nkeyD d) fun ks => Q (.seen [ks]) env
        cases nkeyD d <;> exact Iff.rfl
      | _ => exact Iff.rfl
def kNotSeen2 (ks : List (List Int)) (Q : Bool → Env → Prop) (e : Env) : Option (Option O) → Prop
  | some (some (.seen l)) => Q (!decide (ks ∈ l)) e
  | _ => False
def kNotSeen (j : Nat) (Q : Bool → Env → Prop) : O → Env → Prop := fun ko e => okO (nkeyD ko.erase) fun ks => kNotSeen2 ks Q e e[j]?
theorem wp_tNotSeen {j g} {Q} : wpR (tNotSeen j g env) Q X ↔ wpR (g env) (kNotSeen j Q) X := by
  unfold tNotSeen
  cases g env with
  | exc c ds e => exact Iff.rfl
  | bad => exact Iff.rfl
  | ok ko e =>
    show wpR (match nkeyD ko.erase, e[j]? with
      | some ks, some (some (.seen l)) => R.ok (!decide (ks ∈ l)) e
      | _, _ => R.bad) Q X ↔ okO (nkeyD ko.erase) fun ks => kNotSeen2 ks Q e e[j]?
    cases nkeyD ko.erase with
    | none => exact Iff.rfl
    | some ks =>
      show wpR (match some ks, e[j]? with
        | some ks, some (some (.seen l)) => R.ok (!decide (ks ∈ l)) e
        | _, _ => R.bad) Q X ↔ kNotSeen2 ks Q e e[j]?
      cases e[j]? with
      | none => exact Iff.rfl
      | some a =>
        cases a with
        | none => exact Iff.rfl
        | some o => cases o <;> exact Iff.rfl
end PyD
end

section
set_option Elab.async false
set_option linter.all false
set_option maxRecDepth 100000
namespace PyD
variable [Om]
open PySem L2 PySem.Spec PyProof.Rows
variable {env : Env} {X : WXK}
def kSn2 (i : Nat) (ks : List (List Int)) (Q : Env → Prop) (e : Env) : Option (Option O) → Prop
  | some (some (.seen l)) => l.length < 1000000 ∧ Q (e.set i (some (.seen (if ks ∈ l then l else l ++ [ks]))))
  | _ => False
def kSn (i : Nat) (Q : Env → Prop) : O → Env → Prop := fun ko e => okO (nkeyD ko.erase) fun ks => kSn2 i ks Q e e[i]?
def kSn0 (P : Prop) : Option (Option O) → Prop
  | some (some (.seen _)) => P
  | _ => False
theorem ok_gSeen {i : Nat} {g : Env → R O} {Q : Env → Prop} : okO (gSeen i g (.fz (.bl true)) env) Q ↔ kSn0 (wpR (g env) (kSn i Q) noX) env[i]? := by
  unfold gSeen kSn0
  cases env[i]? with
  | none => exact Iff.rfl
  | some a =>
    cases a with
    | none => exact Iff.rfl
    | some o =>
      cases o with
      | seen l0 =>
        cases g env with
        | exc c ds e => exact Iff.rfl
        | bad => exact Iff.rfl
        | ok ko e =>
          show okO (match nkeyD ko.erase, e[i]? with
            | some ks, some (some (.seen l)) => if l.length < 1000000 then some (e.set i (some (.seen (if ks ∈ l then l else l ++ [ks])))) else none
            | _, _ => none) Q ↔ okO (nkeyD ko.erase) fun ks => kSn2 i ks Q e e[i]?
          cases nkeyD ko.erase with
          | none => exact Iff.rfl
          | some ks =>
            show okO (match some ks, e[i]? with
              | some ks, some (some (.seen l)) => if l.length < 1000000 then some (e.set i (some (.seen (if ks ∈ l then l else l ++ [ks])))) else none
              | _, _ => none) Q ↔ kSn2 i ks Q e e[i]?
            cases e[i]? with
            | none => exact Iff.rfl
            | some a =>
              cases a with
              | none => exact Iff.rfl
              | some o =>
                cases o with
                | seen l =>
                  show okO (if l.length < 1000000 then some (e.set i (some (.seen (if ks ∈ l then l else l ++ [ks])))) else none) Q ↔ l.length < 1000000 ∧ Q (e.set i (some (.seen (if ks ∈ l then l else l ++ [ks]))))
                  by_cases h : l.length < 1000000
                  · rw [if_pos h]
                    exact ⟨fun z => ⟨h, z⟩, fun z => z.2⟩
                  · rw [if_neg h]
                    exact ⟨fun z => z.elim, fun z => h z.1⟩
                | _ => exact Iff.rfl
      | _ => exact Iff.rfl
end PyD
end

section
set_option Elab.async false
set_option linter.all false
set_option maxRecDepth 100000
namespace PyD
variable [Om]
open PySem L2 PySem.Spec PyProof.Rows PySem.Froz
/-! ### set(a text) -/
section
variable {P : Program} {w : World} {A : Around} {E : Value → Shared → Prop} {s : Shared}
end
section
variable {K : PySem.W.Frag}
end
section
variable {n : Nat} {X : Cx}
end
end PyD
end

section
set_option Elab.async false
set_option linter.all false
set_option maxRecDepth 100000
namespace PyD
variable [Om]
open PySem L2 PySem.Spec PyProof.Rows
/-- a value, frozen -/
def eFz (f : Env → R O) : Env → R O := fun env => match f env with
  | .ok o e => .ok (.fz o.erase) e
  | .exc c ds e => .exc c ds e
  | .bad => .bad
section
variable {n : Nat} {X : Cx}
theorem snd_fz {e : Expr} {f : Env → R O} (h : SndE n X e f) : SndE n X e (eFz f) := by
  refine .mk fun W tk env σ F H S Q st q => h.run W tk env σ F H S _ st ?_
  unfold eFz at q
  revert q
  cases f env with
  | exc c ds e => exact fun q => q
  | bad => exact fun q => q
  | ok o e =>
    intro q v F1 H1 S1 T tr s
    have rp : Rep X.K (frz F1 H1 T) v o.erase := s.one.freeze (frz_ex s.as.nf) fun a m u e => by rw [frz_in m]; exact e
    have t2 := tr.trans (frz_trans (S := S1) s.as.nf)
    have s2 := s.st.frz s.as
    exact q v _ _ S1 [] t2 ⟨s2, .cons (fp := []) (fq := []) (.fz rp) .nil, List.nodup_nil, ⟨fun _ m => (nomatch m), fun _ m => (nomatch m), fun _ m => (nomatch m)⟩⟩
end
section
variable {env : Env} {X : WXK}
def kFz (Q : O → Env → Prop) : O → Env → Prop := fun o e => Q (.fz o.erase) e
theorem wp_eFz {f} {Q} : wpR (eFz f env) Q X ↔ wpR (f env) (kFz Q) X := by
  unfold eFz
  cases f env <;> exact Iff.rfl
def kApp2 (i : Nat) (o : O) (Q : O → Env → Prop) (e : Env) : Option (Option O) → Prop
  | some (some (.lst os)) => os.length < 1000000 ∧ Q (.fz .non) (e.set i (some (.lst (os ++ [o]))))
  | _ => False
def kApp (i : Nat) (Q : O → Env → Prop) : O → Env → Prop := fun o e => kApp2 i o Q e e[i]?
def kApp0 (P : Prop) : Option (Option O) → Prop
  | some (some (.lst _)) => P
  | _ => False
theorem wp_eAppend {i f} {Q} : wpR (eAppend i f env) Q X ↔ kApp0 (wpR (f env) (kApp i Q) X) env[i]? := by
  unfold eAppend kApp0
  cases env[i]? with
  | none => exact Iff.rfl
  | some a =>
    cases a with
    | none => exact Iff.rfl
    | some o =>
      cases o with
      | lst l0 =>
        cases f env with
        | exc c ds e => exact Iff.rfl
        | bad => exact Iff.rfl
        | ok o e =>
          show wpR (match e[i]? with
            | some (some (.lst os)) => if os.length < 1000000 then R.ok (O.fz .non) (e.set i (some (.lst (os ++ [o])))) else .bad
            | _ => .bad) Q X ↔ kApp2 i o Q e e[i]?
          cases e[i]? with
          | none => exact Iff.rfl
          | some a =>
            cases a with
            | none => exact Iff.rfl
            | some x =>
              cases x with
              | lst os =>
                show wpR (if os.length < 1000000 then R.ok (O.fz .non) (e.set i (some (.lst (os ++ [o])))) else .bad) Q X ↔ os.length < 1000000 ∧ Q (.fz .non) (e.set i (some (.lst (os ++ [o]))))
                by_cases h : os.length < 1000000
                · rw [if_pos h]
                  exact ⟨fun z => ⟨h, z⟩, fun z => z.2⟩
                · rw [if_neg h]
                  exact ⟨fun z => z.elim, fun z => h z.1⟩
              | _ => exact Iff.rfl
      | _ => exact Iff.rfl
end
end PyD
end

section
set_option Elab.async false
set_option linter.all false
set_option maxRecDepth 100000
namespace PyD
variable [Om]
open PySem L2 PySem.Spec PyProof.Rows
/-! ### how long a text of repr is, and its signs -/
def cl (x : Str) : List Nat := x.cps.toList
end PyD
end

section
set_option Elab.async false
set_option linter.all false
set_option maxRecDepth 100000
/-! name.index(e), name a list -/
namespace PyD
variable [Om]
open PySem L2 PySem.Spec PyProof.Rows
section
variable {n : Nat} {X : Cx}
end
end PyD
end

section
set_option Elab.async false
set_option linter.all false
set_option maxRecDepth 100000
/-! what holds behind raise and try -/
namespace PyD
variable [Om]
open PySem L2 PySem.Spec PyProof.Rows
variable {env : Env} {X : WXK}
theorem wp_sRaise0 {c : Str} {Q : Fl → Env → Prop} : wpR (sRaise0 c env) Q X ↔ X c [] env := Iff.rfl
def kRaise (c : Str) (X : WXK) : O → Env → Prop
  | .fz d, e => X c [d] e
  | _, _ => False
theorem wp_sRaise1 {c : Str} {f : Env → R O} {Q : Fl → Env → Prop} : wpR (sRaise1 c f env) Q X ↔ wpR (f env) (kRaise c X) X := by
  unfold sRaise1
  cases f env with
  | ok o e => cases o <;> exact Iff.rfl
  | exc c ds e => exact Iff.rfl
  | bad => exact Iff.rfl
theorem wp_eDic0 {Q : O → Env → Prop} : wpR (eDic0 env) Q X ↔ Q (.dic []) env := Iff.rfl
def kDic (ls : List (List Nat)) (Q : O → Env → Prop) : List O → Env → Prop := fun os e => os.length = ls.length ∧ Q (.dic (dicZip ls os)) e
theorem wp_eDic {ls : List (List Nat)} {f : Env → R (List O)} {Q : O → Env → Prop} : wpR (eDic ls f env) Q X ↔ (ls.length ≤ 15 ∧ ls.Nodup ∧ ls.all okB = true) ∧ wpR (f env) (kDic ls Q) X := by
  unfold eDic
  by_cases h : ls.length ≤ 15 ∧ ls.Nodup ∧ ls.all okB = true
  · simp only [if_pos h, h, true_and]
    cases f env with
    | ok os e =>
      by_cases hl : os.length = ls.length
      · simp [hl, wpR, kDic]
      · simp [hl, wpR, kDic]
    | exc c ds e => simp [wpR]
    | bad => simp [wpR]
  · rw [if_neg h]
    exact ⟨fun z => z.elim, fun z => h z.1⟩
end PyD
end

section
set_option Elab.async false
set_option linter.all false
set_option maxRecDepth 100000
/-! a dict's display with keys that are expressions: texts, all different -/
namespace PyD
variable [Om]
open PySem L2 PySem.Spec PyProof.Rows
def unP : List O → Option (List (List Nat × O))
  | [] => some []
  | .fz (.str l) :: o :: r => (unP r).map ((l, o) :: ·)
  | _ => none
def dPairs (ps : List (List Nat × O)) : List (D × O) := ps.map fun p => (.str p.1, p.2)
def eDicG (f : Env → R (List O)) : Env → R O := fun env => match f env with
  | .ok os e => (match unP os with
    | some ps => if ps.length ≤ 15 ∧ (ps.map (·.1)).Nodup then .ok (.dic (dPairs ps)) e else .bad
    | none => .bad)
  | .exc c ds e => .exc c ds e
  | .bad => .bad
inductive KE2 : List (Option Expr) → List Expr → List Expr → Prop
  | nil : KE2 [] [] []
  | cons {k e : Expr} {ks : List (Option Expr)} {es xs : List Expr} : KE2 ks es xs → KE2 (some k :: ks) (e :: es) (k :: e :: xs)
theorem KE2.some {ks es xs} (h : KE2 ks es xs) : ks.all (·.isSome) = true := by
  induction h with
  | nil => rfl
  | cons _ ih => simp [ih]
theorem KE2.len {ks es xs} (h : KE2 ks es xs) : ks.length = es.length ∧ xs.length = 2 * ks.length := by
  induction h with
  | nil => exact ⟨rfl, rfl⟩
  | cons _ ih => simp; omega
section
variable {n : Nat} {X : Cx}
end
def kDicG (Q : O → Env → Prop) : List O → Env → Prop := fun os e => okO (unP os) fun ps => (ps.length ≤ 15 ∧ (ps.map (·.1)).Nodup) ∧ Q (.dic (dPairs ps)) e
theorem wp_eDicG {env : Env} {X : WXK} {f : Env → R (List O)} {Q : O → Env → Prop} : wpR (eDicG f env) Q X ↔ wpR (f env) (kDicG Q) X := by
  unfold eDicG
  cases f env with
  | exc c ds e => exact Iff.rfl
  | bad => exact Iff.rfl
  | ok os e =>
    show wpR (match unP os with
      | some ps => if ps.length ≤ 15 ∧ (ps.map (·.1)).Nodup then R.ok (O.dic (dPairs ps)) e else .bad
      | none => .bad) Q X ↔ okO (unP os) _
    cases unP os with
    | none => exact Iff.rfl
    | some ps =>
      show wpR (if ps.length ≤ 15 ∧ (ps.map (·.1)).Nodup then R.ok (O.dic (dPairs ps)) e else .bad) Q X ↔ _
      by_cases h : ps.length ≤ 15 ∧ (ps.map (·.1)).Nodup
      · rw [if_pos h]; exact ⟨fun z => ⟨h, z⟩, fun z => z.2⟩
      · rw [if_neg h]; exact ⟨fun z => z.elim, fun z => h z.1⟩
end PyD
end

section
set_option Elab.async false
set_option linter.all false
set_option maxRecDepth 100000
/-! a op b op' c, the middle one an int -/
namespace PyD
variable [Om]
open PySem L2 PySem.Spec PyProof.Rows
/-- the first comparison, of an int with an int; then the second one -/
def chain1 (s1 : List D → Option At) : List D → Option (Int × Bool)
  | [.int i, .int j] => match s1 [.int i, .int j] with
    | some (.bl b) => some (j, b)
    | _ => none
  | _ => none
def eChain (s1 s2 : List D → Option At) (f g : Env → R (List Opd)) : Env → R O := fun env => match f env with
  | .ok ops e => (match (resA e ops).bind (chain1 s1) with
    | some (_, false) => .ok (.fz (.bl false)) e
    | some (j, true) => (match g e with
      | .ok ops2 e2 => (match (resA e2 ops2).bind fun ds => s2 (.int j :: ds) with
        | some a => .ok (.fz a.d) e2
        | none => .bad)
      | .exc c ds e => .exc c ds e
      | .bad => .bad)
    | none => .bad)
  | .exc c ds e => .exc c ds e
  | .bad => .bad
section
variable {n : Nat} {X : Cx}
end
end PyD
end

section
set_option Elab.async false
set_option linter.all false
set_option maxRecDepth 100000
/-! a built-in function over a list display whose items are looked at only: f([a, b, g(x)]) -/
namespace PyD
variable [Om]
open PySem L2 PySem.Spec PyProof.Rows
section
variable {n : Nat} {X : Cx}
theorem Stt.new {K : PySem.W.Frag} {F H : Hp} {σ : L2.St} {env : Env} {S : List Addr} {p : Addr} {u : HO} (st : Stt K F H σ env S) (hp : H p = none) : Trans F H S F (upd H p u) S ∧ Stt K F (upd H p u) σ env S :=
  ⟨⟨fun a w e _ => Ex.new hp a w e, Ex.refl _, fun a o e => .inl ⟨o, e⟩, fun a m => .inl m, fun a e => by
    by_cases h : a = p
    · subst h; exact hp
    · rw [upd_ne h] at e; exact e⟩, ⟨st.own.keep (Ex.refl _) fun a _ w e => Ex.new hp a w e, st.sub.trans (Ex.new hp), st.nd, st.sep⟩⟩
end
end PyD
end

section
set_option Elab.async false
set_option linter.all false
set_option maxRecDepth 100000
/-! isinstance(x, (T1, T2, ..)): built-in types -/
namespace PyD
variable [Om]
open PySem L2 PySem.Spec PyProof.Rows PySem.W
section
variable {K : Frag}
variable {n : Nat} {X : Cx}
end
/-! what holds behind a chain -/
def kCh2 (s2 : List D → Option At) (Q : O → Env → Prop) (j : Int) : List Opd → Env → Prop := fun ops e => okO ((resA e ops).bind fun ds => s2 (.int j :: ds)) (kA2 Q e)
def kCh1 (s2 : List D → Option At) (g : Env → R (List Opd)) (Q : O → Env → Prop) (X : WXK) (e : Env) : Int × Bool → Prop := fun p => (p.2 = true → wpR (g e) (kCh2 s2 Q p.1) X) ∧ (p.2 = false → Q (.fz (.bl false)) e)
def kCh (s1 s2 : List D → Option At) (g : Env → R (List Opd)) (Q : O → Env → Prop) (X : WXK) : List Opd → Env → Prop := fun ops e => okO ((resA e ops).bind (chain1 s1)) (kCh1 s2 g Q X e)
theorem wp_eChain {env : Env} {X : WXK} {s1 s2 : List D → Option At} {f g : Env → R (List Opd)} {Q : O → Env → Prop} : wpR (eChain s1 s2 f g env) Q X ↔ wpR (f env) (kCh s1 s2 g Q X) X := by
  unfold eChain
  cases f env with
  | exc c ds e => exact Iff.rfl
  | bad => exact Iff.rfl
  | ok ops e =>
    show wpR (match (resA e ops).bind (chain1 s1) with
      | some (_, false) => .ok (.fz (.bl false)) e
      | some (j, true) => (match g e with
        | .ok ops2 e2 => (match (resA e2 ops2).bind fun ds => s2 (.int j :: ds) with
          | some a => .ok (.fz a.d) e2
          | none => .bad)
        | .exc c ds e => .exc c ds e
        | .bad => .bad)
      | none => .bad) Q X ↔ okO ((resA e ops).bind (chain1 s1)) (kCh1 s2 g Q X e)
    cases (resA e ops).bind (chain1 s1) with
    | none => exact Iff.rfl
    | some p =>
      obtain ⟨j, b⟩ := p
      cases b with
      | false => exact ⟨fun z => ⟨fun h => (nomatch h), fun _ => z⟩, fun z => z.2 rfl⟩
      | true =>
        have e1 : kCh1 s2 g Q X e (j, true) ↔ wpR (g e) (kCh2 s2 Q j) X := ⟨fun z => z.1 rfl, fun z => ⟨fun _ => z, fun h => (nomatch h)⟩⟩
        show _ ↔ kCh1 s2 g Q X e (j, true)
        rw [e1]
        show wpR (match g e with
          | .ok ops2 e2 => (match (resA e2 ops2).bind fun ds => s2 (.int j :: ds) with
            | some a => .ok (.fz a.d) e2
            | none => .bad)
          | .exc c ds e => .exc c ds e
          | .bad => .bad) Q X ↔ _
        cases g e with
        | exc c ds e => exact Iff.rfl
        | bad => exact Iff.rfl
        | ok ops2 e2 =>
          show wpR (match (resA e2 ops2).bind fun ds => s2 (.int j :: ds) with
            | some a => .ok (.fz a.d) e2
            | none => .bad) Q X ↔ okO ((resA e2 ops2).bind fun ds => s2 (.int j :: ds)) (kA2 Q e2)
          cases (resA e2 ops2).bind fun ds => s2 (.int j :: ds) <;> exact Iff.rfl
end PyD
end

section
set_option Elab.async false
set_option linter.all false
set_option maxRecDepth 100000
namespace PyD
variable [Om]
open PySem L2 PySem.Spec PyProof.Rows HT
/-! ### t[:j] of a frozen tuple: the whole of it is the tuple itself -/
section
variable {prog : Program} {w : World} {A : Around} {E : Value → Shared → Prop} {s : Shared}
end
section
variable {X : Cx}
def slF : List Opd → Option O
  | [.t (.fz (.tup ds)), .t (.fz (.int j))] => some (if sIx ds.length 0 none = 0 ∧ sIx ds.length ds.length (some j) = ds.length then .fz (.tup ds) else .tup ((cutL ds none (some j)).map .fz))
  | _ => none
def slFd : List Opd → Option D
  | [.t (.fz (.tup ds)), .t (.fz (.int j))] => some (.tup (cutL ds none (some j)))
  | _ => none
theorem slF_d (ops : List Opd) : (slF ops).map O.erase = slFd ops := by
  unfold slF slFd
  split
  · rename_i ds j
    show some (O.erase _) = _
    congr 1
    split
    · rename_i hw
      show D.tup ds = .tup (cutL ds none (some j))
      congr 1
      unfold cutL
      rw [hw.1, hw.2, List.drop_zero, Nat.sub_zero, List.take_length]
    · rw [O.erase, erases_mapO]
  · rfl
/-- t[:j]: t frozen -/
def eSlF0 (f : Env → R (List Opd)) : Env → R O := fun env => match f env with
  | .ok ops e => (match slF ops with
    | some o => .ok o e
    | none => .bad)
  | .exc c ds e => .exc c ds e
  | .bad => .bad
variable {n : Nat}
def eSlF (f : Env → R (List Opd)) : Env → R O := eFz (eSlF0 f)
end
section
variable {env : Env} {X : WXK}
def kSlF1 (Q : O → Env → Prop) (e : Env) : D → Prop := fun d => Q (.fz d) e
def kSlF (Q : O → Env → Prop) : List Opd → Env → Prop := fun ops e => okO (slFd ops) (kSlF1 Q e)
theorem wp_eSlF {f} {Q} : wpR (eSlF f env) Q X ↔ wpR (f env) (kSlF Q) X := by
  unfold eSlF
  rw [wp_eFz]
  unfold eSlF0 kSlF
  cases f env with
  | exc c ds e => exact Iff.rfl
  | bad => exact Iff.rfl
  | ok ops e =>
    show wpR (match slF ops with
      | some o => .ok o e
      | none => .bad) (kFz Q) X ↔ okO (slFd ops) (kSlF1 Q e)
    rw [← slF_d]
    cases slF ops <;> exact Iff.rfl
end
end PyD
end

section
set_option Elab.async false
set_option linter.all false
set_option maxRecDepth 100000
/-! defs with defaults -/
namespace PyD
variable [Om]
open PySem L2 PySem.Spec PyProof.Rows
section
variable {X : Cx} {CX : CXT} {k : Nat} {f : Addr} {fd : FuncData} {ps : List Str} {sp : Sp} {E : L2.St → XK} {ds : List Value} {dv : List V}
end
/-- .. as operands -/
def dOps (dd : List At) : List Opd := dd.map fun a => .t (.fz a.d)
def oDfl (dd : List At) (f : Env → R (List Opd)) : Env → R (List Opd) := fun env => match f env with
  | .ok ops e => .ok (ops ++ dOps dd) e
  | .exc c ds e => .exc c ds e
  | .bad => .bad
section
variable {n : Nat} {X : Cx}
end
section
variable {P : Program} {w : World} {K : PySem.W.Frag} {mg : Str → Option Value} {base : Heap} {x qual : Str} {params : Arguments} {body : List Stmt} {scope : Scope} {f : Addr} {fd : FuncData} {dvs : List V}
end
/-! what holds behind it -/
def kDfl (dd : List At) (Q : List Opd → Env → Prop) : List Opd → Env → Prop := fun ops e => Q (ops ++ dOps dd) e
theorem wp_oDfl {env : Env} {X : WXK} {dd : List At} {f : Env → R (List Opd)} {Q : List Opd → Env → Prop} : wpR (oDfl dd f env) Q X ↔ wpR (f env) (kDfl dd Q) X := by
  unfold oDfl
  cases f env <;> exact Iff.rfl
end PyD
end

section
set_option Elab.async false
set_option linter.all false
set_option maxRecDepth 100000
/-! a dict with None and texts as keys, ints as values -/
namespace PyD
variable [Om]
open PySem L2 PySem.Spec PyProof.Rows
class OmF (P : Program) (w : World) : Prop where
  p : Om.P = P
  w : Om.w = w
section
variable {X : Cx} {n : Nat}
end
end PyD
end

section
set_option Elab.async false
set_option linter.all false
set_option maxRecDepth 100000
namespace PyD
variable [Om]
open PySem L2 PySem.Spec PyProof.Rows
/-! ### [e for x in xs if t], xs a list of texts of the def's own that stays its own -/
section
variable {n : Nat} {X : Cx}
end
section
variable {n : Nat} {X : Cx}
end
end PyD
end

section
set_option Elab.async false
set_option linter.all false
set_option maxRecDepth 100000
/-! comprehensions over the keys of a dict with None among its keys -/
namespace PyD
variable [Om]
open PySem L2 PySem.Spec PyProof.Rows
/-! ### the keys of a dict with None -/
section
variable {n : Nat} {X : Cx}
end
end PyD
end

section
set_option Elab.async false
set_option linter.all false
set_option maxRecDepth 100000
/-! a dict that stands frozen is locked while a comprehension walks it -/
namespace PyD
variable [Om]
open PySem L2 PySem.Spec PyProof.Rows
/-- F and G differ in that the dict at a is locked in G -/
structure Lk1 (a : Addr) (od : Obj) (kvs : List (Key × V)) (F G : Hp) : Prop where
  f : F a = some (.dK kvs)
  g : G a = some (.frz od (.dK kvs))
  e : ∀ b, b ≠ a → F b = G b
section
variable {K : PySem.W.Frag} {F G H H2 : Hp} {a : Addr} {od : Obj} {kvs : List (Key × V)}
def nf : HO → Bool
  | .frz _ _ => false
  | _ => true
theorem Lk1.rd (l : Lk1 a od kvs F G) {b : Addr} {u : HO} (h : Rd F b u) (n : nf u = true) : Rd G b u := by
  by_cases hb : b = a
  · subst hb
    rcases h with h | ⟨o, h⟩
    · rw [l.f] at h; cases h; exact .inr ⟨od, l.g⟩
    · rw [l.f] at h; cases h
  · unfold Rd at h ⊢
    rwa [l.e b hb] at h
theorem Lk1.dr (l : Lk1 a od kvs F G) {b : Addr} {u : HO} (h : Rd G b u) (n : nf u = true) : Rd F b u := by
  by_cases hb : b = a
  · subst hb
    rcases h with h | ⟨o, h⟩
    · rw [l.g] at h; cases h; cases n
    · rw [l.g] at h; cases h; exact .inl l.f
  · unfold Rd at h ⊢
    rwa [← l.e b hb] at h
/-- what is read in one heap is read in the other -/
structure Same (F G : Hp) : Prop where
  rd : ∀ {b : Addr} {u : HO}, Rd F b u → nf u = true → Rd G b u
  xd : ∀ {b : Addr} {fs : List (Str × V)}, F b = some (.xd fs) → G b = some (.xd fs)
  ext : ∀ {b : Addr} {φ : Heap → Prop}, F b = some (.ext φ) → G b = some (.ext φ)
theorem Lk1.same (l : Lk1 a od kvs F G) : Same F G := ⟨l.rd, fun {b fs} h => by
  rw [← l.e b (fun z => by rw [z, l.f] at h; cases h)]; exact h, fun {b φ} h => by
  rw [← l.e b (fun z => by rw [z, l.f] at h; cases h)]; exact h⟩
theorem Same.l (m : Same F G) {b : Addr} {xs : List V} (h : SqL K F b xs) : SqL K G b xs := h.imp (fun z => m.rd z rfl) id
theorem Same.t (m : Same F G) {b : Addr} {xs : List V} (h : SqT K F b xs) : SqT K G b xs := h.imp (fun z => m.rd z rfl) id
mutual
theorem Rep.same (m : Same F G) : ∀ {v d}, Rep K F v d → Rep K G v d
  | _, _, .non => .non
  | _, _, .bl b => .bl b
  | _, _, .int i => .int i
  | _, _, .str l h => .str l h
  | _, _, .lst h r => .lst (m.l h) (Reps.same m r)
  | _, _, .tup h r => .tup (m.t h) (Reps.same m r)
  | _, _, .dic h r => .dic (m.rd h rfl) (RepK.same m r)
  | _, _, .junk v => .junk v
  | _, _, .x0 c a => .x0 c a
  | _, _, .xc h r => .xc (m.xd h) (Reps.same m r)
  | _, _, .e0 c h n => .e0 c (m.ext h) n
  | _, _, .e1 c h n g r => .e1 c (m.ext h) n (m.xd g) (Reps.same m r)
theorem Reps.same (m : Same F G) : ∀ {v d}, Reps K F v d → Reps K G v d
  | _, _, .nil => .nil
  | _, _, .cons h r => .cons (Rep.same m h) (Reps.same m r)
theorem RepK.same (m : Same F G) : ∀ {v d}, RepK K F v d → RepK K G v d
  | _, _, .nil => .nil
  | _, _, .cons k h r => .cons k (Rep.same m h) (RepK.same m r)
end
theorem RepT.same (m : Same F G) : ∀ {v d}, RepT K F v d → RepT K G v d
  | _, _, .nil => .nil
  | _, _, .cons h r => .cons (Rep.same m h) (RepT.same m r)
mutual
theorem Own.same (m : Same F G) : ∀ {v o fp}, Own K F H v o fp → (∀ a ∈ fp, ∀ u, H a = some u → H2 a = some u) → Own K G H2 v o fp
  | _, _, _, .fz r, _ => .fz (r.same m)
  | _, _, _, .lst h r, k => .lst (k _ List.mem_cons_self _ h) (Owns.same m r fun a n => k a (List.mem_cons_of_mem _ n))
  | _, _, _, .tup h r, k => .tup (k _ List.mem_cons_self _ h) (Owns.same m r fun a n => k a (List.mem_cons_of_mem _ n))
  | _, _, _, .dic h n r, k => .dic (k _ List.mem_cons_self _ h) n (OwnK.same m r fun a n => k a (List.mem_cons_of_mem _ n))
  | _, _, _, .dct h r, k => .dct (k _ List.mem_cons_self _ h) (r.same m)
  | _, _, _, .seen h r n, k => .seen (k _ List.mem_cons_self _ h) (fun x y => (r x y).same m) n
  | _, _, _, .nd h, k => .nd (k _ List.mem_cons_self _ h)
theorem Owns.same (m : Same F G) : ∀ {v o fp}, Owns K F H v o fp → (∀ a ∈ fp, ∀ u, H a = some u → H2 a = some u) → Owns K G H2 v o fp
  | _, _, _, .nil, _ => .nil
  | _, _, _, .cons h r, k => .cons (Own.same m h fun a n => k a (List.mem_append_left _ n)) (Owns.same m r fun a n => k a (List.mem_append_right _ n))
theorem OwnK.same (m : Same F G) : ∀ {v o fp}, OwnK K F H v o fp → (∀ a ∈ fp, ∀ u, H a = some u → H2 a = some u) → OwnK K G H2 v o fp
  | _, _, _, .nil, _ => .nil
  | _, _, _, .cons q h r, k => .cons q (Own.same m h fun a n => k a (List.mem_append_left _ n)) (OwnK.same m r fun a n => k a (List.mem_append_right _ n))
end
theorem Slots.same (m : Same F G) : ∀ {σ env S}, Slots K F H σ env S → (∀ a ∈ S, ∀ u, H a = some u → H2 a = some u) → Slots K G H2 σ env S
  | _, _, _, .nil, _ => .nil
  | _, _, _, .no r, k => .no (Slots.same m r k)
  | _, _, _, .yes h r, k => .yes (h.same m fun a n => k a (List.mem_append_left _ n)) (Slots.same m r fun a n => k a (List.mem_append_right _ n))
theorem Lk1.upd (hf : F a = some (.dK kvs)) : Lk1 a od kvs F (upd F a (.frz od (.dK kvs))) := ⟨hf, upd_same, fun b n => (upd_ne n).symm⟩
end
section
variable {n : Nat} {X : Cx}
def eFrzAt (i : Nat) (f : Env → R O) : Env → R O := fun env => match env[i]? with
  | some (some (.fz (.dic es))) => f env
  | some (some (.dic os)) => f (env.set i (some (.fz (.dic (O.eraseK os)))))
  | _ => .bad
end
end PyD
end

section
set_option Elab.async false
set_option linter.all false
set_option maxRecDepth 100000
/-! comprehensions over a dict, its values, its items -/
namespace PyD
variable [Om]
open PySem L2 PySem.Spec PyProof.Rows
inductive Dk where
  | keys | vals | items
def dItems : Dk → List (D × D) → List O
  | .keys, es => es.map fun p => .fz p.1
  | .vals, es => es.map fun p => .fz p.2
  | .items, es => es.map fun p => .tup [.fz p.1, .fz p.2]
def iDic (k : Dk) (i : Nat) : Env → R (List O) := fun env => match env[i]? with
  | some (some (.fz (.dic es))) => .ok (dItems k es) env
  | _ => .bad
section
variable {K : PySem.W.Frag} {F : Hp} {a : Addr} {od : Obj} {kvs : List (Key × V)} {es : List (D × D)}
theorem RepK.at : ∀ {kvs : List (Key × V)} {es : List (D × D)}, RepK K F kvs es → ∀ {i : Nat} {e d : D}, es[i]? = some (e, d) → ∃ k v, kvs[i]? = some (k, v) ∧ KeyD k e ∧ Rep K F v d
  | _, _, .nil, i, e, d, h => by simp at h
  | _, _, .cons hk hv r, 0, e, d, h => by
    simp at h; obtain ⟨rfl, rfl⟩ := h; exact ⟨_, _, rfl, hk, hv⟩
  | _, _, .cons hk hv r, i + 1, e, d, h => by
    obtain ⟨k, v, h1, h2, h3⟩ := RepK.at r (i := i) (by simpa using h)
    exact ⟨k, v, by simpa using h1, h2, h3⟩
end
section
variable {n : Nat} {X : Cx}
def eCompD (k : Dk) (i : Nat) (own : List Nat) (h : O → Env → Option Env) (t : Env → R Bool) (e : Env → R O) : Env → R O := eFrzAt i (eComp own (iDic k i) h t e)
end
end PyD
end

section
set_option Elab.async false
set_option linter.all false
set_option maxRecDepth 100000
/-! sorted(texts), sorted(dict), dict(d) -/
namespace PyD
variable [Om]
open PySem L2 PySem.Spec PyProof.Rows PySem.Froz
end PyD
end

section
set_option Elab.async false
set_option linter.all false
set_option maxRecDepth 100000
/-! {k: v for x in xs if t}: keys texts or ints, the values frozen -/
namespace PyD
variable [Om]
open PySem L2 PySem.Spec PyProof.Rows
structure AccD (K : PySem.W.Frag) (σ : L2.St) (envB : Env) (SB : List Addr) (Dl : Addr) (F H : Hp) (S : List Addr) (kvs : List (Key × V)) (es : List (D × D)) : Prop where
  at_ : H Dl = some (.dK kvs)
  rp : RepK K F kvs es
  kn : (kvs.map (·.1)).Nodup
  out : Slots K F H σ envB SB
  as : Aside F H S (Dl :: SB)
  nd : (Dl :: SB).Nodup
theorem AccD.over {K : PySem.W.Frag} {σ : L2.St} {envB : Env} {SB : List Addr} {Dl : Addr} {F H F' H' : Hp} {S S' : List Addr} {kvs : List (Key × V)} {es : List (D × D)} (a : AccD K σ envB SB Dl F H S kvs es) (t : Trans F H S F' H' S') : AccD K σ envB SB Dl F' H' S' kvs es where
  at_ := t.fr _ _ a.at_ (a.as.ns _ List.mem_cons_self)
  rp := a.rp.mono t.ff
  kn := a.kn
  out := a.out.keep t.ff fun x m u e => t.fr x u e (a.as.ns x (List.mem_cons_of_mem _ m))
  as := a.as.over t
  nd := a.nd
theorem AccD.sub {K : PySem.W.Frag} {σ : L2.St} {envB : Env} {SB : List Addr} {Dl : Addr} {F H : Hp} {S S' : List Addr} {kvs : List (Key × V)} {es : List (D × D)} (a : AccD K σ envB SB Dl F H S kvs es) (h : ∀ x ∈ S', x ∈ S) : AccD K σ envB SB Dl F H S' kvs es :=
  ⟨a.at_, a.rp, a.kn, a.out, ⟨fun x m n => a.as.ns x m (h x n), a.as.nf, a.as.lv⟩, a.nd⟩
section
variable {X : Cx}
end
end PyD
end

section
set_option Elab.async false
set_option linter.all false
set_option maxRecDepth 100000
/-! xs.pop(i) of a list that stands in a name -/
namespace PyD
variable [Om]
open PySem L2 PySem.Spec PyProof.Rows
section
variable {n : Nat} {X : Cx} {K : PySem.W.Frag} {F H : Hp} {σ : L2.St}
/-- one of the values taken out -/
theorem Owns.out : ∀ {vs : List V} {os : List O} {fp : List Addr} {k : Nat} {o : O}, Owns K F H vs os fp → os[k]? = some o →
    ∃ v fk fr, vs[k]? = some v ∧ Own K F H v o fk ∧ Owns K F H (vs.eraseIdx k) (os.eraseIdx k) fr ∧ (fk ++ fr).Perm fp
  | _, _, _, _, _, .nil, h => by simp at h
  | _, _, _, 0, o, .cons (fp := fp) (fq := fq) a b, h => by
    simp at h; subst h
    exact ⟨_, fp, fq, rfl, a, by simpa using b, List.Perm.refl _⟩
  | _, _, _, k + 1, o, .cons (fp := fp) (fq := fq) a b, h => by
    obtain ⟨v, fk, fr, h1, h2, h3, h4⟩ := Owns.out b (k := k) (by simpa using h)
    refine ⟨v, fk, fp ++ fr, by simpa using h1, h2, by simpa using Owns.cons a h3, ?_⟩
    have e1 : (fk ++ (fp ++ fr)).Perm (fp ++ (fk ++ fr)) := by
      rw [← List.append_assoc, ← List.append_assoc]
      exact List.Perm.append_right _ List.perm_append_comm
    exact e1.trans (List.Perm.append_left _ h4)
def popAt (i : Nat) (j : Int) (e : Env) : R O := match e[i]? with
  | some (some (.lst os)) => if 0 ≤ j ∧ j < os.length ∧ os.length ≤ 1000000 then (match os[j.toNat]? with
    | some o => .ok o (e.set i (some (.lst (os.eraseIdx j.toNat))))
    | none => .bad) else .bad
  | _ => .bad
def eLPop (i : Nat) (f : Env → R O) : Env → R O := fun env => match env[i]? with
  | some (some (.lst _)) => (match f env with
    | .ok (.fz (.int j)) e => popAt i j e
    | .ok _ _ => .bad
    | .exc c ds e => .exc c ds e
    | .bad => .bad)
  | _ => .bad
end
end PyD
end

section
set_option Elab.async false
set_option linter.all false
set_option maxRecDepth 100000
/-! d.pop(k) of a dict that stands in a name -/
namespace PyD
variable [Om]
open PySem L2 PySem.Spec PyProof.Rows
def ddel {α : Type} : List (D × α) → D → Option (α × List (D × α))
  | [], _ => none
  | (e, d) :: r, k => if kEq e k = true then some (d, r) else (ddel r k).map fun p => (p.1, (e, d) :: p.2)
section
variable {n : Nat} {X : Cx} {K : PySem.W.Frag} {F H : Hp} {σ : L2.St}
def dpopAt (i : Nat) (k : D) (e : Env) : R O := match e[i]? with
  | some (some (.dic os)) => if isKey k = true then (match ddel os k with
    | some p => .ok p.1 (e.set i (some (.dic p.2)))
    | none => .bad) else .bad
  | _ => .bad
def eDPop (i : Nat) (f : Env → R O) : Env → R O := fun env => match env[i]? with
  | some (some (.dic _)) => (match f env with
    | .ok (.fz k) e => dpopAt i k e
    | .ok _ _ => .bad
    | .exc c ds e => .exc c ds e
    | .bad => .bad)
  | _ => .bad
end
end PyD
end

section
set_option Elab.async false
set_option linter.all false
set_option maxRecDepth 100000
/-! the module's own tuples of texts -/
namespace PyD
variable [Om]
open PySem L2 PySem.Spec PyProof.Rows
def eG (d : D) : Env → R O := fun env => .ok (.fz d) env
end PyD
end

section
set_option Elab.async false
set_option linter.all false
set_option maxRecDepth 100000
/-! len(set(list of texts)) -/
namespace PyD
variable [Om]
open PySem L2 PySem.Spec PyProof.Rows PySem.Froz
end PyD
end

section
set_option Elab.async false
set_option linter.all false
set_option maxRecDepth 100000
/-! what holds behind pop, the module's tuples, comprehensions over dicts -/
namespace PyD
variable [Om]
open PySem L2 PySem.Spec PyProof.Rows
variable {env : Env} {X : WXK}
theorem wp_eG {d : D} {Q : O → Env → Prop} : wpR (eG d env) Q X ↔ Q (.fz d) env := Iff.rfl
def okPop (i : Nat) (j : Int) (Q : O → Env → Prop) (e : Env) : Option (Option O) → Prop
  | some (some (.lst os)) => (0 ≤ j ∧ j < os.length ∧ os.length ≤ 1000000) ∧ okO os[j.toNat]? fun o => Q o (e.set i (some (.lst (os.eraseIdx j.toNat))))
  | _ => False
def kLPop (i : Nat) (Q : O → Env → Prop) : O → Env → Prop
  | .fz (.int j), e => okPop i j Q e e[i]?
  | _, _ => False
def kLPop0 (P : Prop) : Option (Option O) → Prop
  | some (some (.lst _)) => P
  | _ => False
theorem wp_eLPop {i : Nat} {f : Env → R O} {Q : O → Env → Prop} : wpR (eLPop i f env) Q X ↔ kLPop0 (wpR (f env) (kLPop i Q) X) env[i]? := by
  unfold eLPop kLPop0
  cases env[i]? with
  | none => exact Iff.rfl
  | some a =>
    cases a with
    | none => exact Iff.rfl
    | some o =>
      cases o with
      | lst l0 =>
        cases f env with
        | exc c ds e => exact Iff.rfl
        | bad => exact Iff.rfl
        | ok o e =>
          cases o with
          | fz d =>
            cases d with
            | int j =>
              show wpR (popAt i j e) Q X ↔ okPop i j Q e e[i]?
              unfold popAt okPop
              cases e[i]? with
              | none => exact Iff.rfl
              | some a =>
                cases a with
                | none => exact Iff.rfl
                | some o =>
                  cases o with
                  | lst os =>
                    by_cases h : 0 ≤ j ∧ j < os.length ∧ os.length ≤ 1000000
                    · simp only [if_pos h, h, true_and]
                      cases os[j.toNat]? <;> exact ⟨fun z => z, fun z => z⟩
                    · simp only [if_neg h]
                      exact ⟨fun z => z.elim, fun z => h z.1⟩
                  | _ => exact Iff.rfl
            | _ => exact Iff.rfl
          | _ => exact Iff.rfl
      | _ => exact Iff.rfl
def okDPop (i : Nat) (k : D) (Q : O → Env → Prop) (e : Env) : Option (Option O) → Prop
  | some (some (.dic os)) => isKey k = true ∧ okO (ddel os k) fun p => Q p.1 (e.set i (some (.dic p.2)))
  | _ => False
def kDPop (i : Nat) (Q : O → Env → Prop) : O → Env → Prop
  | .fz k, e => okDPop i k Q e e[i]?
  | _, _ => False
def kDPop0 (P : Prop) : Option (Option O) → Prop
  | some (some (.dic _)) => P
  | _ => False
theorem wp_eDPop {i : Nat} {f : Env → R O} {Q : O → Env → Prop} : wpR (eDPop i f env) Q X ↔ kDPop0 (wpR (f env) (kDPop i Q) X) env[i]? := by
  unfold eDPop kDPop0
  cases env[i]? with
  | none => exact Iff.rfl
  | some a =>
    cases a with
    | none => exact Iff.rfl
    | some o =>
      cases o with
      | dic l0 =>
        cases f env with
        | exc c ds e => exact Iff.rfl
        | bad => exact Iff.rfl
        | ok o e =>
          cases o with
          | fz k =>
            show wpR (dpopAt i k e) Q X ↔ okDPop i k Q e e[i]?
            unfold dpopAt okDPop
            cases e[i]? with
            | none => exact Iff.rfl
            | some a =>
              cases a with
              | none => exact Iff.rfl
              | some o =>
                cases o with
                | dic os =>
                  by_cases h : isKey k = true
                  · simp only [if_pos h, h, true_and]
                    cases ddel os k <;> exact Iff.rfl
                  · simp only [if_neg h]
                    exact ⟨fun z => z.elim, fun z => h z.1⟩
                | _ => exact Iff.rfl
          | _ => exact Iff.rfl
      | _ => exact Iff.rfl
def kCompD (i : Nat) (k : Dk) (own : List Nat) (h : O → Env → Option Env) (t : Env → R Bool) (el : Env → R O) (Q : O → Env → Prop) (env : Env) : Option (Option O) → Prop
  | some (some (.fz (.dic es))) => kComp own h t el Q (dItems k es) env
  | some (some (.dic os)) => kComp own h t el Q (dItems k (O.eraseK os)) (env.set i (some (.fz (.dic (O.eraseK os)))))
  | _ => False
theorem wp_eCompD {k : Dk} {i : Nat} {own : List Nat} {h : O → Env → Option Env} {t : Env → R Bool} {el : Env → R O} {Q : O → Env → Prop} : wpR (eCompD k i own h t el env) Q X ↔ kCompD i k own h t el Q env env[i]? := by
  unfold eCompD eFrzAt kCompD
  cases he : env[i]? with
  | none => exact Iff.rfl
  | some a =>
    cases a with
    | none => exact Iff.rfl
    | some o =>
      cases o with
      | fz d =>
        cases d with
        | dic es =>
          show wpR (eComp own (iDic k i) h t el env) Q X ↔ _
          rw [wp_eComp]
          unfold iDic
          rw [he]
          exact Iff.rfl
        | _ => exact Iff.rfl
      | dic os =>
        have hl := (List.getElem?_eq_some_iff.mp he).1
        show wpR (eComp own (iDic k i) h t el (env.set i _)) Q X ↔ _
        rw [wp_eComp]
        unfold iDic
        rw [List.getElem?_set_self hl]
        exact Iff.rfl
      | _ => exact Iff.rfl
end PyD
end

section
set_option Elab.async false
set_option linter.all false
set_option maxRecDepth 100000
namespace PyD
variable [Om]
/-! ### patterns and words: what fits (plain) -/
/-- the sign 42 stands for any text -/
def Fm : List Nat → List Nat → Prop
  | [], w => w = []
  | c :: m, w => if c = 42 then ∃ k, k ≤ w.length ∧ Fm m (w.drop k) else ∃ r, w = c :: r ∧ Fm m r
/-! ### each piece as early as possible -/
def greedy (w : List Nat) (last : List Nat) : List (List Nat) → Nat → Bool
  | [], place => decide (place + last.length ≤ w.length) && isSuf last w
  | m :: ms, place => match findL w m place with
    | none => false
    | some i => greedy w last ms (i + m.length)
/-- the whole -/
def fitsB (p w : List Nat) : Bool := match splitC 42 p with
  | [] => false
  | [q] => q == w
  | q :: r => isPre q w && greedy w (r.getLastD []) r.dropLast q.length
end PyD
end

section
set_option Elab.async false
set_option linter.all false
set_option maxRecDepth 100000
namespace PyD
variable [Om]
/-! ### all places, sign by sign -/
/-! ### comprehensions that draw nothing -/
end PyD
end

section
set_option Elab.async false
set_option linter.all false
set_option maxRecDepth 100000
namespace PyD
variable [Om]
end PyD
end

section
set_option Elab.async false
set_option linter.all false
set_option maxRecDepth 100000
namespace PyD
variable [Om]
/-! ### plain words, inclusion -/
def pl (p : List Nat) : List Nat := p.map fun c => if c = 42 then 126 else c
def NS : List Nat → Prop
  | [] => True
  | c :: m => NS m ∧ (c = 42 → m.head? ≠ some 42)
/-! ### inclusion both ways: one pattern -/
/-! ### forms of lists -/
def up (xs : List (List Nat)) (p : List Nat) : Bool := xs.any fun q => !(p == q) && fitsB q (pl p)
end PyD
end

section
set_option Elab.async false
set_option linter.all false
set_option maxRecDepth 100000
namespace PyD
variable [Om]
/-! ### meets of two patterns -/
/-- what is asked of a pattern: its signs are in g, no two stars side by side -/
def Sg (g : Nat → Prop) (p : List Nat) : Prop := (∀ c ∈ p, g c) ∧ NS p
theorem Sg.cons {g : Nat → Prop} {c : Nat} {p : List Nat} (h : Sg g p) (hg : g c) (hc : c ≠ 42) : Sg g (c :: p) := ⟨fun x m => (List.mem_cons.mp m).elim (fun e => e ▸ hg) (h.1 x), h.2, fun e => absurd e hc⟩
end PyD
end

section
set_option Elab.async false
set_option linter.all false
set_option maxRecDepth 100000
namespace PyD
variable [Om]
/-! ### patterns read from the right -/
/-! ### the places of a pattern -/
def at1 (p : List Nat) (s : Int) : List Nat := (p.drop s.toNat).take 1
def clo (p : List Nat) (S : List Int) : List Int := setI (S ++ (S.filter fun s => at1 p s == [42]).map fun s => s + 1)
def stp (p : List Nat) (S : List Int) (c : Nat) : List Int := S.filterMap fun s => if at1 p s = [42] then some s else if at1 p s = [c] then some (s + 1) else none
def nx (p : List Nat) (S : List Int) (c : Nat) : List Int := clo p (stp p S c)
def run (p : List Nat) (w : List Nat) : List Int := w.foldl (nx p) (clo p [0])
theorem run_snoc {p w : List Nat} {c : Nat} : run p (w ++ [c]) = nx p (run p w) c := by
  unfold run
  rw [List.foldl_append]
  rfl
theorem run_dead {p w : List Nat} (h : run p w = []) : ∀ v, run p (w ++ v) = [] := by
  intro v
  unfold run at h ⊢
  rw [List.foldl_append, h]
  induction v with
  | nil => rfl
  | cons c v ih => exact ih
end PyD
end

section
set_option Elab.async false
set_option linter.all false
set_option maxRecDepth 100000
namespace PyD
variable [Om]
/-! ### a search by states -/
def stR (ps : List (List Nat)) (w : List Nat) : List (List Int) := ps.map fun p => run p w
def AccW (m r : List (List Nat)) (w : List Nat) : Prop := (∀ p ∈ m, Fm p w) ∧ ∀ q ∈ r, ¬ Fm q w
def DeadW (m : List (List Nat)) (w : List Nat) : Prop := ∃ p ∈ m, run p w = []
structure Bfs (m r : List (List Nat)) (sg : List Nat) (ws : List (List Nat)) (k : Nat) : Prop where
  hd : [] ∈ ws
  nd : (ws.map (stR (m ++ r))).Nodup
  le : k ≤ ws.length
  len : ∀ (i : Nat) (w : List Nat), ws[i]? = some w → w.length ≤ i
  cl : ∀ (i : Nat) (w : List Nat), i < k → ws[i]? = some w → ¬ AccW m r w ∧ ∀ c ∈ sg, DeadW m (w ++ [c]) ∨ stR (m ++ r) (w ++ [c]) ∈ ws.map (stR (m ++ r))
theorem Bfs.start {m r : List (List Nat)} {sg : List Nat} : Bfs m r sg [[]] 0 where
  hd := List.mem_cons_self
  nd := by simp
  le := Nat.zero_le _
  len := fun i w h => by
    cases i with
    | zero => simp at h; subst h; simp
    | succ i => simp at h
  cl := fun i w h => absurd h (Nat.not_lt_zero _)
theorem Bfs.step {m r : List (List Nat)} {sg : List Nat} {ws : List (List Nat)} {k : Nat} {w : List Nat} (b : Bfs m r sg ws k) (hw : ws[k]? = some w) (na : ¬ AccW m r w) (cl : ∀ c ∈ sg, DeadW m (w ++ [c]) ∨ stR (m ++ r) (w ++ [c]) ∈ ws.map (stR (m ++ r))) : Bfs m r sg ws (k + 1) where
  hd := b.hd
  nd := b.nd
  le := by
    rcases Nat.lt_or_ge k ws.length with z | z
    · exact z
    · rw [List.getElem?_eq_none z] at hw; cases hw
  len := b.len
  cl := fun i v hi h => by
    rcases Nat.lt_or_ge i k with z | z
    · exact b.cl i v z h
    · have : i = k := by omega
      subst this
      rw [hw] at h
      cases h
      exact ⟨na, cl⟩
theorem dead_more {m : List (List Nat)} {w v : List Nat} (h : DeadW m w) : DeadW m (w ++ v) := by
  obtain ⟨p, hp, e⟩ := h
  exact ⟨p, hp, run_dead e v⟩
theorem st_next {ps : List (List Nat)} {v w : List Nat} {c : Nat} (h : stR ps v = stR ps w) : stR ps (v ++ [c]) = stR ps (w ++ [c]) := by
  unfold stR at h ⊢
  refine List.map_inj_left.mpr fun p hp => ?_
  rw [run_snoc, run_snoc, List.map_inj_left.mp h p hp]
theorem Bfs.all {m r : List (List Nat)} {sg : List Nat} {ws : List (List Nat)} (b : Bfs m r sg ws ws.length) : ∀ (n : Nat) (v : List Nat), v.length = n → (∀ c ∈ v, c ∈ sg) → DeadW m v ∨ stR (m ++ r) v ∈ ws.map (stR (m ++ r)) := by
  intro n
  induction n with
  | zero =>
    intro v hv _
    have e : v = [] := List.eq_nil_of_length_eq_zero hv
    subst e
    exact .inr (List.mem_map_of_mem b.hd)
  | succ n ih =>
    intro w hw hs
    obtain ⟨u, c, rfl⟩ : ∃ u c, w = u ++ [c] := by
      refine ⟨w.dropLast, w.getLast (by intro e; rw [e] at hw; simp at hw), (List.dropLast_concat_getLast _).symm⟩
    rcases ih u (by simpa using hw) fun x m => hs x (List.mem_append_left _ m) with d | h
    · exact .inl (dead_more d)
    · obtain ⟨z, hz, e⟩ := List.mem_map.mp h
      obtain ⟨i, hi⟩ := List.getElem?_of_mem hz
      have lt : i < ws.length := by
        rcases Nat.lt_or_ge i ws.length with z | z
        · exact z
        · rw [List.getElem?_eq_none z] at hi; cases hi
      rcases (b.cl i z lt hi).2 c (hs c (by simp)) with d | k
      · left
        obtain ⟨p, hp, e2⟩ := d
        refine ⟨p, hp, ?_⟩
        have := st_next (c := c) e
        unfold stR at this
        rw [← List.map_inj_left.mp this p (List.mem_append_left _ hp)]
        exact e2
      · right
        rw [← st_next e]
        exact k
/-! signs of no pattern -/
/-! how many states -/
end PyD
end

section
set_option Elab.async false
set_option linter.all false
set_option maxRecDepth 100000
namespace PyD
variable [Om]
open PySem L2 PySem.Spec PyProof.Rows
/-- a list of texts as the program has it: its items frozen -/
abbrev Ls (ws : List (List Nat)) : D := .lst (ws.map D.str)
abbrev Lo (ws : List (List Nat)) : O := .lst (ws.map fun w => O.fz (.str w))
def Lk (ws : List (List Nat)) (o : O) : Prop := o = .fz (Ls ws) ∨ o = Lo ws
theorem Lk.er {ws : List (List Nat)} {o : O} (h : Lk ws o) : o.erase = Ls ws := by
  rcases h with rfl | rfl
  · rfl
  · rw [O.erase, erases_mapF D.str]
theorem Lk.sh {ws : List (List Nat)} {o : O} (h : Lk ws o) : o.shal = true := by
  rcases h with rfl | rfl
  · rfl
  · simp [O.shal, O.isFz]
theorem ix_at {α : Type} {l : List α} {g : α → D} {k : Nat} {w : α} (h : l[k]? = some w) : semIx [.lst (l.map g), .int (k : Nat)] = some (.fz (g w)) := by
  have hk : k < l.length := by
    rcases Nat.lt_or_ge k l.length with z | z
    · exact z
    · rw [List.getElem?_eq_none z] at h; cases h
  obtain ⟨h1, e⟩ := atI_in (l := l.map g) (r := (k : Int)) (by omega) (by simp; omega)
  show (atI (l.map g) (k : Int)).map O.fz = _
  rw [e]
  have : l[k] = w := by
    rw [List.getElem?_eq_getElem hk] at h
    exact Option.some.inj h
  simp [this]
/-! the signs of the search -/
end PyD
end

section
set_option Elab.async false
set_option linter.all false
set_option maxRecDepth 100000
/-! comprehensions that freeze a list of texts outside -/
namespace PyD
variable [Om]
open PySem L2 PySem.Spec PyProof.Rows
end PyD
end

section
set_option Elab.async false
set_option linter.all false
set_option maxRecDepth 100000
/-! comprehensions whose items are drawn -/
namespace PyD
variable [Om]
open PySem L2 PySem.Spec PyProof.Rows
end PyD
end

section
set_option Elab.async false
/-! a loop whose body is looked at without what comes after the loop -/
namespace PyD
variable [Om]
open PySem L2 PySem.Spec PyProof.Rows
theorem wp_loopA {X : WXK} {h : O → Env → Option Env} {b : Env → R Fl} {Q : Fl → Env → Prop} {os : List O} (I : Nat → Env → Prop) {env : Env} (h0 : I 0 env)
    (st : ∀ q k e o, os[k]? = some o → I k e → okO (h o e) (kBody b (kTurn (I (k + 1)) q) X)) (q : ∀ e, I os.length e → Q .nx e) : wpR (sLoop h b os env) Q X :=
  wp_loopN I h0 (st Q) q
end PyD
end

section
set_option Elab.async false
set_option linter.all false
/-! what holds behind {k: v for ..} -/
namespace PyD
variable [Om]
open PySem L2 PySem.Spec PyProof.Rows
section
variable {X : WXK} {env : Env}
end
end PyD
end

section
set_option Elab.async false
set_option linter.all false
set_option maxRecDepth 100000
set_option maxHeartbeats 2000000
/-! try: body except C: suite (the exception has no name) -/
namespace PyD
variable [Om]
open PySem L2 PySem.Spec PyProof.Rows PySem.W
section
variable {X : Cx} {pr : Nat → Bool} {n : Nat}
end
end PyD
end

section
set_option Elab.async false
/-! a loop over written items: the list of items is not to be seen by the kernel, which would run the loop -/
namespace PyD
variable [Om]
open PySem L2 PySem.Spec PyProof.Rows
end PyD
end

section
set_option Elab.async false
set_option linter.all false
set_option maxRecDepth 100000
/-! comprehensions whose items are drawn from a pool: what holds of all items so far -/
namespace PyD
variable [Om]
open PySem L2 PySem.Spec PyProof.Rows
end PyD
end

section
set_option Elab.async false
set_option linter.all false
set_option maxRecDepth 100000
/-! name.extend(list) -/
namespace PyD
variable [Om]
open PySem L2 PySem.Spec PyProof.Rows
end PyD
end

section
set_option Elab.async false
set_option linter.all false
set_option maxRecDepth 100000
/-! name.insert(k, v) -/
namespace PyD
variable [Om]
open PySem L2 PySem.Spec PyProof.Rows
section
variable {n : Nat} {X : Cx} {K : PySem.W.Frag} {F H : Hp}
end
end PyD
end

section
set_option Elab.async false
set_option linter.all false
set_option maxRecDepth 100000
/-! a part of an owned value, found by indices: what may be put in its place -/
namespace PyD
variable [Om]
open PySem L2 PySem.Spec PyProof.Rows
section
variable {K : PySem.W.Frag} {F H : Hp}
end
end PyD
end

section
set_option Elab.async false
set_option linter.all false
set_option maxRecDepth 100000
/-! name[i]..[j].append(constant) -/
namespace PyD
variable [Om]
open PySem L2 PySem.Spec PyProof.Rows
section
variable {n : Nat} {X : Cx} {K : PySem.W.Frag} {F H : Hp} {σ : L2.St}
end
end PyD
end

section
set_option Elab.async false
set_option linter.all false
set_option maxRecDepth 100000
/-! what holds behind name.insert(k, v), name[i]..[j].append(constant) -/
namespace PyD
variable [Om]
open PySem L2 PySem.Spec PyProof.Rows
variable {env : Env} {X : WXK}
end PyD
end

section
set_option Elab.async false
set_option linter.all false
set_option maxRecDepth 100000
/-! what holds behind dicts with None, list.index -/
namespace PyD
variable [Om]
open PySem L2 PySem.Spec PyProof.Rows
variable {env : Env} {X : WXK}
end PyD
end

section
set_option Elab.async false
set_option linter.all false
set_option maxRecDepth 100000
/-! own exceptions as values: what holds behind the readings -/
namespace PyD
variable [Om]
section
variable {env : Env} {X : WXK}
def kNew2 (c : List Nat) (fs : List PySem.Str) (Q : O → Env → Prop) (e : Env) : Option (List D) → Prop
  | some ds => Q (.fz (.set [.str c, .lst (fs.map fun f => .str f.cps.toList), .lst ds])) e
  | none => False
def kNew (c : List Nat) (fs : List PySem.Str) (Q : O → Env → Prop) : List O → Env → Prop := fun os e => kNew2 c fs Q e (frzs os)
theorem wp_eNewV {c fs f} {Q} : wpR (eNewV c fs f env) Q X ↔ wpR (f env) (kNew c fs Q) X := by
  unfold eNewV kNew
  cases f env with
  | exc c ds e => exact Iff.rfl
  | bad => exact Iff.rfl
  | ok os e =>
    show wpR (match frzs os with | some ds => R.ok (O.fz (.set [.str c, .lst (fs.map fun f => .str f.cps.toList), .lst ds])) e | none => .bad) Q X ↔ kNew2 c fs Q e (frzs os)
    cases frzs os <;> exact Iff.rfl
def kNewZ (c : List Nat) (Q : O → Env → Prop) : O → Env → Prop
  | .fz _, e => Q (.fz (.set [.str c])) e
  | _, _ => False
theorem wp_eNewZ {c f} {Q} : wpR (eNewZ c f env) Q X ↔ wpR (f env) (kNewZ c Q) X := by
  unfold eNewZ
  cases f env with
  | exc c ds e => exact Iff.rfl
  | bad => exact Iff.rfl
  | ok o e => cases o <;> exact Iff.rfl
def kXv2 (Q : O → Env → Prop) (e : Env) : Option D → Prop
  | some d => Q (.fz d) e
  | none => False
def kXv (ok : List Nat → Bool) (f : List Nat) (Q : O → Env → Prop) : O → Env → Prop
  | .fz d, e => kXv2 Q e (semXv ok f d)
  | _, _ => False
theorem wp_eXv {ok f g} {Q} : wpR (eXv ok f g env) Q X ↔ wpR (g env) (kXv ok f Q) X := by
  unfold eXv
  cases g env with
  | exc c ds e => exact Iff.rfl
  | bad => exact Iff.rfl
  | ok o e =>
    cases o with
    | fz d =>
      show wpR (match semXv ok f d with | some x => R.ok (O.fz x) e | none => .bad) Q X ↔ kXv2 Q e (semXv ok f d)
      cases semXv ok f d <;> exact Iff.rfl
    | _ => exact Iff.rfl
end
end PyD
end

section
set_option Elab.async false
set_option linter.all false
set_option maxRecDepth 100000
namespace PyD.k86
open PySem L2 PySem.Spec PyProof.Rows PyD
def knL : List Str := ["InvalidCatalog", "InvalidDevice", "InvalidForest", "InvalidKeys", "InvalidLabel", "InvalidLinks", "InvalidNaming", "InvalidNumber", "InvalidOrder", "InvalidOwners", "InvalidPatterns", "InvalidRules", "InvalidState", "InvalidText", "InvalidWidths", "InvalidWord", "IsPlugged", "NameTaken", "NoEnd", "NotPlugged", "NothingToUndo", "PlugError", "SlotTaken", "TooMany"]
def knC : List (List Nat) := [[73,110,118,97,108,105,100,67,97,116,97,108,111,103], [73,110,118,97,108,105,100,68,101,118,105,99,101], [73,110,118,97,108,105,100,70,111,114,101,115,116], [73,110,118,97,108,105,100,75,101,121,115], [73,110,118,97,108,105,100,76,97,98,101,108], [73,110,118,97,108,105,100,76,105,110,107,115], [73,110,118,97,108,105,100,78,97,109,105,110,103], [73,110,118,97,108,105,100,78,117,109,98,101,114], [73,110,118,97,108,105,100,79,114,100,101,114], [73,110,118,97,108,105,100,79,119,110,101,114,115], [73,110,118,97,108,105,100,80,97,116,116,101,114,110,115], [73,110,118,97,108,105,100,82,117,108,101,115], [73,110,118,97,108,105,100,83,116,97,116,101], [73,110,118,97,108,105,100,84,101,120,116], [73,110,118,97,108,105,100,87,105,100,116,104,115], [73,110,118,97,108,105,100,87,111,114,100], [73,115,80,108,117,103,103,101,100], [78,97,109,101,84,97,107,101,110], [78,111,69,110,100], [78,111,116,80,108,117,103,103,101,100], [78,111,116,104,105,110,103,84,111,85,110,100,111], [80,108,117,103,69,114,114,111,114], [83,108,111,116,84,97,107,101,110], [84,111,111,77,97,110,121]]
def isV (y : List Nat) (c : List Nat) : Option Bool := if knC.contains c = true then some (c == y || y == [80,108,117,103,69,114,114,111,114]) else none
def isB (c : List Nat) : Option Bool := if knC.contains c = true then some true else none
def okV (c : List Nat) : Bool := knC.contains c

/-- _law_bag(_law_cell, _law_k); names ['_law_cell', '_law_k'] -/
def b__law_bag : Env → R Fl :=
  (sSeq (sIf (tBool (eA semLt (oVar 0 (oExp (eC (.int 0)) oNil)))) (sRet (eLst (aCons (eA semNeg (oVar 0 oNil)) (aCons (eB semAdd (oExp (eB semMul (oExp (eC (.int 37)) (oVar 1 oNil))) (oExp (eC (.int 18)) oNil))) aNil)))) sNil)
  (sRet (eLst (aCons (eVar 0) (aCons (eB semMul (oExp (eC (.int 37)) (oVar 1 oNil))) aNil)))))
@[irreducible] def φ__law_bag : List O → FR := fnSem [false, false] 0 b__law_bag
/-- _law_draw(_law_bag_here, _law_many); names ['_law_bag_here', '_law_many', '_law_digit', '_law_one'] -/
def b__law_draw : Env → R Fl :=
  (sSeq (sAugS 0 1 (eC (.int 1)))
  (sSeq (sIf (tBool (eA semGe (oExp (eB semIx (oVar 0 (oExp (eC (.int 0)) oNil))) (oExp (eA semPow (oExp (eC (.int 10)) (oExp (eC (.int 18)) oNil))) oNil)))) (sSeq (sAsg (eA semMod (oExp (eA semInt (oExp (eB semIx (oVar 0 (oExp (eC (.int 0)) oNil))) oNil)) (oVar 1 oNil))) (gN 2))
  (sSeq (sAsg (eA semDiv (oExp (eB semIx (oVar 0 (oExp (eC (.int 0)) oNil))) (oVar 1 oNil))) (gSet 0 (oExp (eC (.int 0)) oNil)))
  (sRet (eMove 2)))) sNil)
  (sSeq (sAsg (eA semMod (oExp (eA semInt (oExp (eB semAdd (oExp (eB semAdd (oExp (eA semMod (oExp (eA semInt (oExp (eB semIx (oVar 0 (oExp (eC (.int 0)) oNil))) oNil)) (oExp (eC (.int 2147483629)) oNil))) (oExp (eB semMul (oExp (eC (.int 104729)) (oExp (eB semIx (oVar 0 (oExp (eC (.int 1)) oNil))) oNil))) oNil))) (oExp (eC (.int 1)) oNil))) oNil)) (oExp (eC (.int 2147483587)) oNil))) (gN 3))
  (sSeq (sAsg (eA semMod (oExp (eA semInt (oExp (eB semMul (oVar 3 (oVar 3 oNil))) oNil)) (oExp (eC (.int 2147483587)) oNil))) (gN 3))
  (sSeq (sAsg (eA semMod (oExp (eA semInt (oExp (eB semAdd (oVar 3 (oExp (eB semMul (oExp (eC (.int 40692)) (oExp (eB semIx (oVar 0 (oExp (eC (.int 1)) oNil))) oNil))) oNil))) oNil)) (oExp (eC (.int 2147483563)) oNil))) (gN 3))
  (sSeq (sAsg (eA semMod (oExp (eA semInt (oExp (eB semMul (oVar 3 (oVar 3 oNil))) oNil)) (oExp (eC (.int 2147483563)) oNil))) (gN 3))
  (sRet (eA semMod (oExp (eA semInt (oExp (eA semDiv (oVar 3 (oExp (eC (.int 8)) oNil))) oNil)) (oVar 1 oNil))))))))))
@[irreducible] def φ__law_draw : List O → FR := fnSem [false, false] 2 b__law_draw
/-- _law_marks(_law_e); names ['_law_e', '_law_marks_here'] -/
def b__law_marks : Env → R Fl :=
  (sSeq (sAsg (eLst aNil) (gN 1))
  (sSeq (sAsg (eB semAdd (oVar 1 (oExp (eLst (aCons (eA (semIsV (isV [73,110,118,97,108,105,100,67,97,116,97,108,111,103])) (oVar 0 oNil)) (aCons (eA (semIsV (isV [73,110,118,97,108,105,100,68,101,118,105,99,101])) (oVar 0 oNil)) aNil))) oNil))) (gN 1))
  (sSeq (sAsg (eB semAdd (oVar 1 (oExp (eLst (aCons (eA (semIsV (isV [73,110,118,97,108,105,100,70,111,114,101,115,116])) (oVar 0 oNil)) (aCons (eA (semIsV (isV [73,110,118,97,108,105,100,75,101,121,115])) (oVar 0 oNil)) aNil))) oNil))) (gN 1))
  (sSeq (sAsg (eB semAdd (oVar 1 (oExp (eLst (aCons (eA (semIsV (isV [73,110,118,97,108,105,100,76,97,98,101,108])) (oVar 0 oNil)) (aCons (eA (semIsV (isV [73,110,118,97,108,105,100,76,105,110,107,115])) (oVar 0 oNil)) aNil))) oNil))) (gN 1))
  (sSeq (sAsg (eB semAdd (oVar 1 (oExp (eLst (aCons (eA (semIsV (isV [73,110,118,97,108,105,100,78,97,109,105,110,103])) (oVar 0 oNil)) (aCons (eA (semIsV (isV [73,110,118,97,108,105,100,78,117,109,98,101,114])) (oVar 0 oNil)) aNil))) oNil))) (gN 1))
  (sSeq (sAsg (eB semAdd (oVar 1 (oExp (eLst (aCons (eA (semIsV (isV [73,110,118,97,108,105,100,79,114,100,101,114])) (oVar 0 oNil)) (aCons (eA (semIsV (isV [73,110,118,97,108,105,100,79,119,110,101,114,115])) (oVar 0 oNil)) aNil))) oNil))) (gN 1))
  (sSeq (sAsg (eB semAdd (oVar 1 (oExp (eLst (aCons (eA (semIsV (isV [73,110,118,97,108,105,100,80,97,116,116,101,114,110,115])) (oVar 0 oNil)) (aCons (eA (semIsV (isV [73,110,118,97,108,105,100,82,117,108,101,115])) (oVar 0 oNil)) aNil))) oNil))) (gN 1))
  (sSeq (sAsg (eB semAdd (oVar 1 (oExp (eLst (aCons (eA (semIsV (isV [73,110,118,97,108,105,100,83,116,97,116,101])) (oVar 0 oNil)) (aCons (eA (semIsV (isV [73,110,118,97,108,105,100,84,101,120,116])) (oVar 0 oNil)) aNil))) oNil))) (gN 1))
  (sSeq (sAsg (eB semAdd (oVar 1 (oExp (eLst (aCons (eA (semIsV (isV [73,110,118,97,108,105,100,87,105,100,116,104,115])) (oVar 0 oNil)) (aCons (eA (semIsV (isV [73,110,118,97,108,105,100,87,111,114,100])) (oVar 0 oNil)) aNil))) oNil))) (gN 1))
  (sSeq (sAsg (eB semAdd (oVar 1 (oExp (eLst (aCons (eA (semIsV (isV [73,115,80,108,117,103,103,101,100])) (oVar 0 oNil)) (aCons (eA (semIsV (isV [78,97,109,101,84,97,107,101,110])) (oVar 0 oNil)) aNil))) oNil))) (gN 1))
  (sSeq (sAsg (eB semAdd (oVar 1 (oExp (eLst (aCons (eA (semIsV (isV [78,111,69,110,100])) (oVar 0 oNil)) (aCons (eA (semIsV (isV [78,111,116,80,108,117,103,103,101,100])) (oVar 0 oNil)) aNil))) oNil))) (gN 1))
  (sSeq (sAsg (eB semAdd (oVar 1 (oExp (eLst (aCons (eA (semIsV (isV [78,111,116,104,105,110,103,84,111,85,110,100,111])) (oVar 0 oNil)) (aCons (eA (semIsV (isV [83,108,111,116,84,97,107,101,110])) (oVar 0 oNil)) aNil))) oNil))) (gN 1))
  (sSeq (sAsg (eB semAdd (oVar 1 (oExp (eLst (aCons (eA (semIsV (isV [84,111,111,77,97,110,121])) (oVar 0 oNil)) aNil)) oNil))) (gN 1))
  (sRet (eMove 1)))))))))))))))
@[irreducible] def φ__law_marks : List O → FR := fnSem [false] 1 b__law_marks
/-- _law_fields_right(_law_amount, _law_who); names ['_law_amount', '_law_who', '_law_values', '_law_due', '_law_first', '_law_second'] -/
def b__law_fields_right : Env → R Fl :=
  (sSeq (sAsg (eFz (eLst aNil)) (gN 2))
  (sSeq (sAsg (eFz (eLst aNil)) (gN 3))
  (sSeq (sAsg (eFz (eB semAdd (oVar 2 (oExp (eLst (aCons (eXv okV [105,110,100,101,120] (eNewV [73,110,118,97,108,105,100,80,97,116,116,101,114,110,115] ["index"] (aCons (eFz (eVar 0)) aNil))) (aCons (eXv okV [105,110,100,101,120] (eNewV [73,110,118,97,108,105,100,80,97,116,116,101,114,110,115] ["index"] (aCons (eFz (eVar 0)) aNil))) aNil))) oNil)))) (gN 2))
  (sSeq (sAsg (eFz (eB semAdd (oVar 3 (oExp (eB semMul (oExp (eLst (aCons (eVar 0) aNil)) (oExp (eC (.int 2)) oNil))) oNil)))) (gN 3))
  (sSeq (sAsg (eFz (eB semAdd (oVar 2 (oExp (eLst (aCons (eXv okV [105,110,100,101,120] (eNewV [73,110,118,97,108,105,100,82,117,108,101,115] ["index"] (aCons (eFz (eVar 0)) aNil))) (aCons (eXv okV [105,110,100,101,120] (eNewV [73,110,118,97,108,105,100,82,117,108,101,115] ["index"] (aCons (eFz (eVar 0)) aNil))) aNil))) oNil)))) (gN 2))
  (sSeq (sAsg (eFz (eB semAdd (oVar 3 (oExp (eB semMul (oExp (eLst (aCons (eVar 0) aNil)) (oExp (eC (.int 2)) oNil))) oNil)))) (gN 3))
  (sSeq (sAsg (eFz (eB semAdd (oVar 2 (oExp (eLst (aCons (eXv okV [105,110,100,101,120] (eNewV [73,110,118,97,108,105,100,67,97,116,97,108,111,103] ["index"] (aCons (eFz (eVar 0)) aNil))) (aCons (eXv okV [105,110,100,101,120] (eNewV [73,110,118,97,108,105,100,67,97,116,97,108,111,103] ["index"] (aCons (eFz (eVar 0)) aNil))) aNil))) oNil)))) (gN 2))
  (sSeq (sAsg (eFz (eB semAdd (oVar 3 (oExp (eB semMul (oExp (eLst (aCons (eVar 0) aNil)) (oExp (eC (.int 2)) oNil))) oNil)))) (gN 3))
  (sSeq (sAsg (eFz (eB semAdd (oVar 2 (oExp (eLst (aCons (eXv okV [108,97,98,101,108] (eNewV [73,110,118,97,108,105,100,76,97,98,101,108] ["label"] (aCons (eFz (eVar 1)) aNil))) (aCons (eXv okV [108,97,98,101,108] (eNewV [73,110,118,97,108,105,100,76,97,98,101,108] ["label"] (aCons (eFz (eVar 1)) aNil))) aNil))) oNil)))) (gN 2))
  (sSeq (sAsg (eFz (eB semAdd (oVar 3 (oExp (eB semMul (oExp (eLst (aCons (eVar 1) aNil)) (oExp (eC (.int 2)) oNil))) oNil)))) (gN 3))
  (sSeq (sAsg (eFz (eB semAdd (oVar 2 (oExp (eLst (aCons (eXv okV [108,97,98,101,108] (eNewV [73,110,118,97,108,105,100,78,97,109,105,110,103] ["label"] (aCons (eFz (eVar 1)) aNil))) (aCons (eXv okV [108,97,98,101,108] (eNewV [73,110,118,97,108,105,100,78,97,109,105,110,103] ["label"] (aCons (eFz (eVar 1)) aNil))) aNil))) oNil)))) (gN 2))
  (sSeq (sAsg (eFz (eB semAdd (oVar 3 (oExp (eB semMul (oExp (eLst (aCons (eVar 1) aNil)) (oExp (eC (.int 2)) oNil))) oNil)))) (gN 3))
  (sSeq (sAsg (eFz (eB semAdd (oVar 2 (oExp (eLst (aCons (eXv okV [108,97,98,101,108] (eNewV [73,110,118,97,108,105,100,87,105,100,116,104,115] ["label"] (aCons (eFz (eVar 1)) aNil))) (aCons (eXv okV [108,97,98,101,108] (eNewV [73,110,118,97,108,105,100,87,105,100,116,104,115] ["label"] (aCons (eFz (eVar 1)) aNil))) aNil))) oNil)))) (gN 2))
  (sSeq (sAsg (eFz (eB semAdd (oVar 3 (oExp (eB semMul (oExp (eLst (aCons (eVar 1) aNil)) (oExp (eC (.int 2)) oNil))) oNil)))) (gN 3))
  (sSeq (sAsg (eFz (eB semAdd (oVar 2 (oExp (eLst (aCons (eXv okV [108,97,98,101,108] (eNewV [73,110,118,97,108,105,100,70,111,114,101,115,116] ["label"] (aCons (eFz (eVar 1)) aNil))) (aCons (eXv okV [108,97,98,101,108] (eNewV [73,110,118,97,108,105,100,70,111,114,101,115,116] ["label"] (aCons (eFz (eVar 1)) aNil))) aNil))) oNil)))) (gN 2))
  (sSeq (sAsg (eFz (eB semAdd (oVar 3 (oExp (eB semMul (oExp (eLst (aCons (eVar 1) aNil)) (oExp (eC (.int 2)) oNil))) oNil)))) (gN 3))
  (sSeq (sAsg (eFz (eB semAdd (oVar 2 (oExp (eLst (aCons (eXv okV [108,97,98,101,108] (eNewV [73,115,80,108,117,103,103,101,100] ["label"] (aCons (eFz (eVar 1)) aNil))) (aCons (eXv okV [108,97,98,101,108] (eNewV [73,115,80,108,117,103,103,101,100] ["label"] (aCons (eFz (eVar 1)) aNil))) aNil))) oNil)))) (gN 2))
  (sSeq (sAsg (eFz (eB semAdd (oVar 3 (oExp (eB semMul (oExp (eLst (aCons (eVar 1) aNil)) (oExp (eC (.int 2)) oNil))) oNil)))) (gN 3))
  (sSeq (sAsg (eFz (eB semAdd (oVar 2 (oExp (eLst (aCons (eXv okV [108,97,98,101,108] (eNewV [78,111,116,80,108,117,103,103,101,100] ["label"] (aCons (eFz (eVar 1)) aNil))) (aCons (eXv okV [108,97,98,101,108] (eNewV [78,111,116,80,108,117,103,103,101,100] ["label"] (aCons (eFz (eVar 1)) aNil))) aNil))) oNil)))) (gN 2))
  (sSeq (sAsg (eFz (eB semAdd (oVar 3 (oExp (eB semMul (oExp (eLst (aCons (eVar 1) aNil)) (oExp (eC (.int 2)) oNil))) oNil)))) (gN 3))
  (sSeq (sAsg (eFz (eB semAdd (oVar 2 (oExp (eLst (aCons (eXv okV [108,97,98,101,108] (eNewV [83,108,111,116,84,97,107,101,110] ["label"] (aCons (eFz (eVar 1)) aNil))) (aCons (eXv okV [108,97,98,101,108] (eNewV [83,108,111,116,84,97,107,101,110] ["label"] (aCons (eFz (eVar 1)) aNil))) aNil))) oNil)))) (gN 2))
  (sSeq (sAsg (eFz (eB semAdd (oVar 3 (oExp (eB semMul (oExp (eLst (aCons (eVar 1) aNil)) (oExp (eC (.int 2)) oNil))) oNil)))) (gN 3))
  (sSeq (sAsg (eFz (eB semAdd (oVar 2 (oExp (eLst (aCons (eXv okV [108,97,98,101,108] (eNewV [78,97,109,101,84,97,107,101,110] ["label"] (aCons (eFz (eVar 1)) aNil))) (aCons (eXv okV [108,97,98,101,108] (eNewV [78,97,109,101,84,97,107,101,110] ["label"] (aCons (eFz (eVar 1)) aNil))) aNil))) oNil)))) (gN 2))
  (sSeq (sAsg (eFz (eB semAdd (oVar 3 (oExp (eB semMul (oExp (eLst (aCons (eVar 1) aNil)) (oExp (eC (.int 2)) oNil))) oNil)))) (gN 3))
  (sSeq (sAsg (eFz (eB semAdd (oVar 2 (oExp (eLst (aCons (eXv okV [108,105,110,107] (eNewV [73,110,118,97,108,105,100,76,105,110,107,115] ["link"] (aCons (eFz (eVar 1)) aNil))) (aCons (eXv okV [108,105,110,107] (eNewV [73,110,118,97,108,105,100,76,105,110,107,115] ["link"] (aCons (eFz (eVar 1)) aNil))) aNil))) oNil)))) (gN 2))
  (sSeq (sAsg (eFz (eB semAdd (oVar 3 (oExp (eB semMul (oExp (eLst (aCons (eVar 1) aNil)) (oExp (eC (.int 2)) oNil))) oNil)))) (gN 3))
  (sSeq (sAsg (eFz (eB semAdd (oVar 2 (oExp (eLst (aCons (eXv okV [108,105,110,107] (eNewV [73,110,118,97,108,105,100,79,119,110,101,114,115] ["link"] (aCons (eFz (eVar 1)) aNil))) (aCons (eXv okV [108,105,110,107] (eNewV [73,110,118,97,108,105,100,79,119,110,101,114,115] ["link"] (aCons (eFz (eVar 1)) aNil))) aNil))) oNil)))) (gN 2))
  (sSeq (sAsg (eFz (eB semAdd (oVar 3 (oExp (eB semMul (oExp (eLst (aCons (eVar 1) aNil)) (oExp (eC (.int 2)) oNil))) oNil)))) (gN 3))
  (sSeq (sAsg (eFz (eB semAdd (oVar 2 (oExp (eLst (aCons (eXv okV [114,105,110,103] (eNewV [78,111,69,110,100] ["ring"] (aCons (eFz (eLst (aCons (eVar 1) (aCons (eC (.str [98])) aNil)))) aNil))) (aCons (eXv okV [114,105,110,103] (eNewV [78,111,69,110,100] ["ring"] (aCons (eFz (eLst (aCons (eVar 1) (aCons (eC (.str [98])) aNil)))) aNil))) aNil))) oNil)))) (gN 2))
  (sSeq (sAsg (eFz (eB semAdd (oVar 3 (oExp (eB semMul (oExp (eLst (aCons (eLst (aCons (eVar 1) (aCons (eC (.str [98])) aNil))) aNil)) (oExp (eC (.int 2)) oNil))) oNil)))) (gN 3))
  (sSeq (sAsg (eFz (eB semAdd (oVar 2 (oExp (eLst (aCons (eXv okV [108,105,109,105,116] (eNewV [84,111,111,77,97,110,121] ["limit"] (aCons (eFz (eVar 0)) aNil))) (aCons (eXv okV [108,105,109,105,116] (eNewV [84,111,111,77,97,110,121] ["limit"] (aCons (eFz (eVar 0)) aNil))) aNil))) oNil)))) (gN 2))
  (sSeq (sAsg (eFz (eB semAdd (oVar 3 (oExp (eB semMul (oExp (eLst (aCons (eVar 0) aNil)) (oExp (eC (.int 2)) oNil))) oNil)))) (gN 3))
  (sSeq (sPar [4, 5] (aCons (eNewV [73,110,118,97,108,105,100,84,101,120,116] ["line", "word"] (aCons (eFz (eVar 0)) (aCons (eFz (eB semAdd (oVar 0 (oExp (eC (.int 1)) oNil)))) aNil))) (aCons (eNewV [73,110,118,97,108,105,100,84,101,120,116] ["line", "word"] (aCons (eFz (eVar 0)) (aCons (eFz (eB semAdd (oVar 0 (oExp (eC (.int 1)) oNil)))) aNil))) aNil)))
  (sSeq (sAsg (eFz (eB semAdd (oVar 2 (oExp (eLst (aCons (eXv okV [108,105,110,101] (eVar 4)) (aCons (eXv okV [108,105,110,101] (eVar 5)) (aCons (eXv okV [119,111,114,100] (eVar 4)) (aCons (eXv okV [119,111,114,100] (eVar 5)) aNil))))) oNil)))) (gN 2))
  (sSeq (sAsg (eFz (eB semAdd (oExp (eB semAdd (oVar 3 (oExp (eB semMul (oExp (eLst (aCons (eVar 0) aNil)) (oExp (eC (.int 2)) oNil))) oNil))) (oExp (eB semMul (oExp (eLst (aCons (eB semAdd (oVar 0 (oExp (eC (.int 1)) oNil))) aNil)) (oExp (eC (.int 2)) oNil))) oNil)))) (gN 3))
  (sRet (eA (semEq false) (oVar 2 (oVar 3 oNil)))))))))))))))))))))))))))))))))))))))
@[irreducible] def φ__law_fields_right : List O → FR := fnSem [false, false] 4 b__law_fields_right
/-- _law_right(_law_message, _law_amount, _law_who); names ['_law_message', '_law_amount', '_law_who', '_law_some', '_law_k', '_law_other'] -/
def b__law_right : Env → R Fl :=
  (sSeq (sAsg (eFz (eLst aNil)) (gN 3))
  (sSeq (sAsg (eFz (eB semAdd (oVar 3 (oExp (eLst (aCons (eNewV [73,110,118,97,108,105,100,67,97,116,97,108,111,103] ["index"] (aCons (eFz (eVar 1)) aNil)) (aCons (eNewZ [73,110,118,97,108,105,100,68,101,118,105,99,101] (eFz (eVar 0))) aNil))) oNil)))) (gN 3))
  (sSeq (sAsg (eFz (eB semAdd (oVar 3 (oExp (eLst (aCons (eNewV [73,110,118,97,108,105,100,70,111,114,101,115,116] ["label"] (aCons (eFz (eVar 2)) aNil)) (aCons (eNewZ [73,110,118,97,108,105,100,75,101,121,115] (eFz (eVar 0))) aNil))) oNil)))) (gN 3))
  (sSeq (sAsg (eFz (eB semAdd (oVar 3 (oExp (eLst (aCons (eNewV [73,110,118,97,108,105,100,76,97,98,101,108] ["label"] (aCons (eFz (eVar 2)) aNil)) (aCons (eNewV [73,110,118,97,108,105,100,76,105,110,107,115] ["link"] (aCons (eFz (eVar 2)) aNil)) aNil))) oNil)))) (gN 3))
  (sSeq (sAsg (eFz (eB semAdd (oVar 3 (oExp (eLst (aCons (eNewV [73,110,118,97,108,105,100,78,97,109,105,110,103] ["label"] (aCons (eFz (eVar 2)) aNil)) (aCons (eNewZ [73,110,118,97,108,105,100,78,117,109,98,101,114] (eFz (eVar 0))) aNil))) oNil)))) (gN 3))
  (sSeq (sAsg (eFz (eB semAdd (oVar 3 (oExp (eLst (aCons (eNewZ [73,110,118,97,108,105,100,79,114,100,101,114] (eFz (eVar 0))) (aCons (eNewV [73,110,118,97,108,105,100,79,119,110,101,114,115] ["link"] (aCons (eFz (eVar 2)) aNil)) aNil))) oNil)))) (gN 3))
  (sSeq (sAsg (eFz (eB semAdd (oVar 3 (oExp (eLst (aCons (eNewV [73,110,118,97,108,105,100,80,97,116,116,101,114,110,115] ["index"] (aCons (eFz (eVar 1)) aNil)) (aCons (eNewV [73,110,118,97,108,105,100,82,117,108,101,115] ["index"] (aCons (eFz (eVar 1)) aNil)) aNil))) oNil)))) (gN 3))
  (sSeq (sAsg (eFz (eB semAdd (oVar 3 (oExp (eLst (aCons (eNewZ [73,110,118,97,108,105,100,83,116,97,116,101] (eFz (eVar 0))) (aCons (eNewV [73,110,118,97,108,105,100,84,101,120,116] ["line", "word"] (aCons (eFz (eVar 1)) (aCons (eFz (eB semAdd (oVar 1 (oExp (eC (.int 1)) oNil)))) aNil))) aNil))) oNil)))) (gN 3))
  (sSeq (sAsg (eFz (eB semAdd (oVar 3 (oExp (eLst (aCons (eNewV [73,110,118,97,108,105,100,87,105,100,116,104,115] ["label"] (aCons (eFz (eVar 2)) aNil)) (aCons (eNewZ [73,110,118,97,108,105,100,87,111,114,100] (eFz (eVar 0))) aNil))) oNil)))) (gN 3))
  (sSeq (sAsg (eFz (eB semAdd (oVar 3 (oExp (eLst (aCons (eNewV [73,115,80,108,117,103,103,101,100] ["label"] (aCons (eFz (eVar 2)) aNil)) (aCons (eNewV [78,97,109,101,84,97,107,101,110] ["label"] (aCons (eFz (eVar 2)) aNil)) aNil))) oNil)))) (gN 3))
  (sSeq (sAsg (eFz (eB semAdd (oVar 3 (oExp (eLst (aCons (eNewV [78,111,69,110,100] ["ring"] (aCons (eFz (eLst (aCons (eVar 2) (aCons (eC (.str [98])) aNil)))) aNil)) (aCons (eNewV [78,111,116,80,108,117,103,103,101,100] ["label"] (aCons (eFz (eVar 2)) aNil)) aNil))) oNil)))) (gN 3))
  (sSeq (sAsg (eFz (eB semAdd (oVar 3 (oExp (eLst (aCons (eNewZ [78,111,116,104,105,110,103,84,111,85,110,100,111] (eFz (eVar 0))) (aCons (eNewV [83,108,111,116,84,97,107,101,110] ["label"] (aCons (eFz (eVar 2)) aNil)) aNil))) oNil)))) (gN 3))
  (sSeq (sAsg (eFz (eB semAdd (oVar 3 (oExp (eLst (aCons (eNewV [84,111,111,77,97,110,121] ["limit"] (aCons (eFz (eVar 1)) aNil)) aNil)) oNil)))) (gN 3))
  (sSeq (sFor (iRd rng1 (oExp (eC (.int 23)) oNil)) (gN 4) (sSeq (sIf (tBool (eA (semEq true) (oExp (eCall φ__law_marks (oExp (eB semIx (oVar 3 (oVar 4 oNil))) oNil)) (oExp (eComp [5] (iRd rng1 (oExp (eC (.int 23)) oNil)) (gN 5) tTrue (eA (semEq false) (oVar 5 (oVar 4 oNil)))) oNil)))) (sRet (eC (.bl false))) sNil)
  (sIf (tOr' (tNot' (tBool (eA (semIsV (isV [80,108,117,103,69,114,114,111,114])) (oExp (eB semIx (oVar 3 (oVar 4 oNil))) oNil)))) (tNot' (tBool (eA (semIsV isB) (oExp (eB semIx (oVar 3 (oVar 4 oNil))) oNil))))) (sRet (eC (.bl false))) sNil)))
  (sRet (eAnd (eCall φ__law_fields_right (oVar 1 (oVar 2 oNil))) (eA (semIn true) (oExp (eC (.bl true)) (oExp (eCall φ__law_marks (oExp (eNewZ [80,108,117,103,69,114,114,111,114] (eFz (eVar 0))) oNil)) oNil)))))))))))))))))))
@[irreducible] def φ__law_right : List O → FR := fnSem [false, false, false] 3 b__law_right
/-- law(_law_script); names ['_law_script', '_law_cells', '_law_k', '_law_bag_here', '_law_message', '_law_who'] -/
def b_law : Env → R Fl :=
  (sSeq (sAsg (eFz (eB semAdd (oExp (eB semSlNS (oVar 0 (oExp (eC (.int 8)) oNil))) (oExp (eB semMul (oExp (eLst (aCons (eC (.int 0)) aNil)) (oExp (eA semInt (oExp (eA (semEq false) (oVar 0 (oExp (eLst aNil) oNil))) oNil)) oNil))) oNil)))) (gN 1))
  (sSeq (sFor (iRd rng1 (oExp (eA semLen (oVar 1 oNil)) oNil)) (gN 2) (sSeq (sAsg (eCall φ__law_bag (oExp (eB semIx (oVar 1 (oVar 2 oNil))) (oVar 2 oNil))) (gN 3))
  (sSeq (sAsg (eFz (eB semMul (oExp (eB semIx (oExp (eC (.str [97,124,32,126])) (oExp (eCall φ__law_draw (oVar 3 (oExp (eC (.int 4)) oNil))) oNil))) (oExp (eCall φ__law_draw (oVar 3 (oExp (eC (.int 60)) oNil))) oNil)))) (gN 4))
  (sSeq (sAsg (eFz (eB semIx (oExp (eLst (aCons (eC (.str [97])) (aCons (eC (.str [122,122,57])) (aCons (eC (.str [48])) aNil)))) (oExp (eCall φ__law_draw (oVar 3 (oExp (eC (.int 3)) oNil))) oNil)))) (gN 5))
  (sIf (tNot' (tBool (eCall φ__law_right (oVar 4 (oExp (eFz (eCall φ__law_draw (oVar 3 (oExp (eA semPow (oExp (eC (.int 10)) (oExp (eC (.int 9)) oNil))) oNil)))) (oVar 5 oNil)))))) (sRet (eC (.bl false))) sNil)))))
  (sRet (eC (.bl true)))))
@[irreducible] def φ_law : List O → FR := fnSem [false] 5 b_law

end PyD.k86
end

section
set_option Elab.async false
set_option linter.all false
set_option maxRecDepth 100000
set_option maxHeartbeats 0
namespace PyD.k86
open PySem L2 PySem.Spec PyProof.Rows PyD
def top (i : Nat) : Stmt := PySem.Challenge.pw_plugnames_k86_errors_are_distinct.main.body.getD i (.Pass ⟨0, 0, 0, 0⟩)
def dd__law_bag : He.DefD := ⟨("_law_bag", none), "_law_bag", "_law_bag", defArgs (top 26), defBody (top 26), defScope (top 26), [], []⟩
def dd__law_draw : He.DefD := ⟨("_law_draw", none), "_law_draw", "_law_draw", defArgs (top 27), defBody (top 27), defScope (top 27), [], []⟩
def dd__law_marks : He.DefD := ⟨("_law_marks", none), "_law_marks", "_law_marks", defArgs (top 28), defBody (top 28), defScope (top 28), [], []⟩
def dd__law_fields_right : He.DefD := ⟨("_law_fields_right", none), "_law_fields_right", "_law_fields_right", defArgs (top 29), defBody (top 29), defScope (top 29), [], []⟩
def dd__law_right : He.DefD := ⟨("_law_right", none), "_law_right", "_law_right", defArgs (top 30), defBody (top 30), defScope (top 30), [], []⟩
def dd_law : He.DefD := ⟨("law", none), "law", "law", defArgs (top 31), defBody (top 31), defScope (top 31), [], []⟩
def fn : List He.DefD := [dd__law_bag, dd__law_draw, dd__law_marks, dd__law_fields_right, dd__law_right, dd_law]
def fa : List He.Fa := [.glo "_law_bag", .glo "_law_draw", .glo "_law_marks", .glo "_law_fields_right", .glo "_law_right", .glo "law", .free "ValueError", .free "int", .free "isinstance", .free "len", .free "range", .glo "InvalidCatalog", .glo "InvalidDevice", .glo "InvalidForest", .glo "InvalidKeys", .glo "InvalidLabel", .glo "InvalidLinks", .glo "InvalidNaming", .glo "InvalidNumber", .glo "InvalidOrder", .glo "InvalidOwners", .glo "InvalidPatterns", .glo "InvalidRules", .glo "InvalidState", .glo "InvalidText", .glo "InvalidWidths", .glo "InvalidWord", .glo "IsPlugged", .glo "NameTaken", .glo "NoEnd", .glo "NotPlugged", .glo "NothingToUndo", .glo "PlugError", .glo "SlotTaken", .glo "TooMany", .exc "InvalidDevice", .exc "InvalidKeys", .exc "InvalidNumber", .exc "InvalidOrder", .exc "InvalidState", .exc "InvalidWord", .exc "NothingToUndo", .exc "PlugError"]
def exB (K : PySem.W.Frag) : Bool := knL.all fun c => decide (excCB K (He.ga K c) = true) && (decide (PySem.W.kitOne K (.ref (He.ga K c)) (.ref (He.ga K "InvalidCatalog")) = some (c.cps.toList == [73,110,118,97,108,105,100,67,97,116,97,108,111,103] || [73,110,118,97,108,105,100,67,97,116,97,108,111,103] == [80,108,117,103,69,114,114,111,114])) && (decide (PySem.W.kitOne K (.ref (He.ga K c)) (.ref (He.ga K "InvalidDevice")) = some (c.cps.toList == [73,110,118,97,108,105,100,68,101,118,105,99,101] || [73,110,118,97,108,105,100,68,101,118,105,99,101] == [80,108,117,103,69,114,114,111,114])) && (decide (PySem.W.kitOne K (.ref (He.ga K c)) (.ref (He.ga K "InvalidForest")) = some (c.cps.toList == [73,110,118,97,108,105,100,70,111,114,101,115,116] || [73,110,118,97,108,105,100,70,111,114,101,115,116] == [80,108,117,103,69,114,114,111,114])) && (decide (PySem.W.kitOne K (.ref (He.ga K c)) (.ref (He.ga K "InvalidKeys")) = some (c.cps.toList == [73,110,118,97,108,105,100,75,101,121,115] || [73,110,118,97,108,105,100,75,101,121,115] == [80,108,117,103,69,114,114,111,114])) && (decide (PySem.W.kitOne K (.ref (He.ga K c)) (.ref (He.ga K "InvalidLabel")) = some (c.cps.toList == [73,110,118,97,108,105,100,76,97,98,101,108] || [73,110,118,97,108,105,100,76,97,98,101,108] == [80,108,117,103,69,114,114,111,114])) && (decide (PySem.W.kitOne K (.ref (He.ga K c)) (.ref (He.ga K "InvalidLinks")) = some (c.cps.toList == [73,110,118,97,108,105,100,76,105,110,107,115] || [73,110,118,97,108,105,100,76,105,110,107,115] == [80,108,117,103,69,114,114,111,114])) && (decide (PySem.W.kitOne K (.ref (He.ga K c)) (.ref (He.ga K "InvalidNaming")) = some (c.cps.toList == [73,110,118,97,108,105,100,78,97,109,105,110,103] || [73,110,118,97,108,105,100,78,97,109,105,110,103] == [80,108,117,103,69,114,114,111,114])) && (decide (PySem.W.kitOne K (.ref (He.ga K c)) (.ref (He.ga K "InvalidNumber")) = some (c.cps.toList == [73,110,118,97,108,105,100,78,117,109,98,101,114] || [73,110,118,97,108,105,100,78,117,109,98,101,114] == [80,108,117,103,69,114,114,111,114])) && (decide (PySem.W.kitOne K (.ref (He.ga K c)) (.ref (He.ga K "InvalidOrder")) = some (c.cps.toList == [73,110,118,97,108,105,100,79,114,100,101,114] || [73,110,118,97,108,105,100,79,114,100,101,114] == [80,108,117,103,69,114,114,111,114])) && (decide (PySem.W.kitOne K (.ref (He.ga K c)) (.ref (He.ga K "InvalidOwners")) = some (c.cps.toList == [73,110,118,97,108,105,100,79,119,110,101,114,115] || [73,110,118,97,108,105,100,79,119,110,101,114,115] == [80,108,117,103,69,114,114,111,114])) && (decide (PySem.W.kitOne K (.ref (He.ga K c)) (.ref (He.ga K "InvalidPatterns")) = some (c.cps.toList == [73,110,118,97,108,105,100,80,97,116,116,101,114,110,115] || [73,110,118,97,108,105,100,80,97,116,116,101,114,110,115] == [80,108,117,103,69,114,114,111,114])) && (decide (PySem.W.kitOne K (.ref (He.ga K c)) (.ref (He.ga K "InvalidRules")) = some (c.cps.toList == [73,110,118,97,108,105,100,82,117,108,101,115] || [73,110,118,97,108,105,100,82,117,108,101,115] == [80,108,117,103,69,114,114,111,114])) && (decide (PySem.W.kitOne K (.ref (He.ga K c)) (.ref (He.ga K "InvalidState")) = some (c.cps.toList == [73,110,118,97,108,105,100,83,116,97,116,101] || [73,110,118,97,108,105,100,83,116,97,116,101] == [80,108,117,103,69,114,114,111,114])) && (decide (PySem.W.kitOne K (.ref (He.ga K c)) (.ref (He.ga K "InvalidText")) = some (c.cps.toList == [73,110,118,97,108,105,100,84,101,120,116] || [73,110,118,97,108,105,100,84,101,120,116] == [80,108,117,103,69,114,114,111,114])) && (decide (PySem.W.kitOne K (.ref (He.ga K c)) (.ref (He.ga K "InvalidWidths")) = some (c.cps.toList == [73,110,118,97,108,105,100,87,105,100,116,104,115] || [73,110,118,97,108,105,100,87,105,100,116,104,115] == [80,108,117,103,69,114,114,111,114])) && (decide (PySem.W.kitOne K (.ref (He.ga K c)) (.ref (He.ga K "InvalidWord")) = some (c.cps.toList == [73,110,118,97,108,105,100,87,111,114,100] || [73,110,118,97,108,105,100,87,111,114,100] == [80,108,117,103,69,114,114,111,114])) && (decide (PySem.W.kitOne K (.ref (He.ga K c)) (.ref (He.ga K "IsPlugged")) = some (c.cps.toList == [73,115,80,108,117,103,103,101,100] || [73,115,80,108,117,103,103,101,100] == [80,108,117,103,69,114,114,111,114])) && (decide (PySem.W.kitOne K (.ref (He.ga K c)) (.ref (He.ga K "NameTaken")) = some (c.cps.toList == [78,97,109,101,84,97,107,101,110] || [78,97,109,101,84,97,107,101,110] == [80,108,117,103,69,114,114,111,114])) && (decide (PySem.W.kitOne K (.ref (He.ga K c)) (.ref (He.ga K "NoEnd")) = some (c.cps.toList == [78,111,69,110,100] || [78,111,69,110,100] == [80,108,117,103,69,114,114,111,114])) && (decide (PySem.W.kitOne K (.ref (He.ga K c)) (.ref (He.ga K "NotPlugged")) = some (c.cps.toList == [78,111,116,80,108,117,103,103,101,100] || [78,111,116,80,108,117,103,103,101,100] == [80,108,117,103,69,114,114,111,114])) && (decide (PySem.W.kitOne K (.ref (He.ga K c)) (.ref (He.ga K "NothingToUndo")) = some (c.cps.toList == [78,111,116,104,105,110,103,84,111,85,110,100,111] || [78,111,116,104,105,110,103,84,111,85,110,100,111] == [80,108,117,103,69,114,114,111,114])) && (decide (PySem.W.kitOne K (.ref (He.ga K c)) (.ref (He.ga K "PlugError")) = some (c.cps.toList == [80,108,117,103,69,114,114,111,114] || [80,108,117,103,69,114,114,111,114] == [80,108,117,103,69,114,114,111,114])) && (decide (PySem.W.kitOne K (.ref (He.ga K c)) (.ref (He.ga K "SlotTaken")) = some (c.cps.toList == [83,108,111,116,84,97,107,101,110] || [83,108,111,116,84,97,107,101,110] == [80,108,117,103,69,114,114,111,114])) && (decide (PySem.W.kitOne K (.ref (He.ga K c)) (.ref (He.ga K "TooMany")) = some (c.cps.toList == [84,111,111,77,97,110,121] || [84,111,111,77,97,110,121] == [80,108,117,103,69,114,114,111,114])) && (decide (PySem.W.kitOne K (.ref (He.ga K c)) (.type "ValueError") = some true) && (decide (PySem.W.findIn K (.ref (He.ga K c)) "index" = some none) && (decide (PySem.W.findIn K (.ref (He.ga K c)) "label" = some none) && (decide (PySem.W.findIn K (.ref (He.ga K c)) "limit" = some none) && (decide (PySem.W.findIn K (.ref (He.ga K c)) "line" = some none) && (decide (PySem.W.findIn K (.ref (He.ga K c)) "link" = some none) && (decide (PySem.W.findIn K (.ref (He.ga K c)) "ring" = some none) && (decide (PySem.W.findIn K (.ref (He.ga K c)) "word" = some none)))))))))))))))))))))))))))))))))
theorem exB_ok {K : PySem.W.Frag} (h : exB K = true) {c : Str} (m : c ∈ knL) : excCB K (He.ga K c) = true ∧ PySem.W.kitOne K (.ref (He.ga K c)) (.ref (He.ga K "InvalidCatalog")) = some (c.cps.toList == [73,110,118,97,108,105,100,67,97,116,97,108,111,103] || [73,110,118,97,108,105,100,67,97,116,97,108,111,103] == [80,108,117,103,69,114,114,111,114]) ∧ PySem.W.kitOne K (.ref (He.ga K c)) (.ref (He.ga K "InvalidDevice")) = some (c.cps.toList == [73,110,118,97,108,105,100,68,101,118,105,99,101] || [73,110,118,97,108,105,100,68,101,118,105,99,101] == [80,108,117,103,69,114,114,111,114]) ∧ PySem.W.kitOne K (.ref (He.ga K c)) (.ref (He.ga K "InvalidForest")) = some (c.cps.toList == [73,110,118,97,108,105,100,70,111,114,101,115,116] || [73,110,118,97,108,105,100,70,111,114,101,115,116] == [80,108,117,103,69,114,114,111,114]) ∧ PySem.W.kitOne K (.ref (He.ga K c)) (.ref (He.ga K "InvalidKeys")) = some (c.cps.toList == [73,110,118,97,108,105,100,75,101,121,115] || [73,110,118,97,108,105,100,75,101,121,115] == [80,108,117,103,69,114,114,111,114]) ∧ PySem.W.kitOne K (.ref (He.ga K c)) (.ref (He.ga K "InvalidLabel")) = some (c.cps.toList == [73,110,118,97,108,105,100,76,97,98,101,108] || [73,110,118,97,108,105,100,76,97,98,101,108] == [80,108,117,103,69,114,114,111,114]) ∧ PySem.W.kitOne K (.ref (He.ga K c)) (.ref (He.ga K "InvalidLinks")) = some (c.cps.toList == [73,110,118,97,108,105,100,76,105,110,107,115] || [73,110,118,97,108,105,100,76,105,110,107,115] == [80,108,117,103,69,114,114,111,114]) ∧ PySem.W.kitOne K (.ref (He.ga K c)) (.ref (He.ga K "InvalidNaming")) = some (c.cps.toList == [73,110,118,97,108,105,100,78,97,109,105,110,103] || [73,110,118,97,108,105,100,78,97,109,105,110,103] == [80,108,117,103,69,114,114,111,114]) ∧ PySem.W.kitOne K (.ref (He.ga K c)) (.ref (He.ga K "InvalidNumber")) = some (c.cps.toList == [73,110,118,97,108,105,100,78,117,109,98,101,114] || [73,110,118,97,108,105,100,78,117,109,98,101,114] == [80,108,117,103,69,114,114,111,114]) ∧ PySem.W.kitOne K (.ref (He.ga K c)) (.ref (He.ga K "InvalidOrder")) = some (c.cps.toList == [73,110,118,97,108,105,100,79,114,100,101,114] || [73,110,118,97,108,105,100,79,114,100,101,114] == [80,108,117,103,69,114,114,111,114]) ∧ PySem.W.kitOne K (.ref (He.ga K c)) (.ref (He.ga K "InvalidOwners")) = some (c.cps.toList == [73,110,118,97,108,105,100,79,119,110,101,114,115] || [73,110,118,97,108,105,100,79,119,110,101,114,115] == [80,108,117,103,69,114,114,111,114]) ∧ PySem.W.kitOne K (.ref (He.ga K c)) (.ref (He.ga K "InvalidPatterns")) = some (c.cps.toList == [73,110,118,97,108,105,100,80,97,116,116,101,114,110,115] || [73,110,118,97,108,105,100,80,97,116,116,101,114,110,115] == [80,108,117,103,69,114,114,111,114]) ∧ PySem.W.kitOne K (.ref (He.ga K c)) (.ref (He.ga K "InvalidRules")) = some (c.cps.toList == [73,110,118,97,108,105,100,82,117,108,101,115] || [73,110,118,97,108,105,100,82,117,108,101,115] == [80,108,117,103,69,114,114,111,114]) ∧ PySem.W.kitOne K (.ref (He.ga K c)) (.ref (He.ga K "InvalidState")) = some (c.cps.toList == [73,110,118,97,108,105,100,83,116,97,116,101] || [73,110,118,97,108,105,100,83,116,97,116,101] == [80,108,117,103,69,114,114,111,114]) ∧ PySem.W.kitOne K (.ref (He.ga K c)) (.ref (He.ga K "InvalidText")) = some (c.cps.toList == [73,110,118,97,108,105,100,84,101,120,116] || [73,110,118,97,108,105,100,84,101,120,116] == [80,108,117,103,69,114,114,111,114]) ∧ PySem.W.kitOne K (.ref (He.ga K c)) (.ref (He.ga K "InvalidWidths")) = some (c.cps.toList == [73,110,118,97,108,105,100,87,105,100,116,104,115] || [73,110,118,97,108,105,100,87,105,100,116,104,115] == [80,108,117,103,69,114,114,111,114]) ∧ PySem.W.kitOne K (.ref (He.ga K c)) (.ref (He.ga K "InvalidWord")) = some (c.cps.toList == [73,110,118,97,108,105,100,87,111,114,100] || [73,110,118,97,108,105,100,87,111,114,100] == [80,108,117,103,69,114,114,111,114]) ∧ PySem.W.kitOne K (.ref (He.ga K c)) (.ref (He.ga K "IsPlugged")) = some (c.cps.toList == [73,115,80,108,117,103,103,101,100] || [73,115,80,108,117,103,103,101,100] == [80,108,117,103,69,114,114,111,114]) ∧ PySem.W.kitOne K (.ref (He.ga K c)) (.ref (He.ga K "NameTaken")) = some (c.cps.toList == [78,97,109,101,84,97,107,101,110] || [78,97,109,101,84,97,107,101,110] == [80,108,117,103,69,114,114,111,114]) ∧ PySem.W.kitOne K (.ref (He.ga K c)) (.ref (He.ga K "NoEnd")) = some (c.cps.toList == [78,111,69,110,100] || [78,111,69,110,100] == [80,108,117,103,69,114,114,111,114]) ∧ PySem.W.kitOne K (.ref (He.ga K c)) (.ref (He.ga K "NotPlugged")) = some (c.cps.toList == [78,111,116,80,108,117,103,103,101,100] || [78,111,116,80,108,117,103,103,101,100] == [80,108,117,103,69,114,114,111,114]) ∧ PySem.W.kitOne K (.ref (He.ga K c)) (.ref (He.ga K "NothingToUndo")) = some (c.cps.toList == [78,111,116,104,105,110,103,84,111,85,110,100,111] || [78,111,116,104,105,110,103,84,111,85,110,100,111] == [80,108,117,103,69,114,114,111,114]) ∧ PySem.W.kitOne K (.ref (He.ga K c)) (.ref (He.ga K "PlugError")) = some (c.cps.toList == [80,108,117,103,69,114,114,111,114] || [80,108,117,103,69,114,114,111,114] == [80,108,117,103,69,114,114,111,114]) ∧ PySem.W.kitOne K (.ref (He.ga K c)) (.ref (He.ga K "SlotTaken")) = some (c.cps.toList == [83,108,111,116,84,97,107,101,110] || [83,108,111,116,84,97,107,101,110] == [80,108,117,103,69,114,114,111,114]) ∧ PySem.W.kitOne K (.ref (He.ga K c)) (.ref (He.ga K "TooMany")) = some (c.cps.toList == [84,111,111,77,97,110,121] || [84,111,111,77,97,110,121] == [80,108,117,103,69,114,114,111,114]) ∧ PySem.W.kitOne K (.ref (He.ga K c)) (.type "ValueError") = some true ∧ PySem.W.findIn K (.ref (He.ga K c)) "index" = some none ∧ PySem.W.findIn K (.ref (He.ga K c)) "label" = some none ∧ PySem.W.findIn K (.ref (He.ga K c)) "limit" = some none ∧ PySem.W.findIn K (.ref (He.ga K c)) "line" = some none ∧ PySem.W.findIn K (.ref (He.ga K c)) "link" = some none ∧ PySem.W.findIn K (.ref (He.ga K c)) "ring" = some none ∧ PySem.W.findIn K (.ref (He.ga K c)) "word" = some none := by
  have z := List.all_eq_true.mp h c m
  simp only [Bool.and_eq_true, decide_eq_true_iff] at z
  exact z
def clsBody (s : Stmt) : List Stmt := match s with
  | .ClassDef _ _ _ b _ _ _ _ _ _ _ => b
  | _ => []
def mt (i j : Nat) : Stmt := (clsBody (top i)).getD j (.Pass ⟨0, 0, 0, 0⟩)
def ini_InvalidCatalog : IniD := ⟨"InvalidCatalog", "InvalidCatalog.__init__", defArgs (mt 11 0), defBody (mt 11 0), defScope (mt 11 0), "index", "self", "index", "the value is not a catalog"⟩
theorem iniT_InvalidCatalog {P : Program} (hP : (P.main.scope.names.lookup ("super" : Str)).isSome = false) : IniTV P ini_InvalidCatalog [("index", "index")] := ⟨⟨_, _, _, _, _, _, _, _, rfl, (.cons .nil), fun L fI cda cc => ⟨_, rfl⟩⟩, ⟨_, rfl, rfl⟩, by kernel_rfl, by kernel_rfl, by kernel_rfl, by decide +kernel, rfl, by decide +kernel, rfl, rfl, fun _ _ _ _ _ _ _ _ _ _ us hl => match us, hl with | [_], _ => .of_eq rfl, fun _ _ _ _ _ _ _ _ _ _ us hl => match us, hl with | [_], _ => .of_eq rfl, by decide, by decide, by decide, by decide, hP⟩
def ini_InvalidForest : IniD := ⟨"InvalidForest", "InvalidForest.__init__", defArgs (mt 15 0), defBody (mt 15 0), defScope (mt 15 0), "label", "self", "label", "the value is not a forest"⟩
theorem iniT_InvalidForest {P : Program} (hP : (P.main.scope.names.lookup ("super" : Str)).isSome = false) : IniTV P ini_InvalidForest [("label", "label")] := ⟨⟨_, _, _, _, _, _, _, _, rfl, (.cons .nil), fun L fI cda cc => ⟨_, rfl⟩⟩, ⟨_, rfl, rfl⟩, by kernel_rfl, by kernel_rfl, by kernel_rfl, by decide +kernel, rfl, by decide +kernel, rfl, rfl, fun _ _ _ _ _ _ _ _ _ _ us hl => match us, hl with | [_], _ => .of_eq rfl, fun _ _ _ _ _ _ _ _ _ _ us hl => match us, hl with | [_], _ => .of_eq rfl, by decide, by decide, by decide, by decide, hP⟩
def ini_InvalidLabel : IniD := ⟨"InvalidLabel", "InvalidLabel.__init__", defArgs (mt 12 0), defBody (mt 12 0), defScope (mt 12 0), "label", "self", "label", "the value is not such a label"⟩
theorem iniT_InvalidLabel {P : Program} (hP : (P.main.scope.names.lookup ("super" : Str)).isSome = false) : IniTV P ini_InvalidLabel [("label", "label")] := ⟨⟨_, _, _, _, _, _, _, _, rfl, (.cons .nil), fun L fI cda cc => ⟨_, rfl⟩⟩, ⟨_, rfl, rfl⟩, by kernel_rfl, by kernel_rfl, by kernel_rfl, by decide +kernel, rfl, by decide +kernel, rfl, rfl, fun _ _ _ _ _ _ _ _ _ _ us hl => match us, hl with | [_], _ => .of_eq rfl, fun _ _ _ _ _ _ _ _ _ _ us hl => match us, hl with | [_], _ => .of_eq rfl, by decide, by decide, by decide, by decide, hP⟩
def ini_InvalidLinks : IniD := ⟨"InvalidLinks", "InvalidLinks.__init__", defArgs (mt 16 0), defBody (mt 16 0), defScope (mt 16 0), "link", "self", "link", "the value is not links of the forest"⟩
theorem iniT_InvalidLinks {P : Program} (hP : (P.main.scope.names.lookup ("super" : Str)).isSome = false) : IniTV P ini_InvalidLinks [("link", "link")] := ⟨⟨_, _, _, _, _, _, _, _, rfl, (.cons .nil), fun L fI cda cc => ⟨_, rfl⟩⟩, ⟨_, rfl, rfl⟩, by kernel_rfl, by kernel_rfl, by kernel_rfl, by decide +kernel, rfl, by decide +kernel, rfl, rfl, fun _ _ _ _ _ _ _ _ _ _ us hl => match us, hl with | [_], _ => .of_eq rfl, fun _ _ _ _ _ _ _ _ _ _ us hl => match us, hl with | [_], _ => .of_eq rfl, by decide, by decide, by decide, by decide, hP⟩
def ini_InvalidNaming : IniD := ⟨"InvalidNaming", "InvalidNaming.__init__", defArgs (mt 13 0), defBody (mt 13 0), defScope (mt 13 0), "label", "self", "label", "the value is not a naming"⟩
theorem iniT_InvalidNaming {P : Program} (hP : (P.main.scope.names.lookup ("super" : Str)).isSome = false) : IniTV P ini_InvalidNaming [("label", "label")] := ⟨⟨_, _, _, _, _, _, _, _, rfl, (.cons .nil), fun L fI cda cc => ⟨_, rfl⟩⟩, ⟨_, rfl, rfl⟩, by kernel_rfl, by kernel_rfl, by kernel_rfl, by decide +kernel, rfl, by decide +kernel, rfl, rfl, fun _ _ _ _ _ _ _ _ _ _ us hl => match us, hl with | [_], _ => .of_eq rfl, fun _ _ _ _ _ _ _ _ _ _ us hl => match us, hl with | [_], _ => .of_eq rfl, by decide, by decide, by decide, by decide, hP⟩
def ini_InvalidOwners : IniD := ⟨"InvalidOwners", "InvalidOwners.__init__", defArgs (mt 17 0), defBody (mt 17 0), defScope (mt 17 0), "link", "self", "link", "the value is not owners of the links"⟩
theorem iniT_InvalidOwners {P : Program} (hP : (P.main.scope.names.lookup ("super" : Str)).isSome = false) : IniTV P ini_InvalidOwners [("link", "link")] := ⟨⟨_, _, _, _, _, _, _, _, rfl, (.cons .nil), fun L fI cda cc => ⟨_, rfl⟩⟩, ⟨_, rfl, rfl⟩, by kernel_rfl, by kernel_rfl, by kernel_rfl, by decide +kernel, rfl, by decide +kernel, rfl, rfl, fun _ _ _ _ _ _ _ _ _ _ us hl => match us, hl with | [_], _ => .of_eq rfl, fun _ _ _ _ _ _ _ _ _ _ us hl => match us, hl with | [_], _ => .of_eq rfl, by decide, by decide, by decide, by decide, hP⟩
def ini_InvalidPatterns : IniD := ⟨"InvalidPatterns", "InvalidPatterns.__init__", defArgs (mt 9 0), defBody (mt 9 0), defScope (mt 9 0), "index", "self", "index", "the value is not a pattern or a list of patterns"⟩
theorem iniT_InvalidPatterns {P : Program} (hP : (P.main.scope.names.lookup ("super" : Str)).isSome = false) : IniTV P ini_InvalidPatterns [("index", "index")] := ⟨⟨_, _, _, _, _, _, _, _, rfl, (.cons .nil), fun L fI cda cc => ⟨_, rfl⟩⟩, ⟨_, rfl, rfl⟩, by kernel_rfl, by kernel_rfl, by kernel_rfl, by decide +kernel, rfl, by decide +kernel, rfl, rfl, fun _ _ _ _ _ _ _ _ _ _ us hl => match us, hl with | [_], _ => .of_eq rfl, fun _ _ _ _ _ _ _ _ _ _ us hl => match us, hl with | [_], _ => .of_eq rfl, by decide, by decide, by decide, by decide, hP⟩
def ini_InvalidRules : IniD := ⟨"InvalidRules", "InvalidRules.__init__", defArgs (mt 10 0), defBody (mt 10 0), defScope (mt 10 0), "index", "self", "index", "the value is not a list of rules"⟩
theorem iniT_InvalidRules {P : Program} (hP : (P.main.scope.names.lookup ("super" : Str)).isSome = false) : IniTV P ini_InvalidRules [("index", "index")] := ⟨⟨_, _, _, _, _, _, _, _, rfl, (.cons .nil), fun L fI cda cc => ⟨_, rfl⟩⟩, ⟨_, rfl, rfl⟩, by kernel_rfl, by kernel_rfl, by kernel_rfl, by decide +kernel, rfl, by decide +kernel, rfl, rfl, fun _ _ _ _ _ _ _ _ _ _ us hl => match us, hl with | [_], _ => .of_eq rfl, fun _ _ _ _ _ _ _ _ _ _ us hl => match us, hl with | [_], _ => .of_eq rfl, by decide, by decide, by decide, by decide, hP⟩
def ini_InvalidText : IniD := ⟨"InvalidText", "InvalidText.__init__", defArgs (mt 24 0), defBody (mt 24 0), defScope (mt 24 0), "line", "self", "line", "the text is not that of such a value"⟩
theorem iniT_InvalidText {P : Program} (hP : (P.main.scope.names.lookup ("super" : Str)).isSome = false) : IniTV P ini_InvalidText [("line", "line"), ("word", "word")] := ⟨⟨_, _, _, _, _, _, _, _, rfl, (.cons (.cons .nil)), fun L fI cda cc => ⟨_, rfl⟩⟩, ⟨_, rfl, rfl⟩, by kernel_rfl, by kernel_rfl, by kernel_rfl, by decide +kernel, rfl, by decide +kernel, rfl, rfl, fun _ _ _ _ _ _ _ _ _ _ us hl => match us, hl with | [_, _], _ => .of_eq rfl, fun _ _ _ _ _ _ _ _ _ _ us hl => match us, hl with | [_, _], _ => .of_eq rfl, by decide, by decide, by decide, by decide, hP⟩
def ini_InvalidWidths : IniD := ⟨"InvalidWidths", "InvalidWidths.__init__", defArgs (mt 14 0), defBody (mt 14 0), defScope (mt 14 0), "label", "self", "label", "the value is not widths of all labels"⟩
theorem iniT_InvalidWidths {P : Program} (hP : (P.main.scope.names.lookup ("super" : Str)).isSome = false) : IniTV P ini_InvalidWidths [("label", "label")] := ⟨⟨_, _, _, _, _, _, _, _, rfl, (.cons .nil), fun L fI cda cc => ⟨_, rfl⟩⟩, ⟨_, rfl, rfl⟩, by kernel_rfl, by kernel_rfl, by kernel_rfl, by decide +kernel, rfl, by decide +kernel, rfl, rfl, fun _ _ _ _ _ _ _ _ _ _ us hl => match us, hl with | [_], _ => .of_eq rfl, fun _ _ _ _ _ _ _ _ _ _ us hl => match us, hl with | [_], _ => .of_eq rfl, by decide, by decide, by decide, by decide, hP⟩
def ini_IsPlugged : IniD := ⟨"IsPlugged", "IsPlugged.__init__", defArgs (mt 20 0), defBody (mt 20 0), defScope (mt 20 0), "label", "self", "label", "the device is plugged"⟩
theorem iniT_IsPlugged {P : Program} (hP : (P.main.scope.names.lookup ("super" : Str)).isSome = false) : IniTV P ini_IsPlugged [("label", "label")] := ⟨⟨_, _, _, _, _, _, _, _, rfl, (.cons .nil), fun L fI cda cc => ⟨_, rfl⟩⟩, ⟨_, rfl, rfl⟩, by kernel_rfl, by kernel_rfl, by kernel_rfl, by decide +kernel, rfl, by decide +kernel, rfl, rfl, fun _ _ _ _ _ _ _ _ _ _ us hl => match us, hl with | [_], _ => .of_eq rfl, fun _ _ _ _ _ _ _ _ _ _ us hl => match us, hl with | [_], _ => .of_eq rfl, by decide, by decide, by decide, by decide, hP⟩
def ini_NameTaken : IniD := ⟨"NameTaken", "NameTaken.__init__", defArgs (mt 23 0), defBody (mt 23 0), defScope (mt 23 0), "label", "self", "label", "a plugged device has the same name"⟩
theorem iniT_NameTaken {P : Program} (hP : (P.main.scope.names.lookup ("super" : Str)).isSome = false) : IniTV P ini_NameTaken [("label", "label")] := ⟨⟨_, _, _, _, _, _, _, _, rfl, (.cons .nil), fun L fI cda cc => ⟨_, rfl⟩⟩, ⟨_, rfl, rfl⟩, by kernel_rfl, by kernel_rfl, by kernel_rfl, by decide +kernel, rfl, by decide +kernel, rfl, rfl, fun _ _ _ _ _ _ _ _ _ _ us hl => match us, hl with | [_], _ => .of_eq rfl, fun _ _ _ _ _ _ _ _ _ _ us hl => match us, hl with | [_], _ => .of_eq rfl, by decide, by decide, by decide, by decide, hP⟩
def ini_NoEnd : IniD := ⟨"NoEnd", "NoEnd.__init__", defArgs (mt 18 0), defBody (mt 18 0), defScope (mt 18 0), "ring", "self", "ring", "the owners are not those behind any order"⟩
theorem iniT_NoEnd {P : Program} (hP : (P.main.scope.names.lookup ("super" : Str)).isSome = false) : IniTV P ini_NoEnd [("ring", "ring")] := ⟨⟨_, _, _, _, _, _, _, _, rfl, (.cons .nil), fun L fI cda cc => ⟨_, rfl⟩⟩, ⟨_, rfl, rfl⟩, by kernel_rfl, by kernel_rfl, by kernel_rfl, by decide +kernel, rfl, by decide +kernel, rfl, rfl, fun _ _ _ _ _ _ _ _ _ _ us hl => match us, hl with | [_], _ => .of_eq rfl, fun _ _ _ _ _ _ _ _ _ _ us hl => match us, hl with | [_], _ => .of_eq rfl, by decide, by decide, by decide, by decide, hP⟩
def ini_NotPlugged : IniD := ⟨"NotPlugged", "NotPlugged.__init__", defArgs (mt 21 0), defBody (mt 21 0), defScope (mt 21 0), "label", "self", "label", "the device is not plugged"⟩
theorem iniT_NotPlugged {P : Program} (hP : (P.main.scope.names.lookup ("super" : Str)).isSome = false) : IniTV P ini_NotPlugged [("label", "label")] := ⟨⟨_, _, _, _, _, _, _, _, rfl, (.cons .nil), fun L fI cda cc => ⟨_, rfl⟩⟩, ⟨_, rfl, rfl⟩, by kernel_rfl, by kernel_rfl, by kernel_rfl, by decide +kernel, rfl, by decide +kernel, rfl, rfl, fun _ _ _ _ _ _ _ _ _ _ us hl => match us, hl with | [_], _ => .of_eq rfl, fun _ _ _ _ _ _ _ _ _ _ us hl => match us, hl with | [_], _ => .of_eq rfl, by decide, by decide, by decide, by decide, hP⟩
def ini_SlotTaken : IniD := ⟨"SlotTaken", "SlotTaken.__init__", defArgs (mt 22 0), defBody (mt 22 0), defScope (mt 22 0), "label", "self", "label", "another device is in the slot"⟩
theorem iniT_SlotTaken {P : Program} (hP : (P.main.scope.names.lookup ("super" : Str)).isSome = false) : IniTV P ini_SlotTaken [("label", "label")] := ⟨⟨_, _, _, _, _, _, _, _, rfl, (.cons .nil), fun L fI cda cc => ⟨_, rfl⟩⟩, ⟨_, rfl, rfl⟩, by kernel_rfl, by kernel_rfl, by kernel_rfl, by decide +kernel, rfl, by decide +kernel, rfl, rfl, fun _ _ _ _ _ _ _ _ _ _ us hl => match us, hl with | [_], _ => .of_eq rfl, fun _ _ _ _ _ _ _ _ _ _ us hl => match us, hl with | [_], _ => .of_eq rfl, by decide, by decide, by decide, by decide, hP⟩
def ini_TooMany : IniD := ⟨"TooMany", "TooMany.__init__", defArgs (mt 19 0), defBody (mt 19 0), defScope (mt 19 0), "limit", "self", "limit", "there are more than a limit"⟩
theorem iniT_TooMany {P : Program} (hP : (P.main.scope.names.lookup ("super" : Str)).isSome = false) : IniTV P ini_TooMany [("limit", "limit")] := ⟨⟨_, _, _, _, _, _, _, _, rfl, (.cons .nil), fun L fI cda cc => ⟨_, rfl⟩⟩, ⟨_, rfl, rfl⟩, by kernel_rfl, by kernel_rfl, by kernel_rfl, by decide +kernel, rfl, by decide +kernel, rfl, rfl, fun _ _ _ _ _ _ _ _ _ _ us hl => match us, hl with | [_], _ => .of_eq rfl, fun _ _ _ _ _ _ _ _ _ _ us hl => match us, hl with | [_], _ => .of_eq rfl, by decide, by decide, by decide, by decide, hP⟩
def ins : List IniD := [ini_InvalidCatalog, ini_InvalidForest, ini_InvalidLabel, ini_InvalidLinks, ini_InvalidNaming, ini_InvalidOwners, ini_InvalidPatterns, ini_InvalidRules, ini_InvalidText, ini_InvalidWidths, ini_IsPlugged, ini_NameTaken, ini_NoEnd, ini_NotPlugged, ini_SlotTaken, ini_TooMany]
abbrev Rr : PySem.W.OpenRow := PySem.W.OpenLaw.row PySem.Challenge.rw_plugnames_k86_errors_are_distinct
def fx (K : PySem.W.Frag) : Bool := exB K
abbrev hk : PySem.W.Hook := hookE 4 fa fn fx Rr.prog ins
def ob (s : PySem.W.SharedT) : AlE := obsEG 4 fa fn fx Rr.prog ins (HandSHeadRun.getT s)
theorem ob_eq (s : PySem.W.SharedT) : ob s = hk.obs s.abs := by
  have e : HandSHeadRun.getT s = s.abs.heap.get? := funext (HandSHeadRun.getT_eq s)
  show obsEG 4 fa fn fx Rr.prog ins (HandSHeadRun.getT s) = _
  rw [e] <;> rfl
def loose0 : List PySem.Str := ["PlugError", "InvalidWord", "InvalidDevice", "InvalidKeys", "InvalidState", "InvalidNumber", "InvalidOrder", "NothingToUndo", "InvalidPatterns", "InvalidRules", "InvalidCatalog", "InvalidLabel", "InvalidNaming", "InvalidWidths", "InvalidForest", "InvalidLinks", "InvalidOwners", "NoEnd", "TooMany", "IsPlugged", "NotPlugged", "SlotTaken", "NameTaken", "InvalidText", "_law_bag", "_law_draw", "_law_marks", "_law_fields_right", "_law_right"]
def loose : List PySem.Str := loose0
theorem hdOpt3 {σ α β γ δ ε : Type} {o : Option σ} {a : σ → α} {b : σ → β} {c : σ → γ} {d : σ → δ} {e : σ → ε} {x : α} {y : β} {z : γ} {u : δ} {v : ε} (h1 : o.map (fun s => (a s, b s)) = some (x, y)) (h2 : o.map c = some z) (h3 : o.map (fun s => (d s, e s)) = some (u, v)) : o.map (fun s => (a s, b s, ((c s, d s), e s))) = some (x, y, ((z, u), v)) := by
  cases o with
  | none => cases h1
  | some s =>
    simp only [Option.map_some, Option.some.injEq, Prod.mk.injEq] at h1 h2 h3 ⊢
    exact ⟨h1.1, h1.2, ⟨h2, h3.1⟩, h3.2⟩
noncomputable abbrev hdEnd (w : World) (os : OsState) : Option PySem.W.SharedT := HandSHeadRun.endF (HandSHeadRun.stepQ (HandSHeadRun.denQ HandSHeadRun.tabQ) Rr.prog w) 9000 Rr.prog w os
theorem hdRunA (w : World) (os : OsState) : (hdEnd w os).map (fun s => (HandSHeadRun.looksF Rr.prog (PySem.W.boot_heap w.params) s.abs, HandSHeadRun.seenQ (PySem.W.view Rr.prog [31]) loose (importedModules Rr.prog.main.body) (fun s => PySem.W.xlAt (PySem.W.view Rr.prog [31]) [] s && PySem.W.recOk Rr.toRowW.records s) s.abs)) = some (true, PySem.W.openGood (PySem.W.view Rr.prog [31]) loose) := by
  kernel_rfl
theorem hdRunB (w : World) (os : OsState) : (hdEnd w os).map (fun s => He.obsD fa fn (frE (HandSHeadRun.getT s) 4)) = some (He.valD fn) := by
  kernel_rfl
theorem hdRunC (w : World) (os : OsState) : (hdEnd w os).map (fun s => ((fx (frE (HandSHeadRun.getT s) 4) && ins.all fun d => iniB Rr.prog (frE (HandSHeadRun.getT s) 4) d), ins.map fun d => iniW (frE (HandSHeadRun.getT s) 4) d.x)) = some (true, ins.map IniD.val) := by
  kernel_rfl
theorem run (w : World) : HandSHeadRun.RunEq Rr (PySem.W.view Rr.prog [31]) hk ob 9000 loose w := by
  intro os
  exact hdOpt3 (hdRunA w os) (hdRunB w os) (hdRunC w os)
end PyD.k86
end

section
set_option Elab.async false
set_option linter.all false
set_option maxRecDepth 100000
set_option maxHeartbeats 4000000
namespace PyD.k86
variable [Om]
open PySem L2 PySem.Spec PyProof.Rows PyD
theorem vO {sc : Scope} {x : Str} (h : visB sc x = true := by kernel_rfl) : Vis sc x := vis_ok h
theorem lO {sc : Scope} {x : Str} (h : locB sc x = true := by kernel_rfl) : L2.Loc sc x := loc_ok h
theorem gO {X : Cx} {x : Str} (h : X.env.kindOf x = some .globalImplicit := by kernel_rfl) : Gl X x := gl_ok h
theorem mO {j k : Nat} {A : Around} (h : RoomG k A) (le : j ≤ k := by first | decide | omega) : RoomG j A := h.mono le
structure Gs (K : PySem.W.Frag) (mg : Str → Option Value) : Prop where
  f_ValueError : mg "ValueError" = none
  f_int : mg "int" = none
  f_isinstance : mg "isinstance" = none
  f_len : mg "len" = none
  f_range : mg "range" = none
structure Ex (P : Program) (K : PySem.W.Frag) (mg : Str → Option Value) : Prop where
  z_InvalidDevice : ExcZ K mg "InvalidDevice"
  z_InvalidKeys : ExcZ K mg "InvalidKeys"
  z_InvalidNumber : ExcZ K mg "InvalidNumber"
  z_InvalidOrder : ExcZ K mg "InvalidOrder"
  z_InvalidState : ExcZ K mg "InvalidState"
  z_InvalidWord : ExcZ K mg "InvalidWord"
  z_NothingToUndo : ExcZ K mg "NothingToUndo"
  z_PlugError : ExcZ K mg "PlugError"
  v_InvalidCatalog : ExcVI P K mg "InvalidCatalog" [("index", "index")]
  v_InvalidForest : ExcVI P K mg "InvalidForest" [("label", "label")]
  v_InvalidLabel : ExcVI P K mg "InvalidLabel" [("label", "label")]
  v_InvalidLinks : ExcVI P K mg "InvalidLinks" [("link", "link")]
  v_InvalidNaming : ExcVI P K mg "InvalidNaming" [("label", "label")]
  v_InvalidOwners : ExcVI P K mg "InvalidOwners" [("link", "link")]
  v_InvalidPatterns : ExcVI P K mg "InvalidPatterns" [("index", "index")]
  v_InvalidRules : ExcVI P K mg "InvalidRules" [("index", "index")]
  v_InvalidText : ExcVI P K mg "InvalidText" [("line", "line"), ("word", "word")]
  v_InvalidWidths : ExcVI P K mg "InvalidWidths" [("label", "label")]
  v_IsPlugged : ExcVI P K mg "IsPlugged" [("label", "label")]
  v_NameTaken : ExcVI P K mg "NameTaken" [("label", "label")]
  v_NoEnd : ExcVI P K mg "NoEnd" [("ring", "ring")]
  v_NotPlugged : ExcVI P K mg "NotPlugged" [("label", "label")]
  v_SlotTaken : ExcVI P K mg "SlotTaken" [("label", "label")]
  v_TooMany : ExcVI P K mg "TooMany" [("limit", "limit")]
  g_InvalidCatalog : mg "InvalidCatalog" = some (.ref (He.ga K "InvalidCatalog"))
  g_InvalidDevice : mg "InvalidDevice" = some (.ref (He.ga K "InvalidDevice"))
  g_InvalidForest : mg "InvalidForest" = some (.ref (He.ga K "InvalidForest"))
  g_InvalidKeys : mg "InvalidKeys" = some (.ref (He.ga K "InvalidKeys"))
  g_InvalidLabel : mg "InvalidLabel" = some (.ref (He.ga K "InvalidLabel"))
  g_InvalidLinks : mg "InvalidLinks" = some (.ref (He.ga K "InvalidLinks"))
  g_InvalidNaming : mg "InvalidNaming" = some (.ref (He.ga K "InvalidNaming"))
  g_InvalidNumber : mg "InvalidNumber" = some (.ref (He.ga K "InvalidNumber"))
  g_InvalidOrder : mg "InvalidOrder" = some (.ref (He.ga K "InvalidOrder"))
  g_InvalidOwners : mg "InvalidOwners" = some (.ref (He.ga K "InvalidOwners"))
  g_InvalidPatterns : mg "InvalidPatterns" = some (.ref (He.ga K "InvalidPatterns"))
  g_InvalidRules : mg "InvalidRules" = some (.ref (He.ga K "InvalidRules"))
  g_InvalidState : mg "InvalidState" = some (.ref (He.ga K "InvalidState"))
  g_InvalidText : mg "InvalidText" = some (.ref (He.ga K "InvalidText"))
  g_InvalidWidths : mg "InvalidWidths" = some (.ref (He.ga K "InvalidWidths"))
  g_InvalidWord : mg "InvalidWord" = some (.ref (He.ga K "InvalidWord"))
  g_IsPlugged : mg "IsPlugged" = some (.ref (He.ga K "IsPlugged"))
  g_NameTaken : mg "NameTaken" = some (.ref (He.ga K "NameTaken"))
  g_NoEnd : mg "NoEnd" = some (.ref (He.ga K "NoEnd"))
  g_NotPlugged : mg "NotPlugged" = some (.ref (He.ga K "NotPlugged"))
  g_NothingToUndo : mg "NothingToUndo" = some (.ref (He.ga K "NothingToUndo"))
  g_PlugError : mg "PlugError" = some (.ref (He.ga K "PlugError"))
  g_SlotTaken : mg "SlotTaken" = some (.ref (He.ga K "SlotTaken"))
  g_TooMany : mg "TooMany" = some (.ref (He.ga K "TooMany"))
  ec : ∀ {c : Str}, c ∈ knL → ExcC K (He.ga K c) ∧ XfC K (He.ga K c)
  k_InvalidCatalog : ∀ {c : Str}, c ∈ knL → ExcC K (He.ga K c) ∧ PySem.W.kitOne K (.ref (He.ga K c)) (.ref (He.ga K "InvalidCatalog")) = some (c.cps.toList == [73,110,118,97,108,105,100,67,97,116,97,108,111,103] || [73,110,118,97,108,105,100,67,97,116,97,108,111,103] == [80,108,117,103,69,114,114,111,114])
  k_InvalidDevice : ∀ {c : Str}, c ∈ knL → ExcC K (He.ga K c) ∧ PySem.W.kitOne K (.ref (He.ga K c)) (.ref (He.ga K "InvalidDevice")) = some (c.cps.toList == [73,110,118,97,108,105,100,68,101,118,105,99,101] || [73,110,118,97,108,105,100,68,101,118,105,99,101] == [80,108,117,103,69,114,114,111,114])
  k_InvalidForest : ∀ {c : Str}, c ∈ knL → ExcC K (He.ga K c) ∧ PySem.W.kitOne K (.ref (He.ga K c)) (.ref (He.ga K "InvalidForest")) = some (c.cps.toList == [73,110,118,97,108,105,100,70,111,114,101,115,116] || [73,110,118,97,108,105,100,70,111,114,101,115,116] == [80,108,117,103,69,114,114,111,114])
  k_InvalidKeys : ∀ {c : Str}, c ∈ knL → ExcC K (He.ga K c) ∧ PySem.W.kitOne K (.ref (He.ga K c)) (.ref (He.ga K "InvalidKeys")) = some (c.cps.toList == [73,110,118,97,108,105,100,75,101,121,115] || [73,110,118,97,108,105,100,75,101,121,115] == [80,108,117,103,69,114,114,111,114])
  k_InvalidLabel : ∀ {c : Str}, c ∈ knL → ExcC K (He.ga K c) ∧ PySem.W.kitOne K (.ref (He.ga K c)) (.ref (He.ga K "InvalidLabel")) = some (c.cps.toList == [73,110,118,97,108,105,100,76,97,98,101,108] || [73,110,118,97,108,105,100,76,97,98,101,108] == [80,108,117,103,69,114,114,111,114])
  k_InvalidLinks : ∀ {c : Str}, c ∈ knL → ExcC K (He.ga K c) ∧ PySem.W.kitOne K (.ref (He.ga K c)) (.ref (He.ga K "InvalidLinks")) = some (c.cps.toList == [73,110,118,97,108,105,100,76,105,110,107,115] || [73,110,118,97,108,105,100,76,105,110,107,115] == [80,108,117,103,69,114,114,111,114])
  k_InvalidNaming : ∀ {c : Str}, c ∈ knL → ExcC K (He.ga K c) ∧ PySem.W.kitOne K (.ref (He.ga K c)) (.ref (He.ga K "InvalidNaming")) = some (c.cps.toList == [73,110,118,97,108,105,100,78,97,109,105,110,103] || [73,110,118,97,108,105,100,78,97,109,105,110,103] == [80,108,117,103,69,114,114,111,114])
  k_InvalidNumber : ∀ {c : Str}, c ∈ knL → ExcC K (He.ga K c) ∧ PySem.W.kitOne K (.ref (He.ga K c)) (.ref (He.ga K "InvalidNumber")) = some (c.cps.toList == [73,110,118,97,108,105,100,78,117,109,98,101,114] || [73,110,118,97,108,105,100,78,117,109,98,101,114] == [80,108,117,103,69,114,114,111,114])
  k_InvalidOrder : ∀ {c : Str}, c ∈ knL → ExcC K (He.ga K c) ∧ PySem.W.kitOne K (.ref (He.ga K c)) (.ref (He.ga K "InvalidOrder")) = some (c.cps.toList == [73,110,118,97,108,105,100,79,114,100,101,114] || [73,110,118,97,108,105,100,79,114,100,101,114] == [80,108,117,103,69,114,114,111,114])
  k_InvalidOwners : ∀ {c : Str}, c ∈ knL → ExcC K (He.ga K c) ∧ PySem.W.kitOne K (.ref (He.ga K c)) (.ref (He.ga K "InvalidOwners")) = some (c.cps.toList == [73,110,118,97,108,105,100,79,119,110,101,114,115] || [73,110,118,97,108,105,100,79,119,110,101,114,115] == [80,108,117,103,69,114,114,111,114])
  k_InvalidPatterns : ∀ {c : Str}, c ∈ knL → ExcC K (He.ga K c) ∧ PySem.W.kitOne K (.ref (He.ga K c)) (.ref (He.ga K "InvalidPatterns")) = some (c.cps.toList == [73,110,118,97,108,105,100,80,97,116,116,101,114,110,115] || [73,110,118,97,108,105,100,80,97,116,116,101,114,110,115] == [80,108,117,103,69,114,114,111,114])
  k_InvalidRules : ∀ {c : Str}, c ∈ knL → ExcC K (He.ga K c) ∧ PySem.W.kitOne K (.ref (He.ga K c)) (.ref (He.ga K "InvalidRules")) = some (c.cps.toList == [73,110,118,97,108,105,100,82,117,108,101,115] || [73,110,118,97,108,105,100,82,117,108,101,115] == [80,108,117,103,69,114,114,111,114])
  k_InvalidState : ∀ {c : Str}, c ∈ knL → ExcC K (He.ga K c) ∧ PySem.W.kitOne K (.ref (He.ga K c)) (.ref (He.ga K "InvalidState")) = some (c.cps.toList == [73,110,118,97,108,105,100,83,116,97,116,101] || [73,110,118,97,108,105,100,83,116,97,116,101] == [80,108,117,103,69,114,114,111,114])
  k_InvalidText : ∀ {c : Str}, c ∈ knL → ExcC K (He.ga K c) ∧ PySem.W.kitOne K (.ref (He.ga K c)) (.ref (He.ga K "InvalidText")) = some (c.cps.toList == [73,110,118,97,108,105,100,84,101,120,116] || [73,110,118,97,108,105,100,84,101,120,116] == [80,108,117,103,69,114,114,111,114])
  k_InvalidWidths : ∀ {c : Str}, c ∈ knL → ExcC K (He.ga K c) ∧ PySem.W.kitOne K (.ref (He.ga K c)) (.ref (He.ga K "InvalidWidths")) = some (c.cps.toList == [73,110,118,97,108,105,100,87,105,100,116,104,115] || [73,110,118,97,108,105,100,87,105,100,116,104,115] == [80,108,117,103,69,114,114,111,114])
  k_InvalidWord : ∀ {c : Str}, c ∈ knL → ExcC K (He.ga K c) ∧ PySem.W.kitOne K (.ref (He.ga K c)) (.ref (He.ga K "InvalidWord")) = some (c.cps.toList == [73,110,118,97,108,105,100,87,111,114,100] || [73,110,118,97,108,105,100,87,111,114,100] == [80,108,117,103,69,114,114,111,114])
  k_IsPlugged : ∀ {c : Str}, c ∈ knL → ExcC K (He.ga K c) ∧ PySem.W.kitOne K (.ref (He.ga K c)) (.ref (He.ga K "IsPlugged")) = some (c.cps.toList == [73,115,80,108,117,103,103,101,100] || [73,115,80,108,117,103,103,101,100] == [80,108,117,103,69,114,114,111,114])
  k_NameTaken : ∀ {c : Str}, c ∈ knL → ExcC K (He.ga K c) ∧ PySem.W.kitOne K (.ref (He.ga K c)) (.ref (He.ga K "NameTaken")) = some (c.cps.toList == [78,97,109,101,84,97,107,101,110] || [78,97,109,101,84,97,107,101,110] == [80,108,117,103,69,114,114,111,114])
  k_NoEnd : ∀ {c : Str}, c ∈ knL → ExcC K (He.ga K c) ∧ PySem.W.kitOne K (.ref (He.ga K c)) (.ref (He.ga K "NoEnd")) = some (c.cps.toList == [78,111,69,110,100] || [78,111,69,110,100] == [80,108,117,103,69,114,114,111,114])
  k_NotPlugged : ∀ {c : Str}, c ∈ knL → ExcC K (He.ga K c) ∧ PySem.W.kitOne K (.ref (He.ga K c)) (.ref (He.ga K "NotPlugged")) = some (c.cps.toList == [78,111,116,80,108,117,103,103,101,100] || [78,111,116,80,108,117,103,103,101,100] == [80,108,117,103,69,114,114,111,114])
  k_NothingToUndo : ∀ {c : Str}, c ∈ knL → ExcC K (He.ga K c) ∧ PySem.W.kitOne K (.ref (He.ga K c)) (.ref (He.ga K "NothingToUndo")) = some (c.cps.toList == [78,111,116,104,105,110,103,84,111,85,110,100,111] || [78,111,116,104,105,110,103,84,111,85,110,100,111] == [80,108,117,103,69,114,114,111,114])
  k_PlugError : ∀ {c : Str}, c ∈ knL → ExcC K (He.ga K c) ∧ PySem.W.kitOne K (.ref (He.ga K c)) (.ref (He.ga K "PlugError")) = some (c.cps.toList == [80,108,117,103,69,114,114,111,114] || [80,108,117,103,69,114,114,111,114] == [80,108,117,103,69,114,114,111,114])
  k_SlotTaken : ∀ {c : Str}, c ∈ knL → ExcC K (He.ga K c) ∧ PySem.W.kitOne K (.ref (He.ga K c)) (.ref (He.ga K "SlotTaken")) = some (c.cps.toList == [83,108,111,116,84,97,107,101,110] || [83,108,111,116,84,97,107,101,110] == [80,108,117,103,69,114,114,111,114])
  k_TooMany : ∀ {c : Str}, c ∈ knL → ExcC K (He.ga K c) ∧ PySem.W.kitOne K (.ref (He.ga K c)) (.ref (He.ga K "TooMany")) = some (c.cps.toList == [84,111,111,77,97,110,121] || [84,111,111,77,97,110,121] == [80,108,117,103,69,114,114,111,114])
  b_ValueError : ∀ {c : Str}, c ∈ knL → ExcC K (He.ga K c) ∧ PySem.W.kitOne K (.ref (He.ga K c)) (.type "ValueError") = some true
  n_index : ∀ {c : Str}, c ∈ knL → PySem.W.findIn K (.ref (He.ga K c)) "index" = some none
  n_label : ∀ {c : Str}, c ∈ knL → PySem.W.findIn K (.ref (He.ga K c)) "label" = some none
  n_limit : ∀ {c : Str}, c ∈ knL → PySem.W.findIn K (.ref (He.ga K c)) "limit" = some none
  n_line : ∀ {c : Str}, c ∈ knL → PySem.W.findIn K (.ref (He.ga K c)) "line" = some none
  n_link : ∀ {c : Str}, c ∈ knL → PySem.W.findIn K (.ref (He.ga K c)) "link" = some none
  n_ring : ∀ {c : Str}, c ∈ knL → PySem.W.findIn K (.ref (He.ga K c)) "ring" = some none
  n_word : ∀ {c : Str}, c ∈ knL → PySem.W.findIn K (.ref (He.ga K c)) "word" = some none
theorem knC_mem {c : List Nat} (h : knC.contains c = true) : sOf c ∈ knL := by
  have h1 : c ∈ knC := by simpa using h
  have h2 : ∀ c ∈ knC, sOf c ∈ knL := by decide +kernel
  exact h2 c h1
theorem isV_ok {K : PySem.W.Frag} {y : List Nat} {Cy : Addr} (hk : ∀ {c : Str}, c ∈ knL → ExcC K (He.ga K c) ∧ PySem.W.kitOne K (.ref (He.ga K c)) (.ref Cy) = some (c.cps.toList == y || y == [80,108,117,103,69,114,114,111,114])) : ∀ x t C, isV y x = some t → PySem.W.nsIn K mainGlobals (sOf x) = some (some (.ref C)) → ExcC K C ∧ PySem.W.kitOne K (.ref C) (.ref Cy) = some t := by
  intro x t C h hn
  unfold isV at h
  split at h
  · rename_i m
    obtain ⟨h1, h2⟩ := hk (knC_mem m)
    rw [ga_of hn] at h1 h2
    rw [toList_sOf] at h2
    exact ⟨h1, h2.trans h⟩
  · cases h
theorem isB_ok {K : PySem.W.Frag} {T : String} (hk : ∀ {c : Str}, c ∈ knL → ExcC K (He.ga K c) ∧ PySem.W.kitOne K (.ref (He.ga K c)) (.type T) = some true) : ∀ x t C, isB x = some t → PySem.W.nsIn K mainGlobals (sOf x) = some (some (.ref C)) → ExcC K C ∧ PySem.W.kitOne K (.ref C) (.type T) = some t := by
  intro x t C h hn
  unfold isB at h
  split at h
  · rename_i m
    obtain ⟨h1, h2⟩ := hk (knC_mem m)
    rw [ga_of hn] at h1 h2
    exact ⟨h1, h2.trans h⟩
  · cases h
theorem okV_ok {K : PySem.W.Frag} {f : Str} (hk : ∀ {c : Str}, c ∈ knL → XfC K (He.ga K c) ∧ PySem.W.findIn K (.ref (He.ga K c)) f = some none) : ∀ c C, okV c = true → PySem.W.nsIn K mainGlobals (sOf c) = some (some (.ref C)) → XfC K C ∧ PySem.W.findIn K (.ref C) f = some none := by
  intro c C h hn
  have z := hk (knC_mem h)
  rw [ga_of hn] at z
  exact z
section
variable {P : Program} {w : World} {K : PySem.W.Frag} {mg : Str → Option Value} {base : Heap}
theorem nd__law_bag : (["_law_cell", "_law_k"] : List Str).Nodup := by decide +kernel
theorem sc__law_bag : FnScope ["_law_cell", "_law_k"] ["_law_cell", "_law_k"] (defScope (top 26)) := ⟨rfl, rfl, rfl, nd__law_bag, rfl, by decide +kernel, by decide +kernel⟩
theorem d__law_bag (G : Gs K mg) (Xs : Ex P K mg)  {f : Addr} (cdv : Value) (A : Around) (outer : List PySem.Env) (s : Shared) (H : Hp) (E : XK) (hrG : RoomG 0 (A.deeper (envOfC "_law_bag" (defScope (top 26)) s.heap.objs.size f cdv))) :
    SndSs 0 (cxOf (L2N.CX P w) P w K mg base ["_law_cell", "_law_k"] "_law_bag" (defScope (top 26)) f cdv A outer s H E) (prOf [false, false]) (defBody (top 26)) b__law_bag :=
  have nd := nd__law_bag
  have hr := hrG.r
  (snd_scons (snd_if (snd_tord op_ltO nomark (snd_ovar (i := 0) rfl vO (snd_oexp (snd_c (a := .int 0) pe_int trivial) snd_nil))) (snd_sone (snd_ret (snd_lst (snd_acons (snd_neg (snd_ovar (i := 0) rfl vO snd_nil)) (snd_acons (snd_add (snd_oexp (snd_mul (snd_oexp (snd_c (a := .int 37) pe_int trivial) (snd_ovar (i := 1) rfl vO snd_nil))) (snd_oexp (snd_c (a := .int 18) pe_int trivial) snd_nil))) snd_anil)) ⟨rfl, ⟨rfl, trivial⟩⟩))) snd_snil)
  (snd_sone (snd_ret (snd_lst (snd_acons (snd_var (i := 0) rfl vO) (snd_acons (snd_mul (snd_oexp (snd_c (a := .int 37) pe_int trivial) (snd_ovar (i := 1) rfl vO snd_nil))) snd_anil)) ⟨rfl, ⟨rfl, trivial⟩⟩))))
theorem c__law_bag (G : Gs K mg) (Xs : Ex P K mg)  {f : Addr} {fd : FuncData} (FD : FunD K "_law_bag" "_law_bag" (defArgs (top 26)) (defBody (top 26)) (defScope (top 26)) [] [] f fd) (hm : mg "_law_bag" = some (.ref f)) : Callee P w K mg base "_law_bag" 1 ["_law_cell", "_law_k"] φ__law_bag :=
  by unfold φ__law_bag; exact callee_of FD hm sc__law_bag rfl rfl (m := 0) (by kernel_rfl) (fun _ _ _ _ _ _ us hl => match us, hl with | [_,_], _ => rfl) fun cdv A outer s H E hr => d__law_bag G Xs  cdv A outer s H E hr
theorem nd__law_draw : (["_law_bag_here", "_law_many", "_law_digit", "_law_one"] : List Str).Nodup := by decide +kernel
theorem sc__law_draw : FnScope ["_law_bag_here", "_law_many", "_law_digit", "_law_one"] ["_law_bag_here", "_law_many"] (defScope (top 27)) := ⟨rfl, rfl, rfl, nd__law_draw, rfl, by decide +kernel, by decide +kernel⟩
theorem d__law_draw (G : Gs K mg) (Xs : Ex P K mg)  {f : Addr} (cdv : Value) (A : Around) (outer : List PySem.Env) (s : Shared) (H : Hp) (E : XK) (hrG : RoomG 0 (A.deeper (envOfC "_law_draw" (defScope (top 27)) s.heap.objs.size f cdv))) :
    SndSs 0 (cxOf (L2N.CX P w) P w K mg base ["_law_bag_here", "_law_many", "_law_digit", "_law_one"] "_law_draw" (defScope (top 27)) f cdv A outer s H E) (prOf [false, false]) (defBody (top 27)) b__law_draw :=
  have nd := nd__law_draw
  have hr := hrG.r
  (snd_scons (snd_augS (i := 0) (k := 1) rfl vO (snd_c (a := .int 1) pe_int trivial))
  (snd_scons (snd_if (snd_tord op_geO nomark (snd_oexp (snd_ix hr (snd_ovar (i := 0) rfl vO (snd_oexp (snd_c (a := .int 0) pe_int trivial) snd_nil))) (snd_oexp (snd_pow (snd_oexp (snd_c (a := .int 10) pe_int trivial) (snd_oexp (snd_c (a := .int 18) pe_int trivial) snd_nil))) snd_nil))) (snd_scons (snd_asg (snd_mod (snd_oexp (snd_tyA (blt G.f_int boot_int (by kernel_rfl) (by decide) (by decide)) call_int1 opa_int (snd_oexp (snd_ix hr (snd_ovar (i := 0) rfl vO (snd_oexp (snd_c (a := .int 0) pe_int trivial) snd_nil))) snd_nil) ⟨rfl, trivial⟩) (snd_ovar (i := 1) rfl vO snd_nil))) (snd_gn (i := 2) nd rfl lO rfl))
  (snd_scons (snd_asg (snd_div (snd_oexp (snd_ix hr (snd_ovar (i := 0) rfl vO (snd_oexp (snd_c (a := .int 0) pe_int trivial) snd_nil))) (snd_ovar (i := 1) rfl vO snd_nil))) (snd_gset (i := 0) hr rfl vO (snd_oexp (snd_c (a := .int 0) pe_int trivial) snd_nil)))
  (snd_sone (snd_ret (snd_move (i := 2) rfl vO))))) snd_snil)
  (snd_scons (snd_asg (snd_mod (snd_oexp (snd_tyA (blt G.f_int boot_int (by kernel_rfl) (by decide) (by decide)) call_int1 opa_int (snd_oexp (snd_add (snd_oexp (snd_add (snd_oexp (snd_mod (snd_oexp (snd_tyA (blt G.f_int boot_int (by kernel_rfl) (by decide) (by decide)) call_int1 opa_int (snd_oexp (snd_ix hr (snd_ovar (i := 0) rfl vO (snd_oexp (snd_c (a := .int 0) pe_int trivial) snd_nil))) snd_nil) ⟨rfl, trivial⟩) (snd_oexp (snd_c (a := .int 2147483629) pe_int trivial) snd_nil))) (snd_oexp (snd_mul (snd_oexp (snd_c (a := .int 104729) pe_int trivial) (snd_oexp (snd_ix hr (snd_ovar (i := 0) rfl vO (snd_oexp (snd_c (a := .int 1) pe_int trivial) snd_nil))) snd_nil))) snd_nil))) (snd_oexp (snd_c (a := .int 1) pe_int trivial) snd_nil))) snd_nil) ⟨rfl, trivial⟩) (snd_oexp (snd_c (a := .int 2147483587) pe_int trivial) snd_nil))) (snd_gn (i := 3) nd rfl lO rfl))
  (snd_scons (snd_asg (snd_mod (snd_oexp (snd_tyA (blt G.f_int boot_int (by kernel_rfl) (by decide) (by decide)) call_int1 opa_int (snd_oexp (snd_mul (snd_ovar (i := 3) rfl vO (snd_ovar (i := 3) rfl vO snd_nil))) snd_nil) ⟨rfl, trivial⟩) (snd_oexp (snd_c (a := .int 2147483587) pe_int trivial) snd_nil))) (snd_gn (i := 3) nd rfl lO rfl))
  (snd_scons (snd_asg (snd_mod (snd_oexp (snd_tyA (blt G.f_int boot_int (by kernel_rfl) (by decide) (by decide)) call_int1 opa_int (snd_oexp (snd_add (snd_ovar (i := 3) rfl vO (snd_oexp (snd_mul (snd_oexp (snd_c (a := .int 40692) pe_int trivial) (snd_oexp (snd_ix hr (snd_ovar (i := 0) rfl vO (snd_oexp (snd_c (a := .int 1) pe_int trivial) snd_nil))) snd_nil))) snd_nil))) snd_nil) ⟨rfl, trivial⟩) (snd_oexp (snd_c (a := .int 2147483563) pe_int trivial) snd_nil))) (snd_gn (i := 3) nd rfl lO rfl))
  (snd_scons (snd_asg (snd_mod (snd_oexp (snd_tyA (blt G.f_int boot_int (by kernel_rfl) (by decide) (by decide)) call_int1 opa_int (snd_oexp (snd_mul (snd_ovar (i := 3) rfl vO (snd_ovar (i := 3) rfl vO snd_nil))) snd_nil) ⟨rfl, trivial⟩) (snd_oexp (snd_c (a := .int 2147483563) pe_int trivial) snd_nil))) (snd_gn (i := 3) nd rfl lO rfl))
  (snd_sone (snd_ret (snd_mod (snd_oexp (snd_tyA (blt G.f_int boot_int (by kernel_rfl) (by decide) (by decide)) call_int1 opa_int (snd_oexp (snd_div (snd_ovar (i := 3) rfl vO (snd_oexp (snd_c (a := .int 8) pe_int trivial) snd_nil))) snd_nil) ⟨rfl, trivial⟩) (snd_ovar (i := 1) rfl vO snd_nil)))))))))))
theorem c__law_draw (G : Gs K mg) (Xs : Ex P K mg)  {f : Addr} {fd : FuncData} (FD : FunD K "_law_draw" "_law_draw" (defArgs (top 27)) (defBody (top 27)) (defScope (top 27)) [] [] f fd) (hm : mg "_law_draw" = some (.ref f)) : Callee P w K mg base "_law_draw" 1 ["_law_bag_here", "_law_many"] φ__law_draw :=
  by unfold φ__law_draw; exact callee_of FD hm sc__law_draw rfl rfl (m := 0) (by kernel_rfl) (fun _ _ _ _ _ _ us hl => match us, hl with | [_,_], _ => rfl) fun cdv A outer s H E hr => d__law_draw G Xs  cdv A outer s H E hr
theorem nd__law_marks : (["_law_e", "_law_marks_here"] : List Str).Nodup := by decide +kernel
theorem sc__law_marks : FnScope ["_law_e", "_law_marks_here"] ["_law_e"] (defScope (top 28)) := ⟨rfl, rfl, rfl, nd__law_marks, rfl, by decide +kernel, by decide +kernel⟩
theorem d__law_marks (G : Gs K mg) (Xs : Ex P K mg)  {f : Addr} (cdv : Value) (A : Around) (outer : List PySem.Env) (s : Shared) (H : Hp) (E : XK) (hrG : RoomG 0 (A.deeper (envOfC "_law_marks" (defScope (top 28)) s.heap.objs.size f cdv))) :
    SndSs 0 (cxOf (L2N.CX P w) P w K mg base ["_law_e", "_law_marks_here"] "_law_marks" (defScope (top 28)) f cdv A outer s H E) (prOf [false]) (defBody (top 28)) b__law_marks :=
  have nd := nd__law_marks
  have hr := hrG.r
  (snd_scons (snd_asg (snd_lst snd_anil trivial) (snd_gn (i := 1) nd rfl lO rfl))
  (snd_scons (snd_asg (snd_add (snd_ovar (i := 1) rfl vO (snd_oexp (snd_lst (snd_acons (snd_isV (isV_ok Xs.k_InvalidCatalog) ⟨gl_ok (by kernel_rfl), G.f_isinstance, boot_isinstance⟩ gO Xs.g_InvalidCatalog (snd_ovar (i := 0) rfl vO snd_nil) ⟨rfl, ⟨rfl, trivial⟩⟩) (snd_acons (snd_isV (isV_ok Xs.k_InvalidDevice) ⟨gl_ok (by kernel_rfl), G.f_isinstance, boot_isinstance⟩ gO Xs.g_InvalidDevice (snd_ovar (i := 0) rfl vO snd_nil) ⟨rfl, ⟨rfl, trivial⟩⟩) snd_anil)) ⟨rfl, ⟨rfl, trivial⟩⟩) snd_nil))) (snd_gn (i := 1) nd rfl lO rfl))
  (snd_scons (snd_asg (snd_add (snd_ovar (i := 1) rfl vO (snd_oexp (snd_lst (snd_acons (snd_isV (isV_ok Xs.k_InvalidForest) ⟨gl_ok (by kernel_rfl), G.f_isinstance, boot_isinstance⟩ gO Xs.g_InvalidForest (snd_ovar (i := 0) rfl vO snd_nil) ⟨rfl, ⟨rfl, trivial⟩⟩) (snd_acons (snd_isV (isV_ok Xs.k_InvalidKeys) ⟨gl_ok (by kernel_rfl), G.f_isinstance, boot_isinstance⟩ gO Xs.g_InvalidKeys (snd_ovar (i := 0) rfl vO snd_nil) ⟨rfl, ⟨rfl, trivial⟩⟩) snd_anil)) ⟨rfl, ⟨rfl, trivial⟩⟩) snd_nil))) (snd_gn (i := 1) nd rfl lO rfl))
  (snd_scons (snd_asg (snd_add (snd_ovar (i := 1) rfl vO (snd_oexp (snd_lst (snd_acons (snd_isV (isV_ok Xs.k_InvalidLabel) ⟨gl_ok (by kernel_rfl), G.f_isinstance, boot_isinstance⟩ gO Xs.g_InvalidLabel (snd_ovar (i := 0) rfl vO snd_nil) ⟨rfl, ⟨rfl, trivial⟩⟩) (snd_acons (snd_isV (isV_ok Xs.k_InvalidLinks) ⟨gl_ok (by kernel_rfl), G.f_isinstance, boot_isinstance⟩ gO Xs.g_InvalidLinks (snd_ovar (i := 0) rfl vO snd_nil) ⟨rfl, ⟨rfl, trivial⟩⟩) snd_anil)) ⟨rfl, ⟨rfl, trivial⟩⟩) snd_nil))) (snd_gn (i := 1) nd rfl lO rfl))
  (snd_scons (snd_asg (snd_add (snd_ovar (i := 1) rfl vO (snd_oexp (snd_lst (snd_acons (snd_isV (isV_ok Xs.k_InvalidNaming) ⟨gl_ok (by kernel_rfl), G.f_isinstance, boot_isinstance⟩ gO Xs.g_InvalidNaming (snd_ovar (i := 0) rfl vO snd_nil) ⟨rfl, ⟨rfl, trivial⟩⟩) (snd_acons (snd_isV (isV_ok Xs.k_InvalidNumber) ⟨gl_ok (by kernel_rfl), G.f_isinstance, boot_isinstance⟩ gO Xs.g_InvalidNumber (snd_ovar (i := 0) rfl vO snd_nil) ⟨rfl, ⟨rfl, trivial⟩⟩) snd_anil)) ⟨rfl, ⟨rfl, trivial⟩⟩) snd_nil))) (snd_gn (i := 1) nd rfl lO rfl))
  (snd_scons (snd_asg (snd_add (snd_ovar (i := 1) rfl vO (snd_oexp (snd_lst (snd_acons (snd_isV (isV_ok Xs.k_InvalidOrder) ⟨gl_ok (by kernel_rfl), G.f_isinstance, boot_isinstance⟩ gO Xs.g_InvalidOrder (snd_ovar (i := 0) rfl vO snd_nil) ⟨rfl, ⟨rfl, trivial⟩⟩) (snd_acons (snd_isV (isV_ok Xs.k_InvalidOwners) ⟨gl_ok (by kernel_rfl), G.f_isinstance, boot_isinstance⟩ gO Xs.g_InvalidOwners (snd_ovar (i := 0) rfl vO snd_nil) ⟨rfl, ⟨rfl, trivial⟩⟩) snd_anil)) ⟨rfl, ⟨rfl, trivial⟩⟩) snd_nil))) (snd_gn (i := 1) nd rfl lO rfl))
  (snd_scons (snd_asg (snd_add (snd_ovar (i := 1) rfl vO (snd_oexp (snd_lst (snd_acons (snd_isV (isV_ok Xs.k_InvalidPatterns) ⟨gl_ok (by kernel_rfl), G.f_isinstance, boot_isinstance⟩ gO Xs.g_InvalidPatterns (snd_ovar (i := 0) rfl vO snd_nil) ⟨rfl, ⟨rfl, trivial⟩⟩) (snd_acons (snd_isV (isV_ok Xs.k_InvalidRules) ⟨gl_ok (by kernel_rfl), G.f_isinstance, boot_isinstance⟩ gO Xs.g_InvalidRules (snd_ovar (i := 0) rfl vO snd_nil) ⟨rfl, ⟨rfl, trivial⟩⟩) snd_anil)) ⟨rfl, ⟨rfl, trivial⟩⟩) snd_nil))) (snd_gn (i := 1) nd rfl lO rfl))
  (snd_scons (snd_asg (snd_add (snd_ovar (i := 1) rfl vO (snd_oexp (snd_lst (snd_acons (snd_isV (isV_ok Xs.k_InvalidState) ⟨gl_ok (by kernel_rfl), G.f_isinstance, boot_isinstance⟩ gO Xs.g_InvalidState (snd_ovar (i := 0) rfl vO snd_nil) ⟨rfl, ⟨rfl, trivial⟩⟩) (snd_acons (snd_isV (isV_ok Xs.k_InvalidText) ⟨gl_ok (by kernel_rfl), G.f_isinstance, boot_isinstance⟩ gO Xs.g_InvalidText (snd_ovar (i := 0) rfl vO snd_nil) ⟨rfl, ⟨rfl, trivial⟩⟩) snd_anil)) ⟨rfl, ⟨rfl, trivial⟩⟩) snd_nil))) (snd_gn (i := 1) nd rfl lO rfl))
  (snd_scons (snd_asg (snd_add (snd_ovar (i := 1) rfl vO (snd_oexp (snd_lst (snd_acons (snd_isV (isV_ok Xs.k_InvalidWidths) ⟨gl_ok (by kernel_rfl), G.f_isinstance, boot_isinstance⟩ gO Xs.g_InvalidWidths (snd_ovar (i := 0) rfl vO snd_nil) ⟨rfl, ⟨rfl, trivial⟩⟩) (snd_acons (snd_isV (isV_ok Xs.k_InvalidWord) ⟨gl_ok (by kernel_rfl), G.f_isinstance, boot_isinstance⟩ gO Xs.g_InvalidWord (snd_ovar (i := 0) rfl vO snd_nil) ⟨rfl, ⟨rfl, trivial⟩⟩) snd_anil)) ⟨rfl, ⟨rfl, trivial⟩⟩) snd_nil))) (snd_gn (i := 1) nd rfl lO rfl))
  (snd_scons (snd_asg (snd_add (snd_ovar (i := 1) rfl vO (snd_oexp (snd_lst (snd_acons (snd_isV (isV_ok Xs.k_IsPlugged) ⟨gl_ok (by kernel_rfl), G.f_isinstance, boot_isinstance⟩ gO Xs.g_IsPlugged (snd_ovar (i := 0) rfl vO snd_nil) ⟨rfl, ⟨rfl, trivial⟩⟩) (snd_acons (snd_isV (isV_ok Xs.k_NameTaken) ⟨gl_ok (by kernel_rfl), G.f_isinstance, boot_isinstance⟩ gO Xs.g_NameTaken (snd_ovar (i := 0) rfl vO snd_nil) ⟨rfl, ⟨rfl, trivial⟩⟩) snd_anil)) ⟨rfl, ⟨rfl, trivial⟩⟩) snd_nil))) (snd_gn (i := 1) nd rfl lO rfl))
  (snd_scons (snd_asg (snd_add (snd_ovar (i := 1) rfl vO (snd_oexp (snd_lst (snd_acons (snd_isV (isV_ok Xs.k_NoEnd) ⟨gl_ok (by kernel_rfl), G.f_isinstance, boot_isinstance⟩ gO Xs.g_NoEnd (snd_ovar (i := 0) rfl vO snd_nil) ⟨rfl, ⟨rfl, trivial⟩⟩) (snd_acons (snd_isV (isV_ok Xs.k_NotPlugged) ⟨gl_ok (by kernel_rfl), G.f_isinstance, boot_isinstance⟩ gO Xs.g_NotPlugged (snd_ovar (i := 0) rfl vO snd_nil) ⟨rfl, ⟨rfl, trivial⟩⟩) snd_anil)) ⟨rfl, ⟨rfl, trivial⟩⟩) snd_nil))) (snd_gn (i := 1) nd rfl lO rfl))
  (snd_scons (snd_asg (snd_add (snd_ovar (i := 1) rfl vO (snd_oexp (snd_lst (snd_acons (snd_isV (isV_ok Xs.k_NothingToUndo) ⟨gl_ok (by kernel_rfl), G.f_isinstance, boot_isinstance⟩ gO Xs.g_NothingToUndo (snd_ovar (i := 0) rfl vO snd_nil) ⟨rfl, ⟨rfl, trivial⟩⟩) (snd_acons (snd_isV (isV_ok Xs.k_SlotTaken) ⟨gl_ok (by kernel_rfl), G.f_isinstance, boot_isinstance⟩ gO Xs.g_SlotTaken (snd_ovar (i := 0) rfl vO snd_nil) ⟨rfl, ⟨rfl, trivial⟩⟩) snd_anil)) ⟨rfl, ⟨rfl, trivial⟩⟩) snd_nil))) (snd_gn (i := 1) nd rfl lO rfl))
  (snd_scons (snd_asg (snd_add (snd_ovar (i := 1) rfl vO (snd_oexp (snd_lst (snd_acons (snd_isV (isV_ok Xs.k_TooMany) ⟨gl_ok (by kernel_rfl), G.f_isinstance, boot_isinstance⟩ gO Xs.g_TooMany (snd_ovar (i := 0) rfl vO snd_nil) ⟨rfl, ⟨rfl, trivial⟩⟩) snd_anil) ⟨rfl, trivial⟩) snd_nil))) (snd_gn (i := 1) nd rfl lO rfl))
  (snd_sone (snd_ret (snd_move (i := 1) rfl vO))))))))))))))))
theorem c__law_marks (G : Gs K mg) (Xs : Ex P K mg)  {f : Addr} {fd : FuncData} (FD : FunD K "_law_marks" "_law_marks" (defArgs (top 28)) (defBody (top 28)) (defScope (top 28)) [] [] f fd) (hm : mg "_law_marks" = some (.ref f)) : Callee P w K mg base "_law_marks" 1 ["_law_e"] φ__law_marks :=
  by unfold φ__law_marks; exact callee_of FD hm sc__law_marks rfl rfl (m := 0) (by kernel_rfl) (fun _ _ _ _ _ _ us hl => match us, hl with | [_], _ => rfl) fun cdv A outer s H E hr => d__law_marks G Xs  cdv A outer s H E hr
theorem nd__law_fields_right : (["_law_amount", "_law_who", "_law_values", "_law_due", "_law_first", "_law_second"] : List Str).Nodup := by decide +kernel
theorem sc__law_fields_right : FnScope ["_law_amount", "_law_who", "_law_values", "_law_due", "_law_first", "_law_second"] ["_law_amount", "_law_who"] (defScope (top 29)) := ⟨rfl, rfl, rfl, nd__law_fields_right, rfl, by decide +kernel, by decide +kernel⟩
theorem d__law_fields_right (G : Gs K mg) (Xs : Ex P K mg)  {f : Addr} (cdv : Value) (A : Around) (outer : List PySem.Env) (s : Shared) (H : Hp) (E : XK) (hrG : RoomG 1 (A.deeper (envOfC "_law_fields_right" (defScope (top 29)) s.heap.objs.size f cdv))) :
    SndSs 0 (cxOf (L2N.CX P w) P w K mg base ["_law_amount", "_law_who", "_law_values", "_law_due", "_law_first", "_law_second"] "_law_fields_right" (defScope (top 29)) f cdv A outer s H E) (prOf [false, false]) (defBody (top 29)) b__law_fields_right :=
  have nd := nd__law_fields_right
  have hr := hrG.r
  (snd_scons (snd_asg (snd_fz (snd_lst snd_anil trivial)) (snd_gn (i := 2) nd rfl lO rfl))
  (snd_scons (snd_asg (snd_fz (snd_lst snd_anil trivial)) (snd_gn (i := 3) nd rfl lO rfl))
  (snd_scons (snd_asg (snd_fz (snd_add (snd_ovar (i := 2) rfl vO (snd_oexp (snd_lst (snd_acons (snd_xv (nm := "index") (okV_ok (fun m => ⟨(Xs.ec m).2, Xs.n_index m⟩)) (snd_newI (x := "InvalidPatterns") (fs := [("index", "index")]) Xs.v_InvalidPatterns hr gO (snd_acons (snd_fz (snd_var (i := 0) rfl vO)) snd_anil) ⟨rfl, trivial⟩)) (snd_acons (snd_xv (nm := "index") (okV_ok (fun m => ⟨(Xs.ec m).2, Xs.n_index m⟩)) (snd_newKI (x := "InvalidPatterns") (fs := [("index", "index")]) Xs.v_InvalidPatterns hr gO (snd_acons (snd_fz (snd_var (i := 0) rfl vO)) snd_anil) (by kernel_rfl) (by kernel_rfl) (by kernel_rfl))) snd_anil)) ⟨rfl, ⟨rfl, trivial⟩⟩) snd_nil)))) (snd_gn (i := 2) nd rfl lO rfl))
  (snd_scons (snd_asg (snd_fz (snd_add (snd_ovar (i := 3) rfl vO (snd_oexp (snd_mul (snd_oexp (snd_lst (snd_acons (snd_var (i := 0) rfl vO) snd_anil) ⟨rfl, trivial⟩) (snd_oexp (snd_c (a := .int 2) pe_int trivial) snd_nil))) snd_nil)))) (snd_gn (i := 3) nd rfl lO rfl))
  (snd_scons (snd_asg (snd_fz (snd_add (snd_ovar (i := 2) rfl vO (snd_oexp (snd_lst (snd_acons (snd_xv (nm := "index") (okV_ok (fun m => ⟨(Xs.ec m).2, Xs.n_index m⟩)) (snd_newI (x := "InvalidRules") (fs := [("index", "index")]) Xs.v_InvalidRules hr gO (snd_acons (snd_fz (snd_var (i := 0) rfl vO)) snd_anil) ⟨rfl, trivial⟩)) (snd_acons (snd_xv (nm := "index") (okV_ok (fun m => ⟨(Xs.ec m).2, Xs.n_index m⟩)) (snd_newKI (x := "InvalidRules") (fs := [("index", "index")]) Xs.v_InvalidRules hr gO (snd_acons (snd_fz (snd_var (i := 0) rfl vO)) snd_anil) (by kernel_rfl) (by kernel_rfl) (by kernel_rfl))) snd_anil)) ⟨rfl, ⟨rfl, trivial⟩⟩) snd_nil)))) (snd_gn (i := 2) nd rfl lO rfl))
  (snd_scons (snd_asg (snd_fz (snd_add (snd_ovar (i := 3) rfl vO (snd_oexp (snd_mul (snd_oexp (snd_lst (snd_acons (snd_var (i := 0) rfl vO) snd_anil) ⟨rfl, trivial⟩) (snd_oexp (snd_c (a := .int 2) pe_int trivial) snd_nil))) snd_nil)))) (snd_gn (i := 3) nd rfl lO rfl))
  (snd_scons (snd_asg (snd_fz (snd_add (snd_ovar (i := 2) rfl vO (snd_oexp (snd_lst (snd_acons (snd_xv (nm := "index") (okV_ok (fun m => ⟨(Xs.ec m).2, Xs.n_index m⟩)) (snd_newI (x := "InvalidCatalog") (fs := [("index", "index")]) Xs.v_InvalidCatalog hr gO (snd_acons (snd_fz (snd_var (i := 0) rfl vO)) snd_anil) ⟨rfl, trivial⟩)) (snd_acons (snd_xv (nm := "index") (okV_ok (fun m => ⟨(Xs.ec m).2, Xs.n_index m⟩)) (snd_newKI (x := "InvalidCatalog") (fs := [("index", "index")]) Xs.v_InvalidCatalog hr gO (snd_acons (snd_fz (snd_var (i := 0) rfl vO)) snd_anil) (by kernel_rfl) (by kernel_rfl) (by kernel_rfl))) snd_anil)) ⟨rfl, ⟨rfl, trivial⟩⟩) snd_nil)))) (snd_gn (i := 2) nd rfl lO rfl))
  (snd_scons (snd_asg (snd_fz (snd_add (snd_ovar (i := 3) rfl vO (snd_oexp (snd_mul (snd_oexp (snd_lst (snd_acons (snd_var (i := 0) rfl vO) snd_anil) ⟨rfl, trivial⟩) (snd_oexp (snd_c (a := .int 2) pe_int trivial) snd_nil))) snd_nil)))) (snd_gn (i := 3) nd rfl lO rfl))
  (snd_scons (snd_asg (snd_fz (snd_add (snd_ovar (i := 2) rfl vO (snd_oexp (snd_lst (snd_acons (snd_xv (nm := "label") (okV_ok (fun m => ⟨(Xs.ec m).2, Xs.n_label m⟩)) (snd_newI (x := "InvalidLabel") (fs := [("label", "label")]) Xs.v_InvalidLabel hr gO (snd_acons (snd_fz (snd_var (i := 1) rfl vO)) snd_anil) ⟨rfl, trivial⟩)) (snd_acons (snd_xv (nm := "label") (okV_ok (fun m => ⟨(Xs.ec m).2, Xs.n_label m⟩)) (snd_newKI (x := "InvalidLabel") (fs := [("label", "label")]) Xs.v_InvalidLabel hr gO (snd_acons (snd_fz (snd_var (i := 1) rfl vO)) snd_anil) (by kernel_rfl) (by kernel_rfl) (by kernel_rfl))) snd_anil)) ⟨rfl, ⟨rfl, trivial⟩⟩) snd_nil)))) (snd_gn (i := 2) nd rfl lO rfl))
  (snd_scons (snd_asg (snd_fz (snd_add (snd_ovar (i := 3) rfl vO (snd_oexp (snd_mul (snd_oexp (snd_lst (snd_acons (snd_var (i := 1) rfl vO) snd_anil) ⟨rfl, trivial⟩) (snd_oexp (snd_c (a := .int 2) pe_int trivial) snd_nil))) snd_nil)))) (snd_gn (i := 3) nd rfl lO rfl))
  (snd_scons (snd_asg (snd_fz (snd_add (snd_ovar (i := 2) rfl vO (snd_oexp (snd_lst (snd_acons (snd_xv (nm := "label") (okV_ok (fun m => ⟨(Xs.ec m).2, Xs.n_label m⟩)) (snd_newI (x := "InvalidNaming") (fs := [("label", "label")]) Xs.v_InvalidNaming hr gO (snd_acons (snd_fz (snd_var (i := 1) rfl vO)) snd_anil) ⟨rfl, trivial⟩)) (snd_acons (snd_xv (nm := "label") (okV_ok (fun m => ⟨(Xs.ec m).2, Xs.n_label m⟩)) (snd_newKI (x := "InvalidNaming") (fs := [("label", "label")]) Xs.v_InvalidNaming hr gO (snd_acons (snd_fz (snd_var (i := 1) rfl vO)) snd_anil) (by kernel_rfl) (by kernel_rfl) (by kernel_rfl))) snd_anil)) ⟨rfl, ⟨rfl, trivial⟩⟩) snd_nil)))) (snd_gn (i := 2) nd rfl lO rfl))
  (snd_scons (snd_asg (snd_fz (snd_add (snd_ovar (i := 3) rfl vO (snd_oexp (snd_mul (snd_oexp (snd_lst (snd_acons (snd_var (i := 1) rfl vO) snd_anil) ⟨rfl, trivial⟩) (snd_oexp (snd_c (a := .int 2) pe_int trivial) snd_nil))) snd_nil)))) (snd_gn (i := 3) nd rfl lO rfl))
  (snd_scons (snd_asg (snd_fz (snd_add (snd_ovar (i := 2) rfl vO (snd_oexp (snd_lst (snd_acons (snd_xv (nm := "label") (okV_ok (fun m => ⟨(Xs.ec m).2, Xs.n_label m⟩)) (snd_newI (x := "InvalidWidths") (fs := [("label", "label")]) Xs.v_InvalidWidths hr gO (snd_acons (snd_fz (snd_var (i := 1) rfl vO)) snd_anil) ⟨rfl, trivial⟩)) (snd_acons (snd_xv (nm := "label") (okV_ok (fun m => ⟨(Xs.ec m).2, Xs.n_label m⟩)) (snd_newKI (x := "InvalidWidths") (fs := [("label", "label")]) Xs.v_InvalidWidths hr gO (snd_acons (snd_fz (snd_var (i := 1) rfl vO)) snd_anil) (by kernel_rfl) (by kernel_rfl) (by kernel_rfl))) snd_anil)) ⟨rfl, ⟨rfl, trivial⟩⟩) snd_nil)))) (snd_gn (i := 2) nd rfl lO rfl))
  (snd_scons (snd_asg (snd_fz (snd_add (snd_ovar (i := 3) rfl vO (snd_oexp (snd_mul (snd_oexp (snd_lst (snd_acons (snd_var (i := 1) rfl vO) snd_anil) ⟨rfl, trivial⟩) (snd_oexp (snd_c (a := .int 2) pe_int trivial) snd_nil))) snd_nil)))) (snd_gn (i := 3) nd rfl lO rfl))
  (snd_scons (snd_asg (snd_fz (snd_add (snd_ovar (i := 2) rfl vO (snd_oexp (snd_lst (snd_acons (snd_xv (nm := "label") (okV_ok (fun m => ⟨(Xs.ec m).2, Xs.n_label m⟩)) (snd_newI (x := "InvalidForest") (fs := [("label", "label")]) Xs.v_InvalidForest hr gO (snd_acons (snd_fz (snd_var (i := 1) rfl vO)) snd_anil) ⟨rfl, trivial⟩)) (snd_acons (snd_xv (nm := "label") (okV_ok (fun m => ⟨(Xs.ec m).2, Xs.n_label m⟩)) (snd_newKI (x := "InvalidForest") (fs := [("label", "label")]) Xs.v_InvalidForest hr gO (snd_acons (snd_fz (snd_var (i := 1) rfl vO)) snd_anil) (by kernel_rfl) (by kernel_rfl) (by kernel_rfl))) snd_anil)) ⟨rfl, ⟨rfl, trivial⟩⟩) snd_nil)))) (snd_gn (i := 2) nd rfl lO rfl))
  (snd_scons (snd_asg (snd_fz (snd_add (snd_ovar (i := 3) rfl vO (snd_oexp (snd_mul (snd_oexp (snd_lst (snd_acons (snd_var (i := 1) rfl vO) snd_anil) ⟨rfl, trivial⟩) (snd_oexp (snd_c (a := .int 2) pe_int trivial) snd_nil))) snd_nil)))) (snd_gn (i := 3) nd rfl lO rfl))
  (snd_scons (snd_asg (snd_fz (snd_add (snd_ovar (i := 2) rfl vO (snd_oexp (snd_lst (snd_acons (snd_xv (nm := "label") (okV_ok (fun m => ⟨(Xs.ec m).2, Xs.n_label m⟩)) (snd_newI (x := "IsPlugged") (fs := [("label", "label")]) Xs.v_IsPlugged hr gO (snd_acons (snd_fz (snd_var (i := 1) rfl vO)) snd_anil) ⟨rfl, trivial⟩)) (snd_acons (snd_xv (nm := "label") (okV_ok (fun m => ⟨(Xs.ec m).2, Xs.n_label m⟩)) (snd_newKI (x := "IsPlugged") (fs := [("label", "label")]) Xs.v_IsPlugged hr gO (snd_acons (snd_fz (snd_var (i := 1) rfl vO)) snd_anil) (by kernel_rfl) (by kernel_rfl) (by kernel_rfl))) snd_anil)) ⟨rfl, ⟨rfl, trivial⟩⟩) snd_nil)))) (snd_gn (i := 2) nd rfl lO rfl))
  (snd_scons (snd_asg (snd_fz (snd_add (snd_ovar (i := 3) rfl vO (snd_oexp (snd_mul (snd_oexp (snd_lst (snd_acons (snd_var (i := 1) rfl vO) snd_anil) ⟨rfl, trivial⟩) (snd_oexp (snd_c (a := .int 2) pe_int trivial) snd_nil))) snd_nil)))) (snd_gn (i := 3) nd rfl lO rfl))
  (snd_scons (snd_asg (snd_fz (snd_add (snd_ovar (i := 2) rfl vO (snd_oexp (snd_lst (snd_acons (snd_xv (nm := "label") (okV_ok (fun m => ⟨(Xs.ec m).2, Xs.n_label m⟩)) (snd_newI (x := "NotPlugged") (fs := [("label", "label")]) Xs.v_NotPlugged hr gO (snd_acons (snd_fz (snd_var (i := 1) rfl vO)) snd_anil) ⟨rfl, trivial⟩)) (snd_acons (snd_xv (nm := "label") (okV_ok (fun m => ⟨(Xs.ec m).2, Xs.n_label m⟩)) (snd_newKI (x := "NotPlugged") (fs := [("label", "label")]) Xs.v_NotPlugged hr gO (snd_acons (snd_fz (snd_var (i := 1) rfl vO)) snd_anil) (by kernel_rfl) (by kernel_rfl) (by kernel_rfl))) snd_anil)) ⟨rfl, ⟨rfl, trivial⟩⟩) snd_nil)))) (snd_gn (i := 2) nd rfl lO rfl))
  (snd_scons (snd_asg (snd_fz (snd_add (snd_ovar (i := 3) rfl vO (snd_oexp (snd_mul (snd_oexp (snd_lst (snd_acons (snd_var (i := 1) rfl vO) snd_anil) ⟨rfl, trivial⟩) (snd_oexp (snd_c (a := .int 2) pe_int trivial) snd_nil))) snd_nil)))) (snd_gn (i := 3) nd rfl lO rfl))
  (snd_scons (snd_asg (snd_fz (snd_add (snd_ovar (i := 2) rfl vO (snd_oexp (snd_lst (snd_acons (snd_xv (nm := "label") (okV_ok (fun m => ⟨(Xs.ec m).2, Xs.n_label m⟩)) (snd_newI (x := "SlotTaken") (fs := [("label", "label")]) Xs.v_SlotTaken hr gO (snd_acons (snd_fz (snd_var (i := 1) rfl vO)) snd_anil) ⟨rfl, trivial⟩)) (snd_acons (snd_xv (nm := "label") (okV_ok (fun m => ⟨(Xs.ec m).2, Xs.n_label m⟩)) (snd_newKI (x := "SlotTaken") (fs := [("label", "label")]) Xs.v_SlotTaken hr gO (snd_acons (snd_fz (snd_var (i := 1) rfl vO)) snd_anil) (by kernel_rfl) (by kernel_rfl) (by kernel_rfl))) snd_anil)) ⟨rfl, ⟨rfl, trivial⟩⟩) snd_nil)))) (snd_gn (i := 2) nd rfl lO rfl))
  (snd_scons (snd_asg (snd_fz (snd_add (snd_ovar (i := 3) rfl vO (snd_oexp (snd_mul (snd_oexp (snd_lst (snd_acons (snd_var (i := 1) rfl vO) snd_anil) ⟨rfl, trivial⟩) (snd_oexp (snd_c (a := .int 2) pe_int trivial) snd_nil))) snd_nil)))) (snd_gn (i := 3) nd rfl lO rfl))
  (snd_scons (snd_asg (snd_fz (snd_add (snd_ovar (i := 2) rfl vO (snd_oexp (snd_lst (snd_acons (snd_xv (nm := "label") (okV_ok (fun m => ⟨(Xs.ec m).2, Xs.n_label m⟩)) (snd_newI (x := "NameTaken") (fs := [("label", "label")]) Xs.v_NameTaken hr gO (snd_acons (snd_fz (snd_var (i := 1) rfl vO)) snd_anil) ⟨rfl, trivial⟩)) (snd_acons (snd_xv (nm := "label") (okV_ok (fun m => ⟨(Xs.ec m).2, Xs.n_label m⟩)) (snd_newKI (x := "NameTaken") (fs := [("label", "label")]) Xs.v_NameTaken hr gO (snd_acons (snd_fz (snd_var (i := 1) rfl vO)) snd_anil) (by kernel_rfl) (by kernel_rfl) (by kernel_rfl))) snd_anil)) ⟨rfl, ⟨rfl, trivial⟩⟩) snd_nil)))) (snd_gn (i := 2) nd rfl lO rfl))
  (snd_scons (snd_asg (snd_fz (snd_add (snd_ovar (i := 3) rfl vO (snd_oexp (snd_mul (snd_oexp (snd_lst (snd_acons (snd_var (i := 1) rfl vO) snd_anil) ⟨rfl, trivial⟩) (snd_oexp (snd_c (a := .int 2) pe_int trivial) snd_nil))) snd_nil)))) (snd_gn (i := 3) nd rfl lO rfl))
  (snd_scons (snd_asg (snd_fz (snd_add (snd_ovar (i := 2) rfl vO (snd_oexp (snd_lst (snd_acons (snd_xv (nm := "link") (okV_ok (fun m => ⟨(Xs.ec m).2, Xs.n_link m⟩)) (snd_newI (x := "InvalidLinks") (fs := [("link", "link")]) Xs.v_InvalidLinks hr gO (snd_acons (snd_fz (snd_var (i := 1) rfl vO)) snd_anil) ⟨rfl, trivial⟩)) (snd_acons (snd_xv (nm := "link") (okV_ok (fun m => ⟨(Xs.ec m).2, Xs.n_link m⟩)) (snd_newKI (x := "InvalidLinks") (fs := [("link", "link")]) Xs.v_InvalidLinks hr gO (snd_acons (snd_fz (snd_var (i := 1) rfl vO)) snd_anil) (by kernel_rfl) (by kernel_rfl) (by kernel_rfl))) snd_anil)) ⟨rfl, ⟨rfl, trivial⟩⟩) snd_nil)))) (snd_gn (i := 2) nd rfl lO rfl))
  (snd_scons (snd_asg (snd_fz (snd_add (snd_ovar (i := 3) rfl vO (snd_oexp (snd_mul (snd_oexp (snd_lst (snd_acons (snd_var (i := 1) rfl vO) snd_anil) ⟨rfl, trivial⟩) (snd_oexp (snd_c (a := .int 2) pe_int trivial) snd_nil))) snd_nil)))) (snd_gn (i := 3) nd rfl lO rfl))
  (snd_scons (snd_asg (snd_fz (snd_add (snd_ovar (i := 2) rfl vO (snd_oexp (snd_lst (snd_acons (snd_xv (nm := "link") (okV_ok (fun m => ⟨(Xs.ec m).2, Xs.n_link m⟩)) (snd_newI (x := "InvalidOwners") (fs := [("link", "link")]) Xs.v_InvalidOwners hr gO (snd_acons (snd_fz (snd_var (i := 1) rfl vO)) snd_anil) ⟨rfl, trivial⟩)) (snd_acons (snd_xv (nm := "link") (okV_ok (fun m => ⟨(Xs.ec m).2, Xs.n_link m⟩)) (snd_newKI (x := "InvalidOwners") (fs := [("link", "link")]) Xs.v_InvalidOwners hr gO (snd_acons (snd_fz (snd_var (i := 1) rfl vO)) snd_anil) (by kernel_rfl) (by kernel_rfl) (by kernel_rfl))) snd_anil)) ⟨rfl, ⟨rfl, trivial⟩⟩) snd_nil)))) (snd_gn (i := 2) nd rfl lO rfl))
  (snd_scons (snd_asg (snd_fz (snd_add (snd_ovar (i := 3) rfl vO (snd_oexp (snd_mul (snd_oexp (snd_lst (snd_acons (snd_var (i := 1) rfl vO) snd_anil) ⟨rfl, trivial⟩) (snd_oexp (snd_c (a := .int 2) pe_int trivial) snd_nil))) snd_nil)))) (snd_gn (i := 3) nd rfl lO rfl))
  (snd_scons (snd_asg (snd_fz (snd_add (snd_ovar (i := 2) rfl vO (snd_oexp (snd_lst (snd_acons (snd_xv (nm := "ring") (okV_ok (fun m => ⟨(Xs.ec m).2, Xs.n_ring m⟩)) (snd_newI (x := "NoEnd") (fs := [("ring", "ring")]) Xs.v_NoEnd hr gO (snd_acons (snd_fz (snd_lst (snd_acons (snd_var (i := 1) rfl vO) (snd_acons (snd_cstr (l := [98]) (by kernel_rfl) (by kernel_rfl)) snd_anil)) ⟨rfl, ⟨rfl, trivial⟩⟩)) snd_anil) ⟨rfl, trivial⟩)) (snd_acons (snd_xv (nm := "ring") (okV_ok (fun m => ⟨(Xs.ec m).2, Xs.n_ring m⟩)) (snd_newKI (x := "NoEnd") (fs := [("ring", "ring")]) Xs.v_NoEnd hr gO (snd_acons (snd_fz (snd_lst (snd_acons (snd_var (i := 1) rfl vO) (snd_acons (snd_cstr (l := [98]) (by kernel_rfl) (by kernel_rfl)) snd_anil)) ⟨rfl, ⟨rfl, trivial⟩⟩)) snd_anil) (by kernel_rfl) (by kernel_rfl) (by kernel_rfl))) snd_anil)) ⟨rfl, ⟨rfl, trivial⟩⟩) snd_nil)))) (snd_gn (i := 2) nd rfl lO rfl))
  (snd_scons (snd_asg (snd_fz (snd_add (snd_ovar (i := 3) rfl vO (snd_oexp (snd_mul (snd_oexp (snd_lst (snd_acons (snd_lst (snd_acons (snd_var (i := 1) rfl vO) (snd_acons (snd_cstr (l := [98]) (by kernel_rfl) (by kernel_rfl)) snd_anil)) ⟨rfl, ⟨rfl, trivial⟩⟩) snd_anil) ⟨rfl, trivial⟩) (snd_oexp (snd_c (a := .int 2) pe_int trivial) snd_nil))) snd_nil)))) (snd_gn (i := 3) nd rfl lO rfl))
  (snd_scons (snd_asg (snd_fz (snd_add (snd_ovar (i := 2) rfl vO (snd_oexp (snd_lst (snd_acons (snd_xv (nm := "limit") (okV_ok (fun m => ⟨(Xs.ec m).2, Xs.n_limit m⟩)) (snd_newI (x := "TooMany") (fs := [("limit", "limit")]) Xs.v_TooMany hr gO (snd_acons (snd_fz (snd_var (i := 0) rfl vO)) snd_anil) ⟨rfl, trivial⟩)) (snd_acons (snd_xv (nm := "limit") (okV_ok (fun m => ⟨(Xs.ec m).2, Xs.n_limit m⟩)) (snd_newKI (x := "TooMany") (fs := [("limit", "limit")]) Xs.v_TooMany hr gO (snd_acons (snd_fz (snd_var (i := 0) rfl vO)) snd_anil) (by kernel_rfl) (by kernel_rfl) (by kernel_rfl))) snd_anil)) ⟨rfl, ⟨rfl, trivial⟩⟩) snd_nil)))) (snd_gn (i := 2) nd rfl lO rfl))
  (snd_scons (snd_asg (snd_fz (snd_add (snd_ovar (i := 3) rfl vO (snd_oexp (snd_mul (snd_oexp (snd_lst (snd_acons (snd_var (i := 0) rfl vO) snd_anil) ⟨rfl, trivial⟩) (snd_oexp (snd_c (a := .int 2) pe_int trivial) snd_nil))) snd_nil)))) (snd_gn (i := 3) nd rfl lO rfl))
  (snd_scons (snd_par2 (i := 4) (j := 5) rfl nd rfl rfl (by decide) (by kernel_rfl) (by kernel_rfl) (snd_acons (snd_newI (x := "InvalidText") (fs := [("line", "line"), ("word", "word")]) Xs.v_InvalidText hr gO (snd_acons (snd_fz (snd_var (i := 0) rfl vO)) (snd_acons (snd_fz (snd_add (snd_ovar (i := 0) rfl vO (snd_oexp (snd_c (a := .int 1) pe_int trivial) snd_nil)))) snd_anil)) ⟨rfl, ⟨rfl, trivial⟩⟩) (snd_acons (snd_newKI (x := "InvalidText") (fs := [("line", "line"), ("word", "word")]) Xs.v_InvalidText hr gO (snd_acons (snd_fz (snd_var (i := 0) rfl vO)) (snd_acons (snd_fz (snd_add (snd_ovar (i := 0) rfl vO (snd_oexp (snd_c (a := .int 1) pe_int trivial) snd_nil)))) snd_anil)) (by kernel_rfl) (by kernel_rfl) (by kernel_rfl)) snd_anil)) ⟨rfl, ⟨rfl, trivial⟩⟩ rfl rfl (by kernel_rfl))
  (snd_scons (snd_asg (snd_fz (snd_add (snd_ovar (i := 2) rfl vO (snd_oexp (snd_lst (snd_acons (snd_xv (nm := "line") (okV_ok (fun m => ⟨(Xs.ec m).2, Xs.n_line m⟩)) (snd_var (i := 4) rfl vO)) (snd_acons (snd_xv (nm := "line") (okV_ok (fun m => ⟨(Xs.ec m).2, Xs.n_line m⟩)) (snd_var (i := 5) rfl vO)) (snd_acons (snd_xv (nm := "word") (okV_ok (fun m => ⟨(Xs.ec m).2, Xs.n_word m⟩)) (snd_var (i := 4) rfl vO)) (snd_acons (snd_xv (nm := "word") (okV_ok (fun m => ⟨(Xs.ec m).2, Xs.n_word m⟩)) (snd_var (i := 5) rfl vO)) snd_anil)))) ⟨rfl, ⟨rfl, ⟨rfl, ⟨rfl, trivial⟩⟩⟩⟩) snd_nil)))) (snd_gn (i := 2) nd rfl lO rfl))
  (snd_scons (snd_asg (snd_fz (snd_add (snd_oexp (snd_add (snd_ovar (i := 3) rfl vO (snd_oexp (snd_mul (snd_oexp (snd_lst (snd_acons (snd_var (i := 0) rfl vO) snd_anil) ⟨rfl, trivial⟩) (snd_oexp (snd_c (a := .int 2) pe_int trivial) snd_nil))) snd_nil))) (snd_oexp (snd_mul (snd_oexp (snd_lst (snd_acons (snd_add (snd_ovar (i := 0) rfl vO (snd_oexp (snd_c (a := .int 1) pe_int trivial) snd_nil))) snd_anil) ⟨rfl, trivial⟩) (snd_oexp (snd_c (a := .int 2) pe_int trivial) snd_nil))) snd_nil)))) (snd_gn (i := 3) nd rfl lO rfl))
  (snd_sone (snd_ret (snd_eq hr (snd_ovar (i := 2) rfl vO (snd_ovar (i := 3) rfl vO snd_nil))))))))))))))))))))))))))))))))))))))))
theorem c__law_fields_right (G : Gs K mg) (Xs : Ex P K mg)  {f : Addr} {fd : FuncData} (FD : FunD K "_law_fields_right" "_law_fields_right" (defArgs (top 29)) (defBody (top 29)) (defScope (top 29)) [] [] f fd) (hm : mg "_law_fields_right" = some (.ref f)) : Callee P w K mg base "_law_fields_right" 2 ["_law_amount", "_law_who"] φ__law_fields_right :=
  by unfold φ__law_fields_right; exact callee_of FD hm sc__law_fields_right rfl rfl (m := 0) (by kernel_rfl) (fun _ _ _ _ _ _ us hl => match us, hl with | [_,_], _ => rfl) fun cdv A outer s H E hr => d__law_fields_right G Xs  cdv A outer s H E hr
theorem nd__law_right : (["_law_message", "_law_amount", "_law_who", "_law_some", "_law_k", "_law_other"] : List Str).Nodup := by decide +kernel
theorem sc__law_right : FnScope ["_law_message", "_law_amount", "_law_who", "_law_some", "_law_k", "_law_other"] ["_law_message", "_law_amount", "_law_who"] (defScope (top 30)) := ⟨rfl, rfl, rfl, nd__law_right, rfl, by decide +kernel, by decide +kernel⟩
theorem d__law_right (G : Gs K mg) (Xs : Ex P K mg) (C__law_marks : Callee P w K mg base "_law_marks" 1 ["_law_e"] φ__law_marks) (C__law_fields_right : Callee P w K mg base "_law_fields_right" 2 ["_law_amount", "_law_who"] φ__law_fields_right) {f : Addr} (cdv : Value) (A : Around) (outer : List PySem.Env) (s : Shared) (H : Hp) (E : XK) (hrG : RoomG 2 (A.deeper (envOfC "_law_right" (defScope (top 30)) s.heap.objs.size f cdv))) :
    SndSs 0 (cxOf (L2N.CX P w) P w K mg base ["_law_message", "_law_amount", "_law_who", "_law_some", "_law_k", "_law_other"] "_law_right" (defScope (top 30)) f cdv A outer s H E) (prOf [false, false, false]) (defBody (top 30)) b__law_right :=
  have nd := nd__law_right
  have hr := hrG.r
  (snd_scons (snd_asg (snd_fz (snd_lst snd_anil trivial)) (snd_gn (i := 3) nd rfl lO rfl))
  (snd_scons (snd_asg (snd_fz (snd_add (snd_ovar (i := 3) rfl vO (snd_oexp (snd_lst (snd_acons (snd_newI (x := "InvalidCatalog") (fs := [("index", "index")]) Xs.v_InvalidCatalog hr gO (snd_acons (snd_fz (snd_var (i := 1) rfl vO)) snd_anil) ⟨rfl, trivial⟩) (snd_acons (snd_newZI (x := "InvalidDevice") Xs.z_InvalidDevice gO (snd_fz (snd_var (i := 0) rfl vO))) snd_anil)) ⟨rfl, ⟨rfl, trivial⟩⟩) snd_nil)))) (snd_gn (i := 3) nd rfl lO rfl))
  (snd_scons (snd_asg (snd_fz (snd_add (snd_ovar (i := 3) rfl vO (snd_oexp (snd_lst (snd_acons (snd_newI (x := "InvalidForest") (fs := [("label", "label")]) Xs.v_InvalidForest hr gO (snd_acons (snd_fz (snd_var (i := 2) rfl vO)) snd_anil) ⟨rfl, trivial⟩) (snd_acons (snd_newZI (x := "InvalidKeys") Xs.z_InvalidKeys gO (snd_fz (snd_var (i := 0) rfl vO))) snd_anil)) ⟨rfl, ⟨rfl, trivial⟩⟩) snd_nil)))) (snd_gn (i := 3) nd rfl lO rfl))
  (snd_scons (snd_asg (snd_fz (snd_add (snd_ovar (i := 3) rfl vO (snd_oexp (snd_lst (snd_acons (snd_newI (x := "InvalidLabel") (fs := [("label", "label")]) Xs.v_InvalidLabel hr gO (snd_acons (snd_fz (snd_var (i := 2) rfl vO)) snd_anil) ⟨rfl, trivial⟩) (snd_acons (snd_newI (x := "InvalidLinks") (fs := [("link", "link")]) Xs.v_InvalidLinks hr gO (snd_acons (snd_fz (snd_var (i := 2) rfl vO)) snd_anil) ⟨rfl, trivial⟩) snd_anil)) ⟨rfl, ⟨rfl, trivial⟩⟩) snd_nil)))) (snd_gn (i := 3) nd rfl lO rfl))
  (snd_scons (snd_asg (snd_fz (snd_add (snd_ovar (i := 3) rfl vO (snd_oexp (snd_lst (snd_acons (snd_newI (x := "InvalidNaming") (fs := [("label", "label")]) Xs.v_InvalidNaming hr gO (snd_acons (snd_fz (snd_var (i := 2) rfl vO)) snd_anil) ⟨rfl, trivial⟩) (snd_acons (snd_newZI (x := "InvalidNumber") Xs.z_InvalidNumber gO (snd_fz (snd_var (i := 0) rfl vO))) snd_anil)) ⟨rfl, ⟨rfl, trivial⟩⟩) snd_nil)))) (snd_gn (i := 3) nd rfl lO rfl))
  (snd_scons (snd_asg (snd_fz (snd_add (snd_ovar (i := 3) rfl vO (snd_oexp (snd_lst (snd_acons (snd_newZI (x := "InvalidOrder") Xs.z_InvalidOrder gO (snd_fz (snd_var (i := 0) rfl vO))) (snd_acons (snd_newI (x := "InvalidOwners") (fs := [("link", "link")]) Xs.v_InvalidOwners hr gO (snd_acons (snd_fz (snd_var (i := 2) rfl vO)) snd_anil) ⟨rfl, trivial⟩) snd_anil)) ⟨rfl, ⟨rfl, trivial⟩⟩) snd_nil)))) (snd_gn (i := 3) nd rfl lO rfl))
  (snd_scons (snd_asg (snd_fz (snd_add (snd_ovar (i := 3) rfl vO (snd_oexp (snd_lst (snd_acons (snd_newI (x := "InvalidPatterns") (fs := [("index", "index")]) Xs.v_InvalidPatterns hr gO (snd_acons (snd_fz (snd_var (i := 1) rfl vO)) snd_anil) ⟨rfl, trivial⟩) (snd_acons (snd_newI (x := "InvalidRules") (fs := [("index", "index")]) Xs.v_InvalidRules hr gO (snd_acons (snd_fz (snd_var (i := 1) rfl vO)) snd_anil) ⟨rfl, trivial⟩) snd_anil)) ⟨rfl, ⟨rfl, trivial⟩⟩) snd_nil)))) (snd_gn (i := 3) nd rfl lO rfl))
  (snd_scons (snd_asg (snd_fz (snd_add (snd_ovar (i := 3) rfl vO (snd_oexp (snd_lst (snd_acons (snd_newZI (x := "InvalidState") Xs.z_InvalidState gO (snd_fz (snd_var (i := 0) rfl vO))) (snd_acons (snd_newI (x := "InvalidText") (fs := [("line", "line"), ("word", "word")]) Xs.v_InvalidText hr gO (snd_acons (snd_fz (snd_var (i := 1) rfl vO)) (snd_acons (snd_fz (snd_add (snd_ovar (i := 1) rfl vO (snd_oexp (snd_c (a := .int 1) pe_int trivial) snd_nil)))) snd_anil)) ⟨rfl, ⟨rfl, trivial⟩⟩) snd_anil)) ⟨rfl, ⟨rfl, trivial⟩⟩) snd_nil)))) (snd_gn (i := 3) nd rfl lO rfl))
  (snd_scons (snd_asg (snd_fz (snd_add (snd_ovar (i := 3) rfl vO (snd_oexp (snd_lst (snd_acons (snd_newI (x := "InvalidWidths") (fs := [("label", "label")]) Xs.v_InvalidWidths hr gO (snd_acons (snd_fz (snd_var (i := 2) rfl vO)) snd_anil) ⟨rfl, trivial⟩) (snd_acons (snd_newZI (x := "InvalidWord") Xs.z_InvalidWord gO (snd_fz (snd_var (i := 0) rfl vO))) snd_anil)) ⟨rfl, ⟨rfl, trivial⟩⟩) snd_nil)))) (snd_gn (i := 3) nd rfl lO rfl))
  (snd_scons (snd_asg (snd_fz (snd_add (snd_ovar (i := 3) rfl vO (snd_oexp (snd_lst (snd_acons (snd_newI (x := "IsPlugged") (fs := [("label", "label")]) Xs.v_IsPlugged hr gO (snd_acons (snd_fz (snd_var (i := 2) rfl vO)) snd_anil) ⟨rfl, trivial⟩) (snd_acons (snd_newI (x := "NameTaken") (fs := [("label", "label")]) Xs.v_NameTaken hr gO (snd_acons (snd_fz (snd_var (i := 2) rfl vO)) snd_anil) ⟨rfl, trivial⟩) snd_anil)) ⟨rfl, ⟨rfl, trivial⟩⟩) snd_nil)))) (snd_gn (i := 3) nd rfl lO rfl))
  (snd_scons (snd_asg (snd_fz (snd_add (snd_ovar (i := 3) rfl vO (snd_oexp (snd_lst (snd_acons (snd_newI (x := "NoEnd") (fs := [("ring", "ring")]) Xs.v_NoEnd hr gO (snd_acons (snd_fz (snd_lst (snd_acons (snd_var (i := 2) rfl vO) (snd_acons (snd_cstr (l := [98]) (by kernel_rfl) (by kernel_rfl)) snd_anil)) ⟨rfl, ⟨rfl, trivial⟩⟩)) snd_anil) ⟨rfl, trivial⟩) (snd_acons (snd_newI (x := "NotPlugged") (fs := [("label", "label")]) Xs.v_NotPlugged hr gO (snd_acons (snd_fz (snd_var (i := 2) rfl vO)) snd_anil) ⟨rfl, trivial⟩) snd_anil)) ⟨rfl, ⟨rfl, trivial⟩⟩) snd_nil)))) (snd_gn (i := 3) nd rfl lO rfl))
  (snd_scons (snd_asg (snd_fz (snd_add (snd_ovar (i := 3) rfl vO (snd_oexp (snd_lst (snd_acons (snd_newZI (x := "NothingToUndo") Xs.z_NothingToUndo gO (snd_fz (snd_var (i := 0) rfl vO))) (snd_acons (snd_newI (x := "SlotTaken") (fs := [("label", "label")]) Xs.v_SlotTaken hr gO (snd_acons (snd_fz (snd_var (i := 2) rfl vO)) snd_anil) ⟨rfl, trivial⟩) snd_anil)) ⟨rfl, ⟨rfl, trivial⟩⟩) snd_nil)))) (snd_gn (i := 3) nd rfl lO rfl))
  (snd_scons (snd_asg (snd_fz (snd_add (snd_ovar (i := 3) rfl vO (snd_oexp (snd_lst (snd_acons (snd_newI (x := "TooMany") (fs := [("limit", "limit")]) Xs.v_TooMany hr gO (snd_acons (snd_fz (snd_var (i := 1) rfl vO)) snd_anil) ⟨rfl, trivial⟩) snd_anil) ⟨rfl, trivial⟩) snd_nil)))) (snd_gn (i := 3) nd rfl lO rfl))
  (snd_scons (snd_for (passes_of rfl) rfl (snd_irng1 gO G.f_range (snd_oexp (snd_c (a := .int 23) pe_int trivial) snd_nil) ⟨rfl, trivial⟩) (snd_gn (i := 4) nd rfl lO rfl) (snd_scons (snd_if (snd_tne hr (snd_oexp (snd_call C__law_marks (mO hrG) gO (snd_oexp (snd_ix hr (snd_ovar (i := 3) rfl vO (snd_ovar (i := 4) rfl vO snd_nil))) snd_nil) ⟨rfl, trivial⟩) (snd_oexp (snd_comp (own := [("_law_other", 5)]) rfl nd (snd_irng1 gO G.f_range (snd_oexp (snd_c (a := .int 23) pe_int trivial) snd_nil) ⟨rfl, trivial⟩) (blk_ok (by kernel_rfl)) (fun _ _ _ _ _ => (snd_gn (i := 5) nd rfl lO rfl)) (fun _ _ _ _ _ => snd_tsnil) (fun _ _ _ _ _ => (snd_eq hr (snd_ovar (i := 5) rfl vO (snd_ovar (i := 4) rfl vO snd_nil))))) snd_nil))) (snd_sone (snd_ret (snd_c (a := .bl false) pe_bl trivial))) snd_snil)
  (snd_sone (snd_if (snd_tw (snd_wor (snd_tnot (snd_tval (snd_isV (isV_ok Xs.k_PlugError) ⟨gl_ok (by kernel_rfl), G.f_isinstance, boot_isinstance⟩ gO Xs.g_PlugError (snd_oexp (snd_ix hr (snd_ovar (i := 3) rfl vO (snd_ovar (i := 4) rfl vO snd_nil))) snd_nil) ⟨rfl, ⟨rfl, trivial⟩⟩))) (snd_wor1 (snd_tnot (snd_tval (snd_isVB (isB_ok Xs.b_ValueError) ⟨gl_ok (by kernel_rfl), G.f_isinstance, boot_isinstance⟩ gO G.f_ValueError PyProof.Rows.Boot.«ValueError» (snd_oexp (snd_ix hr (snd_ovar (i := 3) rfl vO (snd_ovar (i := 4) rfl vO snd_nil))) snd_nil) ⟨rfl, ⟨rfl, trivial⟩⟩)))))) (snd_sone (snd_ret (snd_c (a := .bl false) pe_bl trivial))) snd_snil))))
  (snd_sone (snd_ret (snd_and (snd_call C__law_fields_right (mO hrG) gO (snd_ovar (i := 1) rfl vO (snd_ovar (i := 2) rfl vO snd_nil)) ⟨rfl, ⟨rfl, trivial⟩⟩) (snd_one (snd_nin hr (snd_oexp (snd_c (a := .bl true) pe_bl trivial) (snd_oexp (snd_call C__law_marks (mO hrG) gO (snd_oexp (snd_newZI (x := "PlugError") Xs.z_PlugError gO (snd_fz (snd_var (i := 0) rfl vO))) snd_nil) ⟨rfl, trivial⟩) snd_nil)))))))))))))))))))))
theorem c__law_right (G : Gs K mg) (Xs : Ex P K mg) (C__law_marks : Callee P w K mg base "_law_marks" 1 ["_law_e"] φ__law_marks) (C__law_fields_right : Callee P w K mg base "_law_fields_right" 2 ["_law_amount", "_law_who"] φ__law_fields_right) {f : Addr} {fd : FuncData} (FD : FunD K "_law_right" "_law_right" (defArgs (top 30)) (defBody (top 30)) (defScope (top 30)) [] [] f fd) (hm : mg "_law_right" = some (.ref f)) : Callee P w K mg base "_law_right" 3 ["_law_message", "_law_amount", "_law_who"] φ__law_right :=
  by unfold φ__law_right; exact callee_of FD hm sc__law_right rfl rfl (m := 0) (by kernel_rfl) (fun _ _ _ _ _ _ us hl => match us, hl with | [_,_,_], _ => rfl) fun cdv A outer s H E hr => d__law_right G Xs C__law_marks C__law_fields_right cdv A outer s H E hr
theorem nd_law : (["_law_script", "_law_cells", "_law_k", "_law_bag_here", "_law_message", "_law_who"] : List Str).Nodup := by decide +kernel
theorem sc_law : FnScope ["_law_script", "_law_cells", "_law_k", "_law_bag_here", "_law_message", "_law_who"] ["_law_script"] (defScope (top 31)) := ⟨rfl, rfl, rfl, nd_law, rfl, by decide +kernel, by decide +kernel⟩
theorem d_law (G : Gs K mg) (Xs : Ex P K mg) (C__law_bag : Callee P w K mg base "_law_bag" 1 ["_law_cell", "_law_k"] φ__law_bag) (C__law_draw : Callee P w K mg base "_law_draw" 1 ["_law_bag_here", "_law_many"] φ__law_draw) (C__law_right : Callee P w K mg base "_law_right" 3 ["_law_message", "_law_amount", "_law_who"] φ__law_right) {f : Addr} (cdv : Value) (A : Around) (outer : List PySem.Env) (s : Shared) (H : Hp) (E : XK) (hrG : RoomG 3 (A.deeper (envOfC "law" (defScope (top 31)) s.heap.objs.size f cdv))) :
    SndSs 0 (cxOf (L2N.CX P w) P w K mg base ["_law_script", "_law_cells", "_law_k", "_law_bag_here", "_law_message", "_law_who"] "law" (defScope (top 31)) f cdv A outer s H E) (prOf [false]) (defBody (top 31)) b_law :=
  have nd := nd_law
  have hr := hrG.r
  (snd_scons (snd_asg (snd_fz (snd_add (snd_oexp (snd_slNS (snd_ovar (i := 0) rfl vO (snd_oexp (snd_c (a := .int 8) pe_int trivial) snd_nil))) (snd_oexp (snd_mul (snd_oexp (snd_lst (snd_acons (snd_c (a := .int 0) pe_int trivial) snd_anil) ⟨rfl, trivial⟩) (snd_oexp (snd_tyA (blt G.f_int boot_int (by kernel_rfl) (by decide) (by decide)) call_int1 opa_int (snd_oexp (snd_eq hr (snd_ovar (i := 0) rfl vO (snd_oexp (snd_lst snd_anil trivial) snd_nil))) snd_nil) ⟨rfl, trivial⟩) snd_nil))) snd_nil)))) (snd_gn (i := 1) nd rfl lO rfl))
  (snd_scons (snd_for (passes_of rfl) rfl (snd_irng1 gO G.f_range (snd_oexp (snd_bA (blt G.f_len boot_len (by kernel_rfl) (by decide) (by decide)) op_lenAll opa_len (snd_ovar (i := 1) rfl vO snd_nil) ⟨rfl, trivial⟩) snd_nil) ⟨rfl, trivial⟩) (snd_gn (i := 2) nd rfl lO rfl) (snd_scons (snd_asg (snd_call C__law_bag (mO hrG) gO (snd_oexp (snd_ix hr (snd_ovar (i := 1) rfl vO (snd_ovar (i := 2) rfl vO snd_nil))) (snd_ovar (i := 2) rfl vO snd_nil)) ⟨rfl, ⟨rfl, trivial⟩⟩) (snd_gn (i := 3) nd rfl lO rfl))
  (snd_scons (snd_asg (snd_fz (snd_mul (snd_oexp (snd_ix hr (snd_oexp (snd_cstr (l := [97,124,32,126]) (by kernel_rfl) (by kernel_rfl)) (snd_oexp (snd_call C__law_draw (mO hrG) gO (snd_ovar (i := 3) rfl vO (snd_oexp (snd_c (a := .int 4) pe_int trivial) snd_nil)) ⟨rfl, ⟨rfl, trivial⟩⟩) snd_nil))) (snd_oexp (snd_call C__law_draw (mO hrG) gO (snd_ovar (i := 3) rfl vO (snd_oexp (snd_c (a := .int 60) pe_int trivial) snd_nil)) ⟨rfl, ⟨rfl, trivial⟩⟩) snd_nil)))) (snd_gn (i := 4) nd rfl lO rfl))
  (snd_scons (snd_asg (snd_fz (snd_ix hr (snd_oexp (snd_lst (snd_acons (snd_cstr (l := [97]) (by kernel_rfl) (by kernel_rfl)) (snd_acons (snd_cstr (l := [122,122,57]) (by kernel_rfl) (by kernel_rfl)) (snd_acons (snd_cstr (l := [48]) (by kernel_rfl) (by kernel_rfl)) snd_anil))) ⟨rfl, ⟨rfl, ⟨rfl, trivial⟩⟩⟩) (snd_oexp (snd_call C__law_draw (mO hrG) gO (snd_ovar (i := 3) rfl vO (snd_oexp (snd_c (a := .int 3) pe_int trivial) snd_nil)) ⟨rfl, ⟨rfl, trivial⟩⟩) snd_nil)))) (snd_gn (i := 5) nd rfl lO rfl))
  (snd_sone (snd_if (snd_tnot (snd_tval (snd_call C__law_right (mO hrG) gO (snd_ovar (i := 4) rfl vO (snd_oexp (snd_fz (snd_call C__law_draw (mO hrG) gO (snd_ovar (i := 3) rfl vO (snd_oexp (snd_pow (snd_oexp (snd_c (a := .int 10) pe_int trivial) (snd_oexp (snd_c (a := .int 9) pe_int trivial) snd_nil))) snd_nil)) ⟨rfl, ⟨rfl, trivial⟩⟩)) (snd_ovar (i := 5) rfl vO snd_nil))) ⟨rfl, ⟨rfl, ⟨rfl, trivial⟩⟩⟩))) (snd_sone (snd_ret (snd_c (a := .bl false) pe_bl trivial))) snd_snil))))))
  (snd_sone (snd_ret (snd_c (a := .bl true) pe_bl trivial)))))
end

end PyD.k86
end

set_option maxRecDepth 100000
open PySem L2 PySem.Spec PyProof.Rows PyD
local macro_rules | `(tactic| simp [wWXW, $as,*]) => `(tactic| simp [wpR_ok, wpR_exc, wpF_ret, wpF_exc, okO_some, okSl_some, kOV, kOE2, kOE, kA2, kA1, kA, kB2, kB1, kB, wp_oNil, wp_oVar, wp_oExp, wp_eA, wp_eB, wp_eC, kVar, wp_eVar, kMove, wp_eMove, kL, kT, kAC2, kAC, wp_eLst, wp_eTup, wp_aNil, wp_aCons, kM1, kM2, kM, wp_eM, kAnd_t, kAnd_f, kAnd_dec, kAnd_ndec, kAnd_beq, kAnd_bne, kAnd_nbeq, kOr_t, kOr_f, kOr_dec, kOr_ndec, kOr_beq, kOr_bne, kOr_nbeq, kNot, wp_eAnd, wp_eOr, wp_eNot, kIf_t, kIf_f, kIf_dec, kIf_ndec, kIf_beq, kIf_bne, kIf_nbeq, wp_eIf, kBool, wp_tBool, kTAnd_t, kTAnd_f, kTAnd_dec, kTAnd_ndec, kTAnd_beq, kTAnd_bne, kTAnd_nbeq, kTOr_t, kTOr_f, kTOr_dec, kTOr_ndec, kTOr_beq, kTOr_bne, kTOr_nbeq, kTNot, wp_tAnd, wp_tOr, wp_tNot, wp_tTrue, okO_map, okO_bind, kMap, kBind, kBody, kItems, kElt1, kElt_t, kElt_f, kElt_dec, kElt_ndec, kElt_beq, kElt_bne, kElt_nbeq, kRd1, kPick, wp_oPick, pick, itemsOf, kVal, wp_iVal, wp_iFz, kRd, wp_iRd, kRet, kCall1, kCall, wp_eCall, kSeq, wp_sSeq, wp_sIf, kRt, wp_sRet, kEx, wp_sExpr, kAsg, wp_sAsg, kPar, wp_sPar, wp_sNil, wp_sPass, wp_sCont, wp_sBreak, ok_gN, kSet1, kSet, ok_gSet, kFor, wp_sFor, kTurn, kComp2, wp_eComp, kOuts, wp_fn, entryO, outsO, takeOps, putOps, resA, PyD.resB, setO, O.erase, O.erases, O.shal, O.isFz, At.d, offE, onE, ownP, Option.map_some, Option.map_none, List.getElem?_cons_zero, List.getElem?_cons_succ, erases_mapF, erases_mapO, okO_ite, semInt2, semGt, semLt, semLe, semGe, ordD, semInt, semMod, semDiv, semSub, semAdd, semPow, semNeg, semAbs, semMax2, semMin2, semLen, slNS_s, slSN_s, slSS_s, slNS_l, slSN_l, slSS_l, gT, gsNil, gsCons, gStar1, wp_sAug, kAug0, kAug, wp_eRepl, kRepl, wp_eIxT, kIxT0, kIxT, kIxT1, kIxT2, ok_gSetT, kSetT0, kSetT, kSetT2, wp_eDct0, tkeyO, intsO, semIsB, wp_iZm, kZm, wp_eSeen1, kSeen1, wp_tNotSeen, kNotSeen, kNotSeen2, kSn2, kSn, kSn0, ok_gSeen, kFz, wp_eFz, kApp2, kApp, kApp0, wp_eAppend, wp_eSlF, kSlF, kSlF1, wp_sRaise0, wp_sRaise1, kRaise, kOutsX, kRetX, wp_eDic0, wp_eDic, kDic, dicZip, O.eraseK, okB, LIM, wp_eG, wp_eLPop, kLPop0, kLPop, okPop, wp_eDPop, kDPop0, kDPop, okDPop, wp_eCompD, kCompD, dItems, wp_oDfl, kDfl, dOps, wp_eChain, kCh, kCh1, kCh2, chain1, wp_eDicG, kDicG, unP, dPairs, $as,*])
local macro_rules | `(tactic| simp [wWXW]) => `(tactic| simp [wpR_ok, wpR_exc, wpF_ret, wpF_exc, okO_some, okSl_some, kOV, kOE2, kOE, kA2, kA1, kA, kB2, kB1, kB, wp_oNil, wp_oVar, wp_oExp, wp_eA, wp_eB, wp_eC, kVar, wp_eVar, kMove, wp_eMove, kL, kT, kAC2, kAC, wp_eLst, wp_eTup, wp_aNil, wp_aCons, kM1, kM2, kM, wp_eM, kAnd_t, kAnd_f, kAnd_dec, kAnd_ndec, kAnd_beq, kAnd_bne, kAnd_nbeq, kOr_t, kOr_f, kOr_dec, kOr_ndec, kOr_beq, kOr_bne, kOr_nbeq, kNot, wp_eAnd, wp_eOr, wp_eNot, kIf_t, kIf_f, kIf_dec, kIf_ndec, kIf_beq, kIf_bne, kIf_nbeq, wp_eIf, kBool, wp_tBool, kTAnd_t, kTAnd_f, kTAnd_dec, kTAnd_ndec, kTAnd_beq, kTAnd_bne, kTAnd_nbeq, kTOr_t, kTOr_f, kTOr_dec, kTOr_ndec, kTOr_beq, kTOr_bne, kTOr_nbeq, kTNot, wp_tAnd, wp_tOr, wp_tNot, wp_tTrue, okO_map, okO_bind, kMap, kBind, kBody, kItems, kElt1, kElt_t, kElt_f, kElt_dec, kElt_ndec, kElt_beq, kElt_bne, kElt_nbeq, kRd1, kPick, wp_oPick, pick, itemsOf, kVal, wp_iVal, wp_iFz, kRd, wp_iRd, kRet, kCall1, kCall, wp_eCall, kSeq, wp_sSeq, wp_sIf, kRt, wp_sRet, kEx, wp_sExpr, kAsg, wp_sAsg, kPar, wp_sPar, wp_sNil, wp_sPass, wp_sCont, wp_sBreak, ok_gN, kSet1, kSet, ok_gSet, kFor, wp_sFor, kTurn, kComp2, wp_eComp, kOuts, wp_fn, entryO, outsO, takeOps, putOps, resA, PyD.resB, setO, O.erase, O.erases, O.shal, O.isFz, At.d, offE, onE, ownP, Option.map_some, Option.map_none, List.getElem?_cons_zero, List.getElem?_cons_succ, erases_mapF, erases_mapO, okO_ite, semInt2, semGt, semLt, semLe, semGe, ordD, semInt, semMod, semDiv, semSub, semAdd, semPow, semNeg, semAbs, semMax2, semMin2, semLen, slNS_s, slSN_s, slSS_s, slNS_l, slSN_l, slSS_l, gT, gsNil, gsCons, gStar1, wp_sAug, kAug0, kAug, wp_eRepl, kRepl, wp_eIxT, kIxT0, kIxT, kIxT1, kIxT2, ok_gSetT, kSetT0, kSetT, kSetT2, wp_eDct0, tkeyO, intsO, semIsB, wp_iZm, kZm, wp_eSeen1, kSeen1, wp_tNotSeen, kNotSeen, kNotSeen2, kSn2, kSn, kSn0, ok_gSeen, kFz, wp_eFz, kApp2, kApp, kApp0, wp_eAppend, wp_eSlF, kSlF, kSlF1, wp_sRaise0, wp_sRaise1, kRaise, kOutsX, kRetX, wp_eDic0, wp_eDic, kDic, dicZip, O.eraseK, okB, LIM, wp_eG, wp_eLPop, kLPop0, kLPop, okPop, wp_eDPop, kDPop0, kDPop, okDPop, wp_eCompD, kCompD, dItems, wp_oDfl, kDfl, dOps, wp_eChain, kCh, kCh1, kCh2, chain1, wp_eDicG, kDicG, unP, dPairs])
local macro_rules | `(tactic| simp [wWQW, $as,*]) => `(tactic| simp [wpR_ok, wpR_exc, wpF_ret, wpF_exc, okO_some, okSl_some, kOV, kOE2, kOE, kA2, kA1, kA, kB2, kB1, kB, wp_oNil, wp_oVar, wp_oExp, wp_eA, wp_eB, wp_eC, kVar, wp_eVar, kMove, wp_eMove, kL, kT, kAC2, kAC, wp_eLst, wp_eTup, wp_aNil, wp_aCons, kM1, kM2, kM, wp_eM, kAnd_t, kAnd_f, kAnd_dec, kAnd_ndec, kAnd_beq, kAnd_bne, kAnd_nbeq, kOr_t, kOr_f, kOr_dec, kOr_ndec, kOr_beq, kOr_bne, kOr_nbeq, kNot, wp_eAnd, wp_eOr, wp_eNot, kIf_t, kIf_f, kIf_dec, kIf_ndec, kIf_beq, kIf_bne, kIf_nbeq, wp_eIf, kBool, wp_tBool, kTAnd_t, kTAnd_f, kTAnd_dec, kTAnd_ndec, kTAnd_beq, kTAnd_bne, kTAnd_nbeq, kTOr_t, kTOr_f, kTOr_dec, kTOr_ndec, kTOr_beq, kTOr_bne, kTOr_nbeq, kTNot, wp_tAnd, wp_tOr, wp_tNot, wp_tTrue, okO_map, okO_bind, kMap, kBind, kBody, kItems, kElt1, kElt_t, kElt_f, kElt_dec, kElt_ndec, kElt_beq, kElt_bne, kElt_nbeq, kRd1, kPick, wp_oPick, pick, itemsOf, kVal, wp_iVal, wp_iFz, kRd, wp_iRd, kRet, kCall1, kCall, wp_eCall, kSeq, wp_sSeq, wp_sIf, kRt, wp_sRet, kEx, wp_sExpr, kAsg, wp_sAsg, kPar, wp_sPar, wp_sNil, wp_sPass, wp_sCont, wp_sBreak, ok_gN, kSet1, kSet, ok_gSet, kFor, wp_sFor, kTurn, kComp2, wp_eComp, kOuts, wp_fn, entryO, outsO, takeOps, putOps, resA, PyD.resB, setO, O.erase, O.erases, O.shal, O.isFz, At.d, offE, onE, ownP, Option.map_some, Option.map_none, List.getElem?_cons_zero, List.getElem?_cons_succ, erases_mapF, erases_mapO, okO_ite, semInt2, semGt, semLt, semLe, semGe, ordD, semInt, semMod, semDiv, semSub, semAdd, semPow, semNeg, semAbs, semMax2, semMin2, semLen, slNS_s, slSN_s, slSS_s, slNS_l, slSN_l, slSS_l, gT, gsNil, gsCons, gStar1, wp_sAug, kAug0, kAug, wp_eRepl, kRepl, wp_eIxT, kIxT0, kIxT, kIxT1, kIxT2, ok_gSetT, kSetT0, kSetT, kSetT2, wp_eDct0, tkeyO, intsO, semIsB, wp_iZm, kZm, wp_eSeen1, kSeen1, wp_tNotSeen, kNotSeen, kNotSeen2, kSn2, kSn, kSn0, ok_gSeen, kFz, wp_eFz, kApp2, kApp, kApp0, wp_eAppend, wp_eSlF, kSlF, kSlF1, $as,*])
local macro_rules | `(tactic| simp [wWQW]) => `(tactic| simp [wpR_ok, wpR_exc, wpF_ret, wpF_exc, okO_some, okSl_some, kOV, kOE2, kOE, kA2, kA1, kA, kB2, kB1, kB, wp_oNil, wp_oVar, wp_oExp, wp_eA, wp_eB, wp_eC, kVar, wp_eVar, kMove, wp_eMove, kL, kT, kAC2, kAC, wp_eLst, wp_eTup, wp_aNil, wp_aCons, kM1, kM2, kM, wp_eM, kAnd_t, kAnd_f, kAnd_dec, kAnd_ndec, kAnd_beq, kAnd_bne, kAnd_nbeq, kOr_t, kOr_f, kOr_dec, kOr_ndec, kOr_beq, kOr_bne, kOr_nbeq, kNot, wp_eAnd, wp_eOr, wp_eNot, kIf_t, kIf_f, kIf_dec, kIf_ndec, kIf_beq, kIf_bne, kIf_nbeq, wp_eIf, kBool, wp_tBool, kTAnd_t, kTAnd_f, kTAnd_dec, kTAnd_ndec, kTAnd_beq, kTAnd_bne, kTAnd_nbeq, kTOr_t, kTOr_f, kTOr_dec, kTOr_ndec, kTOr_beq, kTOr_bne, kTOr_nbeq, kTNot, wp_tAnd, wp_tOr, wp_tNot, wp_tTrue, okO_map, okO_bind, kMap, kBind, kBody, kItems, kElt1, kElt_t, kElt_f, kElt_dec, kElt_ndec, kElt_beq, kElt_bne, kElt_nbeq, kRd1, kPick, wp_oPick, pick, itemsOf, kVal, wp_iVal, wp_iFz, kRd, wp_iRd, kRet, kCall1, kCall, wp_eCall, kSeq, wp_sSeq, wp_sIf, kRt, wp_sRet, kEx, wp_sExpr, kAsg, wp_sAsg, kPar, wp_sPar, wp_sNil, wp_sPass, wp_sCont, wp_sBreak, ok_gN, kSet1, kSet, ok_gSet, kFor, wp_sFor, kTurn, kComp2, wp_eComp, kOuts, wp_fn, entryO, outsO, takeOps, putOps, resA, PyD.resB, setO, O.erase, O.erases, O.shal, O.isFz, At.d, offE, onE, ownP, Option.map_some, Option.map_none, List.getElem?_cons_zero, List.getElem?_cons_succ, erases_mapF, erases_mapO, okO_ite, semInt2, semGt, semLt, semLe, semGe, ordD, semInt, semMod, semDiv, semSub, semAdd, semPow, semNeg, semAbs, semMax2, semMin2, semLen, slNS_s, slSN_s, slSS_s, slNS_l, slSN_l, slSS_l, gT, gsNil, gsCons, gStar1, wp_sAug, kAug0, kAug, wp_eRepl, kRepl, wp_eIxT, kIxT0, kIxT, kIxT1, kIxT2, ok_gSetT, kSetT0, kSetT, kSetT2, wp_eDct0, tkeyO, intsO, semIsB, wp_iZm, kZm, wp_eSeen1, kSeen1, wp_tNotSeen, kNotSeen, kNotSeen2, kSn2, kSn, kSn0, ok_gSeen, kFz, wp_eFz, kApp2, kApp, kApp0, wp_eAppend, wp_eSlF, kSlF, kSlF1])
section
set_option Elab.async false
set_option linter.all false
set_option maxRecDepth 100000
set_option exponentiation.threshold 100000
namespace PyD.k86
variable [Om]
open PySem L2 PySem.Spec PyProof.Rows PyD
abbrev I (i : Int) : O := .fz (.int i)
abbrev S (l : List Nat) : O := .fz (.str l)
abbrev Bg (a b : Int) : O := .lst [I a, I b]
theorem big_of {i : Int} (h : i.natAbs < 10 ^ 80) : isBig i = true := by
  have h1 : i.natAbs < 2 ^ 300 := Nat.lt_of_lt_of_le h (by decide)
  have h2 : 2 ^ 300 ≤ BIG := Nat.pow_le_pow_right (by decide) (by decide)
  exact decide_eq_true (Nat.lt_of_lt_of_le h1 h2)
theorem sd_of {i : Int} (h : 0 < i) (h1 : i.natAbs < 10 ^ 60) : smallDiv i = true := by
  have h2 : i.natAbs < 2 ^ 200 := Nat.lt_of_lt_of_le h1 (by decide)
  unfold smallDiv
  rw [decide_eq_true h, decide_eq_true (Nat.lt_of_lt_of_le h2 (Nat.pow_le_pow_right (by decide) (by decide)))]
  rfl
/-- the bag of the draws -/
structure Bag (m : Nat) (o : O) : Prop where
  ex : ∃ a b : Int, o = Bg a b ∧ b.natAbs ≤ m
theorem Bag.up {m k : Nat} {o : O} (h : Bag m o) (hk : m ≤ k) : Bag k o := by
  obtain ⟨a, b, e, h1⟩ := h.ex
  exact ⟨a, b, e, Nat.le_trans h1 hk⟩
theorem draw_ok {m : Nat} {o : O} {n : Int} (B : Bag m o) (hm : m < 10 ^ 20) (hn : 0 < n) (hn2 : n < 10 ^ 20) :
    ∃ r o', φ__law_draw [o, I n] = .ret (I r) [o', I n] ∧ 0 ≤ r ∧ r < n ∧ Bag (m + 1) o' := by
  obtain ⟨a, b, rfl, hb⟩ := B.ex
  have hn3 : smallDiv n = true := sd_of hn (by omega)
  have at0 (c : Int) : atI [D.int a, .int c] 0 = some (.int a) := rfl
  have at1 (c : Int) : atI [D.int a, .int c] 1 = some (.int c) := rfl
  have ix0 : ixN 2 0 = some 0 := rfl
  have ix1 : ixN 2 1 = some 1 := rfl
  have lm : 2 ≤ LIM := by unfold LIM; omega
  have i0 : isBig 10 = true := big_of (by decide)
  have p1 : powOk 10 18 = true := by unfold powOk; rw [i0]; rfl
  have s1 : smallDiv 2147483629 = true := sd_of (by decide) (by decide)
  have s2 : smallDiv 2147483587 = true := sd_of (by decide) (by decide)
  have s3 : smallDiv 2147483563 = true := sd_of (by decide) (by decide)
  have s4 : smallDiv 8 = true := sd_of (by decide) (by decide)
  have j1 : isBig 104729 = true := big_of (by decide)
  have j2 : isBig 40692 = true := big_of (by decide)
  have j3 : isBig (b + 1) = true := big_of (by omega)
  have j4 (y : Int) : isBig (y % 2147483587) = true := big_of (by
    have h1 := Int.emod_nonneg y (show (2147483587 : Int) ≠ 0 by decide)
    have h2 := Int.emod_lt_of_pos y (show (0 : Int) < 2147483587 by decide)
    omega)
  have j5 (y : Int) : isBig (y % 2147483563) = true := big_of (by
    have h1 := Int.emod_nonneg y (show (2147483563 : Int) ≠ 0 by decide)
    have h2 := Int.emod_lt_of_pos y (show (0 : Int) < 2147483563 by decide)
    omega)
  by_cases ha : 1000000000000000000 ≤ a
  · refine ⟨a % n, Bg (a / n) (b + 1), ?_, Int.emod_nonneg _ (by omega), Int.emod_lt_of_pos _ hn, ⟨_, _, rfl, by omega⟩⟩
    simp [φ__law_draw, b__law_draw, sAug, sAugS, eRepl, semIsB, sSeq, sIf, sRet, sExpr, sAsg, sPar, sNil, sPass, oNil, oVar, oExp, eA, eB, eC, eVar, eMove, eLst, eTup, aNil, aCons, eM, eAnd, eOr, eNot, eIf, tBool, tAnd', tOr', tNot', tTrue, iRd, iVal, iFz, gN, gSet, gT, gsNil, gsCons, gStar1, setAt, setO, resA, resB, O.erase, O.erases, O.shal, O.isFz, At.d, semInt2, semIx, semGt, semLt, semLe, semGe, ordD, semInt, semMod, semDiv, semSub, semAdd, semMul, semPow, semNeg, semAbs, semMax2, semMin2, semLen, entryO, outsO, fnSem, eCall, takeOps, putOps, ha, hn, hn3, at0, at1, ix0, ix1, lm, p1]
  · have z : ∃ y : Int, φ__law_draw [Bg a b, I n] = .ret (I (y % n)) [Bg a (b + 1), I n] := by
      simp [φ__law_draw, b__law_draw, sAug, sAugS, eRepl, semIsB, sSeq, sIf, sRet, sExpr, sAsg, sPar, sNil, sPass, oNil, oVar, oExp, eA, eB, eC, eVar, eMove, eLst, eTup, aNil, aCons, eM, eAnd, eOr, eNot, eIf, tBool, tAnd', tOr', tNot', tTrue, iRd, iVal, iFz, gN, gSet, gT, gsNil, gsCons, gStar1, setAt, setO, resA, resB, O.erase, O.erases, O.shal, O.isFz, At.d, semInt2, semIx, semGt, semLt, semLe, semGe, ordD, semInt, semMod, semDiv, semSub, semAdd, semMul, semPow, semNeg, semAbs, semMax2, semMin2, semLen, entryO, outsO, fnSem, eCall, takeOps, putOps, ha, hn, hn3, at0, at1, ix0, ix1, lm, p1, s1, s2, s3, s4, j1, j2, j3, j4, j5]
      exact ⟨_, rfl⟩
    obtain ⟨y, z⟩ := z
    exact ⟨y % n, Bg a (b + 1), z, Int.emod_nonneg _ (by omega), Int.emod_lt_of_pos _ hn, ⟨_, _, rfl, by omega⟩⟩
theorem draw_wp {m : Nat} {o : O} {n : Int} (B : Bag m o) (hm : m < 10 ^ 20) (hn : 0 < n) (hn2 : n < 10 ^ 20) :
    wpF (φ__law_draw [o, I n]) (fun x outs => ∃ r a b, x = I r ∧ outs = [Bg a b, I n] ∧ 0 ≤ r ∧ r < n ∧ Bag (m + 1) (Bg a b)) noF := by
  obtain ⟨r, o', e, h0, h1, b⟩ := draw_ok B hm hn hn2
  obtain ⟨x, y, rfl, _⟩ := b.ex
  rw [e]
  exact ⟨r, x, y, rfl, rfl, h0, h1, b⟩
theorem bag_wp {x k : Int} (h0 : 0 ≤ k) (h1 : k < 1000) : wpF (φ__law_bag [I x, I k]) (fun o outs => ∃ a b, o = Bg a b ∧ outs = [I x, I k] ∧ Bag 100000 (Bg a b)) noF := by
  have j1 : isBig 37 = true := big_of (by decide)
  have j2 : isBig k = true := big_of (by omega)
  unfold φ__law_bag b__law_bag
  by_cases hx : x < 0
  · simp [wWQW, hx, semMul, j1, j2]
    exact ⟨_, _, ⟨rfl, rfl⟩, _, _, rfl, by omega⟩
  · simp [wWQW, hx, semMul, j1, j2]
    exact ⟨_, _, ⟨rfl, rfl⟩, _, _, rfl, by omega⟩
end PyD.k86
end

section
set_option Elab.async false
set_option linter.all false
set_option maxRecDepth 100000
namespace PyD.k86
variable [Om]
open PySem L2 PySem.Spec PyProof.Rows PyD
/-- d is an error of the class c -/
structure Er (c : List Nat) (d : D) : Prop where
  ex : ∃ ds : List D, d = .set (.str c :: ds) ∧ (ds = [] ∨ ∃ n m, ds = [.lst n, .lst m])
  kn : knC.contains c = true
theorem Er.is {c : List Nat} {d : D} (h : Er c d) (y : List Nat) : semIsV (isV y) [d] = some (.bl (c == y || y == [80,108,117,103,69,114,114,111,114])) := by
  obtain ⟨ds, rfl, h1⟩ := h.ex
  have : isV y c = some (c == y || y == [80,108,117,103,69,114,114,111,114]) := by unfold isV; rw [if_pos h.kn]
  rcases h1 with rfl | ⟨n, m, rfl⟩ <;> simp [semIsV, this]
theorem Er.isB {c : List Nat} {d : D} (h : Er c d) : semIsV isB [d] = some (.bl true) := by
  obtain ⟨ds, rfl, h1⟩ := h.ex
  have : PyD.k86.isB c = some true := by unfold PyD.k86.isB; rw [if_pos h.kn]
  rcases h1 with rfl | ⟨n, m, rfl⟩ <;> simp [semIsV, this]
/-- the law's order of the classes -/
def ordL : List (List Nat) := [[73,110,118,97,108,105,100,67,97,116,97,108,111,103], [73,110,118,97,108,105,100,68,101,118,105,99,101], [73,110,118,97,108,105,100,70,111,114,101,115,116], [73,110,118,97,108,105,100,75,101,121,115], [73,110,118,97,108,105,100,76,97,98,101,108], [73,110,118,97,108,105,100,76,105,110,107,115], [73,110,118,97,108,105,100,78,97,109,105,110,103], [73,110,118,97,108,105,100,78,117,109,98,101,114], [73,110,118,97,108,105,100,79,114,100,101,114], [73,110,118,97,108,105,100,79,119,110,101,114,115], [73,110,118,97,108,105,100,80,97,116,116,101,114,110,115], [73,110,118,97,108,105,100,82,117,108,101,115], [73,110,118,97,108,105,100,83,116,97,116,101], [73,110,118,97,108,105,100,84,101,120,116], [73,110,118,97,108,105,100,87,105,100,116,104,115], [73,110,118,97,108,105,100,87,111,114,100], [73,115,80,108,117,103,103,101,100], [78,97,109,101,84,97,107,101,110], [78,111,69,110,100], [78,111,116,80,108,117,103,103,101,100], [78,111,116,104,105,110,103,84,111,85,110,100,111], [83,108,111,116,84,97,107,101,110], [84,111,111,77,97,110,121]]
theorem marks_ok {c : List Nat} {d : D} (h : Er c d) : φ__law_marks [.fz d] = .ret (.lst (ordL.map fun y => O.fz (.bl (c == y)))) [.fz d] := by
  have hs := h.is
  have nl : (0 : Nat) ≤ LIM := Nat.zero_le _
  refine wpF_eq ?_
  unfold φ__law_marks b__law_marks
  simp [wWXW, hs]
  rfl
end PyD.k86
end

section
set_option Elab.async false
set_option linter.all false
set_option maxRecDepth 100000
namespace PyD.k86
variable [Om]
open PySem L2 PySem.Spec PyProof.Rows PyD
theorem ov0 : okV [73,110,118,97,108,105,100,67,97,116,97,108,111,103] = true := by decide +kernel
theorem ov1 : okV [73,110,118,97,108,105,100,68,101,118,105,99,101] = true := by decide +kernel
theorem ov2 : okV [73,110,118,97,108,105,100,70,111,114,101,115,116] = true := by decide +kernel
theorem ov3 : okV [73,110,118,97,108,105,100,75,101,121,115] = true := by decide +kernel
theorem ov4 : okV [73,110,118,97,108,105,100,76,97,98,101,108] = true := by decide +kernel
theorem ov5 : okV [73,110,118,97,108,105,100,76,105,110,107,115] = true := by decide +kernel
theorem ov6 : okV [73,110,118,97,108,105,100,78,97,109,105,110,103] = true := by decide +kernel
theorem ov7 : okV [73,110,118,97,108,105,100,78,117,109,98,101,114] = true := by decide +kernel
theorem ov8 : okV [73,110,118,97,108,105,100,79,114,100,101,114] = true := by decide +kernel
theorem ov9 : okV [73,110,118,97,108,105,100,79,119,110,101,114,115] = true := by decide +kernel
theorem ov10 : okV [73,110,118,97,108,105,100,80,97,116,116,101,114,110,115] = true := by decide +kernel
theorem ov11 : okV [73,110,118,97,108,105,100,82,117,108,101,115] = true := by decide +kernel
theorem ov12 : okV [73,110,118,97,108,105,100,83,116,97,116,101] = true := by decide +kernel
theorem ov13 : okV [73,110,118,97,108,105,100,84,101,120,116] = true := by decide +kernel
theorem ov14 : okV [73,110,118,97,108,105,100,87,105,100,116,104,115] = true := by decide +kernel
theorem ov15 : okV [73,110,118,97,108,105,100,87,111,114,100] = true := by decide +kernel
theorem ov16 : okV [73,115,80,108,117,103,103,101,100] = true := by decide +kernel
theorem ov17 : okV [78,97,109,101,84,97,107,101,110] = true := by decide +kernel
theorem ov18 : okV [78,111,69,110,100] = true := by decide +kernel
theorem ov19 : okV [78,111,116,80,108,117,103,103,101,100] = true := by decide +kernel
theorem ov20 : okV [78,111,116,104,105,110,103,84,111,85,110,100,111] = true := by decide +kernel
theorem ov21 : okV [80,108,117,103,69,114,114,111,114] = true := by decide +kernel
theorem ov22 : okV [83,108,111,116,84,97,107,101,110] = true := by decide +kernel
theorem ov23 : okV [84,111,111,77,97,110,121] = true := by decide +kernel
theorem fc_index : (Str.ofString "index").cps.toList = [105,110,100,101,120] := by kernel_rfl
theorem fc_label : (Str.ofString "label").cps.toList = [108,97,98,101,108] := by kernel_rfl
theorem fc_link : (Str.ofString "link").cps.toList = [108,105,110,107] := by kernel_rfl
theorem fc_ring : (Str.ofString "ring").cps.toList = [114,105,110,103] := by kernel_rfl
theorem fc_limit : (Str.ofString "limit").cps.toList = [108,105,109,105,116] := by kernel_rfl
theorem fc_line : (Str.ofString "line").cps.toList = [108,105,110,101] := by kernel_rfl
theorem fc_word : (Str.ofString "word").cps.toList = [119,111,114,100] := by kernel_rfl
theorem m2 (d : D) : semMul [.lst [d], .int 2] = some (.lst [.fz d, .fz d]) := by
  have z : (2 : Nat) ≤ LIM := by unfold LIM; omega
  simp [semMul, z]
theorem ad1 {a : Int} (h0 : 0 ≤ a) (h1 : a < 1000000001) : semAdd [.int a, .int 1] = some (.fz (.int (a + 1))) := by
  have z : isBig a = true := big_of (by omega)
  have y : isBig 1 = true := big_of (by decide)
  simp [semAdd, z, y]
theorem fields_ok {a : Int} {w : List Nat} (h0 : 0 ≤ a) (h1 : a < 1000000001) : φ__law_fields_right [.fz (.int a), .fz (.str w)] = .ret (.fz (.bl true)) [.fz (.int a), .fz (.str w)] := by
  refine wpF_eq ?_
  unfold φ__law_fields_right b__law_fields_right
  simp [wWXW, wp_eFz, kFz, wp_eNewV, kNew, kNew2, frzs, wp_eXv, kXv, kXv2, semXv, lookups, ad1 h0 h1, m2, ov0, ov1, ov2, ov3, ov4, ov5, ov6, ov7, ov8, ov9, ov10, ov11, ov12, ov13, ov14, ov15, ov16, ov17, ov18, ov19, ov20, ov21, ov22, ov23, fc_index, fc_label, fc_link, fc_ring, fc_limit, fc_line, fc_word, -semMul]
  simp [wWXW, semEq, okq, deq, deqs]
end PyD.k86
end

section
set_option Elab.async false
set_option linter.all false
set_option maxRecDepth 100000
namespace PyD.k86
variable [Om]
open PySem L2 PySem.Spec PyProof.Rows PyD
/-- the law's errors -/
def someL (m : List Nat) (a : Int) (w : List Nat) : List D := [.set [.str [73,110,118,97,108,105,100,67,97,116,97,108,111,103], .lst [.str [105,110,100,101,120]], .lst [.int a]], .set [.str [73,110,118,97,108,105,100,68,101,118,105,99,101]], .set [.str [73,110,118,97,108,105,100,70,111,114,101,115,116], .lst [.str [108,97,98,101,108]], .lst [.str w]], .set [.str [73,110,118,97,108,105,100,75,101,121,115]], .set [.str [73,110,118,97,108,105,100,76,97,98,101,108], .lst [.str [108,97,98,101,108]], .lst [.str w]], .set [.str [73,110,118,97,108,105,100,76,105,110,107,115], .lst [.str [108,105,110,107]], .lst [.str w]], .set [.str [73,110,118,97,108,105,100,78,97,109,105,110,103], .lst [.str [108,97,98,101,108]], .lst [.str w]], .set [.str [73,110,118,97,108,105,100,78,117,109,98,101,114]], .set [.str [73,110,118,97,108,105,100,79,114,100,101,114]], .set [.str [73,110,118,97,108,105,100,79,119,110,101,114,115], .lst [.str [108,105,110,107]], .lst [.str w]], .set [.str [73,110,118,97,108,105,100,80,97,116,116,101,114,110,115], .lst [.str [105,110,100,101,120]], .lst [.int a]], .set [.str [73,110,118,97,108,105,100,82,117,108,101,115], .lst [.str [105,110,100,101,120]], .lst [.int a]], .set [.str [73,110,118,97,108,105,100,83,116,97,116,101]], .set [.str [73,110,118,97,108,105,100,84,101,120,116], .lst [.str [108,105,110,101], .str [119,111,114,100]], .lst [.int a, .int (a + 1)]], .set [.str [73,110,118,97,108,105,100,87,105,100,116,104,115], .lst [.str [108,97,98,101,108]], .lst [.str w]], .set [.str [73,110,118,97,108,105,100,87,111,114,100]], .set [.str [73,115,80,108,117,103,103,101,100], .lst [.str [108,97,98,101,108]], .lst [.str w]], .set [.str [78,97,109,101,84,97,107,101,110], .lst [.str [108,97,98,101,108]], .lst [.str w]], .set [.str [78,111,69,110,100], .lst [.str [114,105,110,103]], .lst [.lst [.str w, .str [98]]]], .set [.str [78,111,116,80,108,117,103,103,101,100], .lst [.str [108,97,98,101,108]], .lst [.str w]], .set [.str [78,111,116,104,105,110,103,84,111,85,110,100,111]], .set [.str [83,108,111,116,84,97,107,101,110], .lst [.str [108,97,98,101,108]], .lst [.str w]], .set [.str [84,111,111,77,97,110,121], .lst [.str [108,105,109,105,116]], .lst [.int a]]]
theorem some_at (m : List Nat) (a : Int) (w : List Nat) : ∀ k, k < 23 → ∃ d, (someL m a w)[k]? = some d ∧ Er (ordL.getD k []) d := by
  intro k hk
  iterate 23 (rcases k with _ | k; · exact ⟨_, rfl, ⟨⟨_, rfl, by first | exact .inl rfl | exact .inr ⟨_, _, rfl⟩⟩, by decide +kernel⟩⟩)
  omega
theorem bools_eq : ∀ k, k < 23 → (ordL.map fun y => ordL.getD k [] == y) = (List.range 23).map fun j => decide (j = k) := by decide +kernel
theorem deqs_bl : ∀ l : List Bool, deqs (l.map D.bl) (l.map D.bl) = true
  | [] => by simp [deqs]
  | b :: l => by simp [deqs, deq, deqs_bl l]
theorem ne_bl (l : List Bool) : semEq true [.lst (l.map D.bl), .lst (l.map D.bl)] = some (.bl false) := by
  have h : okq 20 (.lst (l.map D.bl)) = true := by simp [okq]
  simp [semEq, h, deq, deqs_bl]
theorem ne_marks {k : Nat} (hk : k < 23) : semEq true [.lst (ordL.map fun y => D.bl (ordL.getD k [] == y)), .lst ((List.range 23).map fun j => D.bl (decide (j = k)))] = some (.bl false) := by
  have e1 : (ordL.map fun y => D.bl (ordL.getD k [] == y)) = (ordL.map fun y => ordL.getD k [] == y).map D.bl := by rw [List.map_map]; rfl
  have e2 : ((List.range 23).map fun j => D.bl (decide (j = k))) = ((List.range 23).map fun j => decide (j = k)).map D.bl := by rw [List.map_map]; rfl
  rw [e1, e2, bools_eq k hk]
  exact ne_bl _
theorem ixk {ds : List D} {k : Nat} {d : D} (h : ds[k]? = some d) : semIx [.lst ds, .int (k : Nat)] = some (.fz d) := by
  have z := ix_at (g := id) h
  rw [List.map_id] at z
  exact z
theorem peM : semIn true [.bl true, .lst (ordL.map fun y => D.bl ([80,108,117,103,69,114,114,111,114] == y))] = some (.bl true) := by kernel_rfl
end PyD.k86
end

section
set_option Elab.async false
set_option linter.all false
set_option maxRecDepth 100000
namespace PyD.k86
variable [Om]
open PySem L2 PySem.Spec PyProof.Rows PyD
structure LR (m : List Nat) (a : Int) (w : List Nat) (k : Nat) (e : Env) : Prop where
  ex : ∃ x4, e = [some (.fz (.str m)), some (.fz (.int a)), some (.fz (.str w)), some (.fz (.lst (someL m a w))), x4, none]
@[irreducible] noncomputable def tailR : Env → R Fl := (sSeq (sFor (iRd rng1 (oExp (eC (.int 23)) oNil)) (gN 4) (sSeq (sIf (tBool (eA (semEq true) (oExp (eCall φ__law_marks (oExp (eB semIx (oVar 3 (oVar 4 oNil))) oNil)) (oExp (eComp [5] (iRd rng1 (oExp (eC (.int 23)) oNil)) (gN 5) tTrue (eA (semEq false) (oVar 5 (oVar 4 oNil)))) oNil)))) (sRet (eC (.bl false))) sNil)
  (sIf (tOr' (tNot' (tBool (eA (semIsV (isV [80,108,117,103,69,114,114,111,114])) (oExp (eB semIx (oVar 3 (oVar 4 oNil))) oNil)))) (tNot' (tBool (eA (semIsV isB) (oExp (eB semIx (oVar 3 (oVar 4 oNil))) oNil))))) (sRet (eC (.bl false))) sNil)))
  (sRet (eAnd (eCall φ__law_fields_right (oVar 1 (oVar 2 oNil))) (eA (semIn true) (oExp (eC (.bl true)) (oExp (eCall φ__law_marks (oExp (eNewZ [80,108,117,103,69,114,114,111,114] (eFz (eVar 0))) oNil)) oNil))))))
theorem tailR_def : ((sSeq (sFor (iRd rng1 (oExp (eC (.int 23)) oNil)) (gN 4) (sSeq (sIf (tBool (eA (semEq true) (oExp (eCall φ__law_marks (oExp (eB semIx (oVar 3 (oVar 4 oNil))) oNil)) (oExp (eComp [5] (iRd rng1 (oExp (eC (.int 23)) oNil)) (gN 5) tTrue (eA (semEq false) (oVar 5 (oVar 4 oNil)))) oNil)))) (sRet (eC (.bl false))) sNil)
  (sIf (tOr' (tNot' (tBool (eA (semIsV (isV [80,108,117,103,69,114,114,111,114])) (oExp (eB semIx (oVar 3 (oVar 4 oNil))) oNil)))) (tNot' (tBool (eA (semIsV isB) (oExp (eB semIx (oVar 3 (oVar 4 oNil))) oNil))))) (sRet (eC (.bl false))) sNil)))
  (sRet (eAnd (eCall φ__law_fields_right (oVar 1 (oVar 2 oNil))) (eA (semIn true) (oExp (eC (.bl true)) (oExp (eCall φ__law_marks (oExp (eNewZ [80,108,117,103,69,114,114,111,114] (eFz (eVar 0))) oNil)) oNil)))))) : Env → R Fl) = tailR := by unfold tailR; rfl
theorem tail_ok {m : List Nat} {a : Int} {w : List Nat} (h0 : 0 ≤ a) (h1 : a < 1000000001) : wpR (tailR [some (.fz (.str m)), some (.fz (.int a)), some (.fz (.str w)), some (.fz (.lst (someL m a w))), none, none]) (kOuts [false, false, false] [.fz (.str m), .fz (.int a), .fz (.str w)] fun x outs => x = .fz (.bl true) ∧ outs = [.fz (.str m), .fz (.int a), .fz (.str w)]) (kOutsX [false, false, false] [.fz (.str m), .fz (.int a), .fz (.str w)] noF) := by
  have rn : rng1 [D.int 23] = some ((List.range 23).map fun k => I (k : Nat)) := rng1_lit 23 (by omega)
  have hpe : Er [80,108,117,103,69,114,114,111,114] (.set [.str [80,108,117,103,69,114,114,111,114]]) := ⟨⟨_, rfl, .inl rfl⟩, by decide +kernel⟩
  have er (c : List Nat) : O.erases (ordL.map fun y => O.fz (.bl (c == y))) = ordL.map fun y => D.bl (c == y) := erases_mapF (fun y => D.bl (c == y)) ordL
  have sa := some_at m a w
  generalize hL : someL m a w = L at sa
  have hLR : ∀ k e, LR m a w k e ↔ ∃ x4, e = [some (.fz (.str m)), some (.fz (.int a)), some (.fz (.str w)), some (.fz (.lst L)), x4, none] := fun k e => ⟨fun ⟨h⟩ => hL ▸ h, fun h => ⟨hL ▸ h⟩⟩
  unfold tailR
  simp [wWXW, rn, -List.map_map]
  refine wp_loopA (I := fun k e => ∃ x4, e = [some (.fz (.str m)), some (.fz (.int a)), some (.fz (.str w)), some (.fz (.lst L)), x4, none]) ⟨_, rfl⟩ ?_ ?_
  · rintro q k e o ho ⟨x4, rfl⟩
    obtain ⟨rfl, hk⟩ := rng_at ho
    obtain ⟨d, hd, E⟩ := sa k hk
    have ne := ne_marks hk
    generalize ordL.getD k [] = c at E ne
    have hm := marks_ok E
    have hix := ixk hd
    have hi1 := E.is [80,108,117,103,69,114,114,111,114]
    have hi2 := E.isB
    simp [wWXW, hix, hm, -List.map_map]
    refine kComp_list (g := fun j => O.fz (.bl (decide (j = k)))) (by simp) ?_ ?_
    · intro j hj
      have ej : semEq false [D.int (j : Int), D.int (k : Int)] = some (.bl (decide (j = k))) := by
        have e : ((j : Int) == (k : Int)) = decide (j = k) := by
          by_cases h : j = k
          · simp [h]
          · simp [h, Int.natCast_inj]
        simp [semEq, okq, deq, e]
      simp [wWXW, ej]
      done
    have er2 : O.erases ((List.range 23).map fun j => O.fz (.bl (decide (j = k)))) = (List.range 23).map fun j => D.bl (decide (j = k)) := erases_mapF (fun j => D.bl (decide (j = k))) (List.range 23)
    simp [wWXW, er, er2, ne, hix, hi1, hi2, -List.map_map]
    done
  · rintro e ⟨x4, rfl⟩
    have hf := fields_ok (w := w) h0 h1
    have hm := marks_ok hpe
    simp [wWXW, hf, hm, wp_eNewZ, kNewZ, wp_eFz, kFz, er, peM, -List.map_map]
    done
end PyD.k86
end

section
set_option Elab.async false
set_option linter.all false
set_option maxRecDepth 100000
namespace PyD.k86
variable [Om]
open PySem L2 PySem.Spec PyProof.Rows PyD
@[irreducible] def bodyOf (E1 E2 E3 E4 E5 E6 E7 E8 E9 E10 E11 E12 E13 E14 E15 E16 E17 E18 E19 E20 E21 E22 E23 : Env → R O) (TL : Env → R Fl) : Env → R Fl := (sSeq (sAsg (eFz (eLst aNil)) (gN 3)) (sSeq (sAsg (eFz (eB semAdd (oVar 3 (oExp (eLst (aCons E1 (aCons E2 aNil))) oNil)))) (gN 3)) (sSeq (sAsg (eFz (eB semAdd (oVar 3 (oExp (eLst (aCons E3 (aCons E4 aNil))) oNil)))) (gN 3)) (sSeq (sAsg (eFz (eB semAdd (oVar 3 (oExp (eLst (aCons E5 (aCons E6 aNil))) oNil)))) (gN 3)) (sSeq (sAsg (eFz (eB semAdd (oVar 3 (oExp (eLst (aCons E7 (aCons E8 aNil))) oNil)))) (gN 3)) (sSeq (sAsg (eFz (eB semAdd (oVar 3 (oExp (eLst (aCons E9 (aCons E10 aNil))) oNil)))) (gN 3)) (sSeq (sAsg (eFz (eB semAdd (oVar 3 (oExp (eLst (aCons E11 (aCons E12 aNil))) oNil)))) (gN 3)) (sSeq (sAsg (eFz (eB semAdd (oVar 3 (oExp (eLst (aCons E13 (aCons E14 aNil))) oNil)))) (gN 3)) (sSeq (sAsg (eFz (eB semAdd (oVar 3 (oExp (eLst (aCons E15 (aCons E16 aNil))) oNil)))) (gN 3)) (sSeq (sAsg (eFz (eB semAdd (oVar 3 (oExp (eLst (aCons E17 (aCons E18 aNil))) oNil)))) (gN 3)) (sSeq (sAsg (eFz (eB semAdd (oVar 3 (oExp (eLst (aCons E19 (aCons E20 aNil))) oNil)))) (gN 3)) (sSeq (sAsg (eFz (eB semAdd (oVar 3 (oExp (eLst (aCons E21 (aCons E22 aNil))) oNil)))) (gN 3)) (sSeq (sAsg (eFz (eB semAdd (oVar 3 (oExp (eLst (aCons E23 aNil)) oNil)))) (gN 3)) TL)))))))))))))
theorem list_ok {M A W : Option O} {E1 E2 E3 E4 E5 E6 E7 E8 E9 E10 E11 E12 E13 E14 E15 E16 E17 E18 E19 E20 E21 E22 E23 : Env → R O} {d1 d2 d3 d4 d5 d6 d7 d8 d9 d10 d11 d12 d13 d14 d15 d16 d17 d18 d19 d20 d21 d22 d23 : D} {TL : Env → R Fl} {Q : Fl → Env → Prop} {X : WXK} (h1 : ∀ x, E1 [M, A, W, x, none, none] = .ok (.fz d1) [M, A, W, x, none, none]) (h2 : ∀ x, E2 [M, A, W, x, none, none] = .ok (.fz d2) [M, A, W, x, none, none]) (h3 : ∀ x, E3 [M, A, W, x, none, none] = .ok (.fz d3) [M, A, W, x, none, none]) (h4 : ∀ x, E4 [M, A, W, x, none, none] = .ok (.fz d4) [M, A, W, x, none, none]) (h5 : ∀ x, E5 [M, A, W, x, none, none] = .ok (.fz d5) [M, A, W, x, none, none]) (h6 : ∀ x, E6 [M, A, W, x, none, none] = .ok (.fz d6) [M, A, W, x, none, none]) (h7 : ∀ x, E7 [M, A, W, x, none, none] = .ok (.fz d7) [M, A, W, x, none, none]) (h8 : ∀ x, E8 [M, A, W, x, none, none] = .ok (.fz d8) [M, A, W, x, none, none]) (h9 : ∀ x, E9 [M, A, W, x, none, none] = .ok (.fz d9) [M, A, W, x, none, none]) (h10 : ∀ x, E10 [M, A, W, x, none, none] = .ok (.fz d10) [M, A, W, x, none, none]) (h11 : ∀ x, E11 [M, A, W, x, none, none] = .ok (.fz d11) [M, A, W, x, none, none]) (h12 : ∀ x, E12 [M, A, W, x, none, none] = .ok (.fz d12) [M, A, W, x, none, none]) (h13 : ∀ x, E13 [M, A, W, x, none, none] = .ok (.fz d13) [M, A, W, x, none, none]) (h14 : ∀ x, E14 [M, A, W, x, none, none] = .ok (.fz d14) [M, A, W, x, none, none]) (h15 : ∀ x, E15 [M, A, W, x, none, none] = .ok (.fz d15) [M, A, W, x, none, none]) (h16 : ∀ x, E16 [M, A, W, x, none, none] = .ok (.fz d16) [M, A, W, x, none, none]) (h17 : ∀ x, E17 [M, A, W, x, none, none] = .ok (.fz d17) [M, A, W, x, none, none]) (h18 : ∀ x, E18 [M, A, W, x, none, none] = .ok (.fz d18) [M, A, W, x, none, none]) (h19 : ∀ x, E19 [M, A, W, x, none, none] = .ok (.fz d19) [M, A, W, x, none, none]) (h20 : ∀ x, E20 [M, A, W, x, none, none] = .ok (.fz d20) [M, A, W, x, none, none]) (h21 : ∀ x, E21 [M, A, W, x, none, none] = .ok (.fz d21) [M, A, W, x, none, none]) (h22 : ∀ x, E22 [M, A, W, x, none, none] = .ok (.fz d22) [M, A, W, x, none, none]) (h23 : ∀ x, E23 [M, A, W, x, none, none] = .ok (.fz d23) [M, A, W, x, none, none]) (h : wpR (TL [M, A, W, some (.fz (.lst [d1, d2, d3, d4, d5, d6, d7, d8, d9, d10, d11, d12, d13, d14, d15, d16, d17, d18, d19, d20, d21, d22, d23])), none, none]) Q X) : wpR (bodyOf E1 E2 E3 E4 E5 E6 E7 E8 E9 E10 E11 E12 E13 E14 E15 E16 E17 E18 E19 E20 E21 E22 E23 TL [M, A, W, none, none, none]) Q X := by
  unfold bodyOf
  simp [wWXW, wp_eFz, kFz, h1, h2, h3, h4, h5, h6, h7, h8, h9, h10, h11, h12, h13, h14, h15, h16, h17, h18, h19, h20, h21, h22, h23]
  exact h
theorem text_new {a : Int} {M W : Option O} (h0 : 0 ≤ a) (h1 : a < 1000000001) (x : Option O) : ((eNewV [73,110,118,97,108,105,100,84,101,120,116] ["line", "word"] (aCons (eFz (eVar 1)) (aCons (eFz (eB semAdd (oVar 1 (oExp (eC (At.int 1)) oNil)))) aNil))) : Env → R O) [M, some (.fz (.int a)), W, x, none, none] = .ok (.fz (.set [.str [73,110,118,97,108,105,100,84,101,120,116], .lst [.str [108,105,110,101], .str [119,111,114,100]], .lst [.int a, .int (a + 1)]])) [M, some (.fz (.int a)), W, x, none, none] := by
  have e := ad1 h0 h1
  have z : (eB semAdd (oVar 1 (oExp (eC (At.int 1)) oNil)) : Env → R O) [M, some (.fz (.int a)), W, x, none, none] = .ok (.fz (.int (a + 1))) [M, some (.fz (.int a)), W, x, none, none] := by
    show (match (some [D.int a, D.int 1] : Option (List D)).bind semAdd with | some o => R.ok o _ | none => .bad) = _
    rw [Option.bind_some, e]
  simp only [eNewV, aCons, eFz, z, aNil, frzs]
  rfl
theorem bodyR_def : b__law_right = bodyOf (eNewV [73,110,118,97,108,105,100,67,97,116,97,108,111,103] ["index"] (aCons (eFz (eVar 1)) aNil)) (eNewZ [73,110,118,97,108,105,100,68,101,118,105,99,101] (eFz (eVar 0))) (eNewV [73,110,118,97,108,105,100,70,111,114,101,115,116] ["label"] (aCons (eFz (eVar 2)) aNil)) (eNewZ [73,110,118,97,108,105,100,75,101,121,115] (eFz (eVar 0))) (eNewV [73,110,118,97,108,105,100,76,97,98,101,108] ["label"] (aCons (eFz (eVar 2)) aNil)) (eNewV [73,110,118,97,108,105,100,76,105,110,107,115] ["link"] (aCons (eFz (eVar 2)) aNil)) (eNewV [73,110,118,97,108,105,100,78,97,109,105,110,103] ["label"] (aCons (eFz (eVar 2)) aNil)) (eNewZ [73,110,118,97,108,105,100,78,117,109,98,101,114] (eFz (eVar 0))) (eNewZ [73,110,118,97,108,105,100,79,114,100,101,114] (eFz (eVar 0))) (eNewV [73,110,118,97,108,105,100,79,119,110,101,114,115] ["link"] (aCons (eFz (eVar 2)) aNil)) (eNewV [73,110,118,97,108,105,100,80,97,116,116,101,114,110,115] ["index"] (aCons (eFz (eVar 1)) aNil)) (eNewV [73,110,118,97,108,105,100,82,117,108,101,115] ["index"] (aCons (eFz (eVar 1)) aNil)) (eNewZ [73,110,118,97,108,105,100,83,116,97,116,101] (eFz (eVar 0))) (eNewV [73,110,118,97,108,105,100,84,101,120,116] ["line", "word"] (aCons (eFz (eVar 1)) (aCons (eFz (eB semAdd (oVar 1 (oExp (eC (At.int 1)) oNil)))) aNil))) (eNewV [73,110,118,97,108,105,100,87,105,100,116,104,115] ["label"] (aCons (eFz (eVar 2)) aNil)) (eNewZ [73,110,118,97,108,105,100,87,111,114,100] (eFz (eVar 0))) (eNewV [73,115,80,108,117,103,103,101,100] ["label"] (aCons (eFz (eVar 2)) aNil)) (eNewV [78,97,109,101,84,97,107,101,110] ["label"] (aCons (eFz (eVar 2)) aNil)) (eNewV [78,111,69,110,100] ["ring"] (aCons (eFz (eLst (aCons (eVar 2) (aCons (eC (At.str [98])) aNil)))) aNil)) (eNewV [78,111,116,80,108,117,103,103,101,100] ["label"] (aCons (eFz (eVar 2)) aNil)) (eNewZ [78,111,116,104,105,110,103,84,111,85,110,100,111] (eFz (eVar 0))) (eNewV [83,108,111,116,84,97,107,101,110] ["label"] (aCons (eFz (eVar 2)) aNil)) (eNewV [84,111,111,77,97,110,121] ["limit"] (aCons (eFz (eVar 1)) aNil)) tailR := by
  unfold b__law_right bodyOf
  rw [tailR_def]
theorem body_ok {m : List Nat} {a : Int} {w : List Nat} {Q : Fl → Env → Prop} {X : WXK} (h0 : 0 ≤ a) (h1 : a < 1000000001) (h : wpR (tailR [some (.fz (.str m)), some (.fz (.int a)), some (.fz (.str w)), some (.fz (.lst (someL m a w))), none, none]) Q X) : wpR (bodyOf (eNewV [73,110,118,97,108,105,100,67,97,116,97,108,111,103] ["index"] (aCons (eFz (eVar 1)) aNil)) (eNewZ [73,110,118,97,108,105,100,68,101,118,105,99,101] (eFz (eVar 0))) (eNewV [73,110,118,97,108,105,100,70,111,114,101,115,116] ["label"] (aCons (eFz (eVar 2)) aNil)) (eNewZ [73,110,118,97,108,105,100,75,101,121,115] (eFz (eVar 0))) (eNewV [73,110,118,97,108,105,100,76,97,98,101,108] ["label"] (aCons (eFz (eVar 2)) aNil)) (eNewV [73,110,118,97,108,105,100,76,105,110,107,115] ["link"] (aCons (eFz (eVar 2)) aNil)) (eNewV [73,110,118,97,108,105,100,78,97,109,105,110,103] ["label"] (aCons (eFz (eVar 2)) aNil)) (eNewZ [73,110,118,97,108,105,100,78,117,109,98,101,114] (eFz (eVar 0))) (eNewZ [73,110,118,97,108,105,100,79,114,100,101,114] (eFz (eVar 0))) (eNewV [73,110,118,97,108,105,100,79,119,110,101,114,115] ["link"] (aCons (eFz (eVar 2)) aNil)) (eNewV [73,110,118,97,108,105,100,80,97,116,116,101,114,110,115] ["index"] (aCons (eFz (eVar 1)) aNil)) (eNewV [73,110,118,97,108,105,100,82,117,108,101,115] ["index"] (aCons (eFz (eVar 1)) aNil)) (eNewZ [73,110,118,97,108,105,100,83,116,97,116,101] (eFz (eVar 0))) (eNewV [73,110,118,97,108,105,100,84,101,120,116] ["line", "word"] (aCons (eFz (eVar 1)) (aCons (eFz (eB semAdd (oVar 1 (oExp (eC (At.int 1)) oNil)))) aNil))) (eNewV [73,110,118,97,108,105,100,87,105,100,116,104,115] ["label"] (aCons (eFz (eVar 2)) aNil)) (eNewZ [73,110,118,97,108,105,100,87,111,114,100] (eFz (eVar 0))) (eNewV [73,115,80,108,117,103,103,101,100] ["label"] (aCons (eFz (eVar 2)) aNil)) (eNewV [78,97,109,101,84,97,107,101,110] ["label"] (aCons (eFz (eVar 2)) aNil)) (eNewV [78,111,69,110,100] ["ring"] (aCons (eFz (eLst (aCons (eVar 2) (aCons (eC (At.str [98])) aNil)))) aNil)) (eNewV [78,111,116,80,108,117,103,103,101,100] ["label"] (aCons (eFz (eVar 2)) aNil)) (eNewZ [78,111,116,104,105,110,103,84,111,85,110,100,111] (eFz (eVar 0))) (eNewV [83,108,111,116,84,97,107,101,110] ["label"] (aCons (eFz (eVar 2)) aNil)) (eNewV [84,111,111,77,97,110,121] ["limit"] (aCons (eFz (eVar 1)) aNil)) tailR [some (.fz (.str m)), some (.fz (.int a)), some (.fz (.str w)), none, none, none]) Q X := by
  unfold someL at h
  refine list_ok ?_ ?_ ?_ ?_ ?_ ?_ ?_ ?_ ?_ ?_ ?_ ?_ ?_ ?_ ?_ ?_ ?_ ?_ ?_ ?_ ?_ ?_ ?_ h
  all_goals (intro x; first | exact text_new h0 h1 x | rfl)
theorem right_ok {m : List Nat} {a : Int} {w : List Nat} (h0 : 0 ≤ a) (h1 : a < 1000000001) : wpF (φ__law_right [.fz (.str m), .fz (.int a), .fz (.str w)]) (fun x outs => x = .fz (.bl true) ∧ outs = [.fz (.str m), .fz (.int a), .fz (.str w)]) noF := by
  have tl := tail_ok (m := m) (w := w) h0 h1
  unfold φ__law_right
  rw [bodyR_def]
  simp [wWXW]
  exact body_ok h0 h1 tl
end PyD.k86
end

section
set_option Elab.async false
set_option linter.all false
set_option maxRecDepth 100000
set_option exponentiation.threshold 100000
namespace PyD.k86
variable [Om]
open PySem L2 PySem.Spec PyProof.Rows PyD
abbrev B (b : Bool) : O := .fz (.bl b)
theorem forall_str {P : D → Prop} {a b c : List Nat} (h : ∀ w, P (.str w)) : ∀ d ∈ [D.str a, D.str b, D.str c], P d := by
  intro d hd
  simp at hd
  rcases hd with rfl | rfl | rfl <;> exact h _
theorem p109 : powOk 10 9 = true := by
  have i0 : isBig 10 = true := big_of (by decide)
  unfold powOk; rw [i0]; rfl
structure LI (cs : List Int) (A : D) (k : Nat) (e : Env) : Prop where
  ex : ∃ x2 x3 x4 x5, e = [some (.fz A), some (.fz (.lst (cs.map D.int))), x2, x3, x4, x5]
theorem ints_lo (cs : List Int) : (cs.map D.int).map O.fz = cs.map fun i => I i := by simp
theorem er_int (cs : List Int) : O.erases (cs.map fun i => I i) = cs.map D.int := erases_mapF D.int cs
theorem eq_ni : semEq false [D.lst [], D.lst []] = some (.bl true) := by simp [semEq, okq, deq, deqs]
theorem eq_ci (z : Int) (r : List Int) : semEq false [D.lst (D.int z :: r.map D.int), D.lst []] = some (.bl false) := by simp [semEq, okq, deq, deqs]
@[irreducible] noncomputable def loopB : Env → R Fl := (sSeq (sFor (iRd rng1 (oExp (eA semLen (oVar 1 oNil)) oNil)) (gN 2) (sSeq (sAsg (eCall φ__law_bag (oExp (eB semIx (oVar 1 (oVar 2 oNil))) (oVar 2 oNil))) (gN 3))
  (sSeq (sAsg (eFz (eB semMul (oExp (eB semIx (oExp (eC (.str [97,124,32,126])) (oExp (eCall φ__law_draw (oVar 3 (oExp (eC (.int 4)) oNil))) oNil))) (oExp (eCall φ__law_draw (oVar 3 (oExp (eC (.int 60)) oNil))) oNil)))) (gN 4))
  (sSeq (sAsg (eFz (eB semIx (oExp (eLst (aCons (eC (.str [97])) (aCons (eC (.str [122,122,57])) (aCons (eC (.str [48])) aNil)))) (oExp (eCall φ__law_draw (oVar 3 (oExp (eC (.int 3)) oNil))) oNil)))) (gN 5))
  (sIf (tNot' (tBool (eCall φ__law_right (oVar 4 (oExp (eFz (eCall φ__law_draw (oVar 3 (oExp (eA semPow (oExp (eC (.int 10)) (oExp (eC (.int 9)) oNil))) oNil)))) (oVar 5 oNil)))))) (sRet (eC (At.bl false))) sNil)))))
  (sRet (eC (At.bl true))))
theorem loopB_def : ((sSeq (sFor (iRd rng1 (oExp (eA semLen (oVar 1 oNil)) oNil)) (gN 2) (sSeq (sAsg (eCall φ__law_bag (oExp (eB semIx (oVar 1 (oVar 2 oNil))) (oVar 2 oNil))) (gN 3))
  (sSeq (sAsg (eFz (eB semMul (oExp (eB semIx (oExp (eC (.str [97,124,32,126])) (oExp (eCall φ__law_draw (oVar 3 (oExp (eC (.int 4)) oNil))) oNil))) (oExp (eCall φ__law_draw (oVar 3 (oExp (eC (.int 60)) oNil))) oNil)))) (gN 4))
  (sSeq (sAsg (eFz (eB semIx (oExp (eLst (aCons (eC (.str [97])) (aCons (eC (.str [122,122,57])) (aCons (eC (.str [48])) aNil)))) (oExp (eCall φ__law_draw (oVar 3 (oExp (eC (.int 3)) oNil))) oNil)))) (gN 5))
  (sIf (tNot' (tBool (eCall φ__law_right (oVar 4 (oExp (eFz (eCall φ__law_draw (oVar 3 (oExp (eA semPow (oExp (eC (.int 10)) (oExp (eC (.int 9)) oNil))) oNil)))) (oVar 5 oNil)))))) (sRet (eC (At.bl false))) sNil)))))
  (sRet (eC (At.bl true)))) : Env → R Fl) = loopB := by unfold loopB; rfl
theorem loop_ok2 {A : D} {cs : List Int} (h : cs.length ≤ 8) : wpR (loopB [some (.fz A), some (.fz (.lst (cs.map D.int))), none, none, none, none]) (kOuts [false] [O.fz A] fun x outs => x = B true) (kOutsX [false] [O.fz A] noF) := by
  unfold loopB
  have rn : rng1 [D.int (cs.length : Nat)] = some ((List.range cs.length).map fun k => I (k : Nat)) := rng1_lit _ (by omega)
  simp [wWXW, rn, -List.map_map]
  refine wp_loopA (I := LI cs A) ⟨_, _, _, _, rfl⟩ ?_ ?_
  · rintro q k e o ho ⟨x2, x3, x4, x5, rfl⟩
    obtain ⟨rfl, hk⟩ := rng_at ho
    simp [wWXW, -List.map_map]
    refine ok_ixL (by omega) (by simp; omega) ?_
    intro d hd
    obtain ⟨x, _, rfl⟩ := List.mem_map.mp hd
    simp [wWXW, -List.map_map]
    refine wpF_use (bag_wp (x := x) (k := k) (by omega) (by omega)) ?_
    rintro _ _ ⟨a, c, rfl, rfl, Z⟩
    simp [wWXW, -List.map_map]
    refine wpF_use (draw_wp Z (by omega) (by first | omega | decide) (by first | omega | decide)) ?_
    rintro _ _ ⟨r0, aZ0, bZ0, rfl, rfl, h0r0, h1r0, Z0⟩
    simp [wWXW, -List.map_map]
    refine ok_ixS (by omega) (by simp; omega) ?_
    intro y hy
    simp [wWXW, -List.map_map]
    refine wpF_use (draw_wp Z0 (by omega) (by first | omega | decide) (by first | omega | decide)) ?_
    rintro _ _ ⟨r1, aZ1, bZ1, rfl, rfl, h0r1, h1r1, Z1⟩
    have nl : r1.natAbs ≤ LIM := by unfold LIM; omega
    have em : semMul [.str [y], .int r1] = some (.fz (.str (List.replicate r1.toNat [y]).flatten)) := by
      have nl2 : ([y] : List Nat).length * r1.toNat ≤ LIM := by rw [List.length_singleton]; unfold LIM; omega
      show (if r1.natAbs ≤ LIM ∧ ([y] : List Nat).length * r1.toNat ≤ LIM then _ else _) = _
      rw [if_pos ⟨nl, nl2⟩]
    generalize (List.replicate r1.toNat [y]).flatten = mm at em
    simp [wWXW, em, wp_eFz, kFz, -List.map_map]
    refine wpF_use (draw_wp Z1 (by omega) (by first | omega | decide) (by first | omega | decide)) ?_
    rintro _ _ ⟨r2, aZ2, bZ2, rfl, rfl, h0r2, h1r2, Z2⟩
    simp [wWXW, -List.map_map]
    refine ok_ixL (by omega) (by simp; omega) (forall_str ?_)
    intro w
    simp [wWXW, p109, wp_eFz, kFz, -List.map_map]
    refine wpF_use (draw_wp Z2 (by omega) (by first | omega | decide) (by first | omega | decide)) ?_
    rintro _ _ ⟨r3, aZ3, bZ3, rfl, rfl, h0r3, h1r3, Z3⟩
    simp [wWXW, wp_eFz, kFz, -List.map_map]
    refine wpF_use (right_ok (m := mm) (a := r3) (w := w) (by omega) (by omega)) ?_
    rintro _ os ⟨rfl, rfl⟩
    simp [wWXW, -List.map_map]
    exact ⟨_, _, _, _, rfl⟩
  · rintro e ⟨x2, x3, x4, x5, rfl⟩
    simp [wWXW, -List.map_map]
theorem cells_ok {xs : List D} {b : Bool} {a m r : List O} {Q : Fl → Env → Prop} {X : WXK} (e0 : semEq false [.lst xs, .lst []] = some (.bl b)) (ct : semSlNS [.lst xs, .int 8] = some (.lst a)) (em : semMul [.lst [.int 0], .int (if b then 1 else 0)] = some (.lst m)) (ad : semAdd [.lst (O.erases a), .lst (O.erases m)] = some (.lst r)) (h : Q .nx [some (.fz (.lst xs)), some (.fz (.lst (O.erases r))), none, none, none, none]) : wpR ((sAsg (eFz (eB semAdd (oExp (eB semSlNS (oVar 0 (oExp (eC (.int 8)) oNil))) (oExp (eB semMul (oExp (eLst (aCons (eC (.int 0)) aNil)) (oExp (eA semInt (oExp (eA (semEq false) (oVar 0 (oExp (eLst aNil) oNil))) oNil)) oNil))) oNil)))) (gN 1)) [some (.fz (.lst xs)), none, none, none, none, none]) Q X := by
  simp [wWXW, ct, e0, em, ad, -semAdd, -semMul, -List.map_map]
  exact h
theorem law_true (ns : List Int) (hl : ns.length ≤ 63) (hb : ∀ z ∈ ns, Builtin.Int.intBits z ≤ 1048576) : ∃ outs, φ_law [.fz (.lst (ns.map D.int))] = .ret (.fz (.bl true)) outs := by
  have goal : wpF (φ_law [.fz (.lst (ns.map D.int))]) (fun x outs => x = B true) noF := by
    obtain ⟨b, e0⟩ : ∃ b : Bool, semEq false [.lst (ns.map D.int), .lst []] = some (.bl b) ∧ (b = true ↔ ns = []) := by
      cases ns with
      | nil => exact ⟨true, eq_ni, by simp⟩
      | cons z r => exact ⟨false, eq_ci z r, by simp⟩
    obtain ⟨e0, eb⟩ := e0
    have ct : semSlNS [.lst (ns.map D.int), .int 8] = some (.lst ((ns.take 8).map fun i => I i)) := by
      rw [slNS_l, cutL_take (by decide), ← List.map_take, ints_lo]
      rfl
    obtain ⟨cs, ms, em, ad, c3⟩ : ∃ (cs : List Int) (ms : List O), semMul [.lst [.int 0], .int (if b then 1 else 0)] = some (.lst ms) ∧ semAdd [.lst (O.erases ((ns.take 8).map fun i => I i)), .lst (O.erases ms)] = some (.lst (cs.map fun i => I i)) ∧ cs.length ≤ 8 := by
      cases b with
      | true =>
        have z := eb.mp rfl
        subst z
        exact ⟨[0], [I 0], rfl, rfl, by decide⟩
      | false =>
        have l3 : (ns.take 8).length ≤ 8 := by
          rw [List.length_take]
          omega
        refine ⟨ns.take 8, [], rfl, ?_, l3⟩
        rw [er_int]
        show (if ((ns.take 8).map D.int).length + 0 ≤ 1000000 then some (O.lst (((ns.take 8).map D.int ++ []).map .fz)) else none) = _
        rw [if_pos (by rw [List.length_map]; omega), List.append_nil, ints_lo]
    have fin := loop_ok2 (A := .lst (ns.map D.int)) (cs := cs) c3
    have er := er_int cs
    clear hb hl eb
    generalize ns.map D.int = xs at *
    generalize (ns.take 8).map (fun i => I i) = a at *
    generalize cs.map (fun i => I i) = r at *
    rw [← er] at fin
    unfold φ_law b_law
    rw [loopB_def]
    generalize hAS : (sAsg (eFz (eB semAdd (oExp (eB semSlNS (oVar 0 (oExp (eC (.int 8)) oNil))) (oExp (eB semMul (oExp (eLst (aCons (eC (.int 0)) aNil)) (oExp (eA semInt (oExp (eA (semEq false) (oVar 0 (oExp (eLst aNil) oNil))) oNil)) oNil))) oNil)))) (gN 1)) = AS
    generalize loopB = LB at *
    simp [wWXW]
    rw [← hAS]
    refine cells_ok e0 ct em ad ?_
    exact fin
  obtain ⟨o, outs, h, rfl⟩ := wpF_ex goal
  exact ⟨outs, h⟩
end PyD.k86
end

section
set_option Elab.async false
set_option linter.all false
set_option maxRecDepth 100000
set_option maxHeartbeats 0
namespace PyD.k86
open PySem L2 PySem.Spec PyProof.Rows PyD
theorem facts [Om] {P : Program} {w : World}  {K : PySem.W.Frag} {h : Heap} {mg : Str → Option Value} {f : Addr} (X : K.In h) (G : h.Ns mainGlobals mg) (hfa : mg ("law" : Str) = some (.ref f)) (hP : (P.main.scope.names.lookup ("super" : Str)).isSome = false) (cp : SaysE fa fn fx P ins K) :
    ∃ fd : FuncData, (∀ (s : Shared) (v : Value), BindsTo s fd ⟨[v], []⟩ [("_law_script", v)]) ∧ ∀ base : Heap, K.In base → base.Ns mainGlobals mg → FnG P w K mg base (L2N.CX P w) 4 f fd ["_law_script"] (spF K φ_law 1) := by
  have c := cp.p.1
  have Gm : Gs K mg := ⟨He.free_ok X G (c.fact 6 (f := .free "ValueError") rfl), He.free_ok X G (c.fact 7 (f := .free "int") rfl), He.free_ok X G (c.fact 8 (f := .free "isinstance") rfl), He.free_ok X G (c.fact 9 (f := .free "len") rfl), He.free_ok X G (c.fact 10 (f := .free "range") rfl)⟩
  have hx : exB K = true := cp.p.2
  have Xs : Ex P K mg := ⟨excZ_of X G (c.fact 12 (f := .glo "InvalidDevice") rfl) (c.fact 35 (f := .exc "InvalidDevice") rfl), excZ_of X G (c.fact 14 (f := .glo "InvalidKeys") rfl) (c.fact 36 (f := .exc "InvalidKeys") rfl), excZ_of X G (c.fact 18 (f := .glo "InvalidNumber") rfl) (c.fact 37 (f := .exc "InvalidNumber") rfl), excZ_of X G (c.fact 19 (f := .glo "InvalidOrder") rfl) (c.fact 38 (f := .exc "InvalidOrder") rfl), excZ_of X G (c.fact 23 (f := .glo "InvalidState") rfl) (c.fact 39 (f := .exc "InvalidState") rfl), excZ_of X G (c.fact 26 (f := .glo "InvalidWord") rfl) (c.fact 40 (f := .exc "InvalidWord") rfl), excZ_of X G (c.fact 31 (f := .glo "NothingToUndo") rfl) (c.fact 41 (f := .exc "NothingToUndo") rfl), excZ_of X G (c.fact 32 (f := .glo "PlugError") rfl) (c.fact 42 (f := .exc "PlugError") rfl), excVI_of (d := ini_InvalidCatalog) X G (c.fact 11 (f := .glo "InvalidCatalog") rfl) (iniT_InvalidCatalog hP) (cp.i ini_InvalidCatalog (by simp [ins])) (by
    intro x hx2
    simp only [List.mem_cons, List.not_mem_nil, or_false] at hx2
    rcases hx2 with rfl
    · exact (exB_ok hx (c := "InvalidCatalog") (by decide +kernel)).2.2.2.2.2.2.2.2.2.2.2.2.2.2.2.2.2.2.2.2.2.2.2.2.2.2.1), excVI_of (d := ini_InvalidForest) X G (c.fact 13 (f := .glo "InvalidForest") rfl) (iniT_InvalidForest hP) (cp.i ini_InvalidForest (by simp [ins])) (by
    intro x hx2
    simp only [List.mem_cons, List.not_mem_nil, or_false] at hx2
    rcases hx2 with rfl
    · exact (exB_ok hx (c := "InvalidForest") (by decide +kernel)).2.2.2.2.2.2.2.2.2.2.2.2.2.2.2.2.2.2.2.2.2.2.2.2.2.2.2.1), excVI_of (d := ini_InvalidLabel) X G (c.fact 15 (f := .glo "InvalidLabel") rfl) (iniT_InvalidLabel hP) (cp.i ini_InvalidLabel (by simp [ins])) (by
    intro x hx2
    simp only [List.mem_cons, List.not_mem_nil, or_false] at hx2
    rcases hx2 with rfl
    · exact (exB_ok hx (c := "InvalidLabel") (by decide +kernel)).2.2.2.2.2.2.2.2.2.2.2.2.2.2.2.2.2.2.2.2.2.2.2.2.2.2.2.1), excVI_of (d := ini_InvalidLinks) X G (c.fact 16 (f := .glo "InvalidLinks") rfl) (iniT_InvalidLinks hP) (cp.i ini_InvalidLinks (by simp [ins])) (by
    intro x hx2
    simp only [List.mem_cons, List.not_mem_nil, or_false] at hx2
    rcases hx2 with rfl
    · exact (exB_ok hx (c := "InvalidLinks") (by decide +kernel)).2.2.2.2.2.2.2.2.2.2.2.2.2.2.2.2.2.2.2.2.2.2.2.2.2.2.2.2.2.2.1), excVI_of (d := ini_InvalidNaming) X G (c.fact 17 (f := .glo "InvalidNaming") rfl) (iniT_InvalidNaming hP) (cp.i ini_InvalidNaming (by simp [ins])) (by
    intro x hx2
    simp only [List.mem_cons, List.not_mem_nil, or_false] at hx2
    rcases hx2 with rfl
    · exact (exB_ok hx (c := "InvalidNaming") (by decide +kernel)).2.2.2.2.2.2.2.2.2.2.2.2.2.2.2.2.2.2.2.2.2.2.2.2.2.2.2.1), excVI_of (d := ini_InvalidOwners) X G (c.fact 20 (f := .glo "InvalidOwners") rfl) (iniT_InvalidOwners hP) (cp.i ini_InvalidOwners (by simp [ins])) (by
    intro x hx2
    simp only [List.mem_cons, List.not_mem_nil, or_false] at hx2
    rcases hx2 with rfl
    · exact (exB_ok hx (c := "InvalidOwners") (by decide +kernel)).2.2.2.2.2.2.2.2.2.2.2.2.2.2.2.2.2.2.2.2.2.2.2.2.2.2.2.2.2.2.1), excVI_of (d := ini_InvalidPatterns) X G (c.fact 21 (f := .glo "InvalidPatterns") rfl) (iniT_InvalidPatterns hP) (cp.i ini_InvalidPatterns (by simp [ins])) (by
    intro x hx2
    simp only [List.mem_cons, List.not_mem_nil, or_false] at hx2
    rcases hx2 with rfl
    · exact (exB_ok hx (c := "InvalidPatterns") (by decide +kernel)).2.2.2.2.2.2.2.2.2.2.2.2.2.2.2.2.2.2.2.2.2.2.2.2.2.2.1), excVI_of (d := ini_InvalidRules) X G (c.fact 22 (f := .glo "InvalidRules") rfl) (iniT_InvalidRules hP) (cp.i ini_InvalidRules (by simp [ins])) (by
    intro x hx2
    simp only [List.mem_cons, List.not_mem_nil, or_false] at hx2
    rcases hx2 with rfl
    · exact (exB_ok hx (c := "InvalidRules") (by decide +kernel)).2.2.2.2.2.2.2.2.2.2.2.2.2.2.2.2.2.2.2.2.2.2.2.2.2.2.1), excVI_of (d := ini_InvalidText) X G (c.fact 24 (f := .glo "InvalidText") rfl) (iniT_InvalidText hP) (cp.i ini_InvalidText (by simp [ins])) (by
    intro x hx2
    simp only [List.mem_cons, List.not_mem_nil, or_false] at hx2
    rcases hx2 with rfl | rfl
    · exact (exB_ok hx (c := "InvalidText") (by decide +kernel)).2.2.2.2.2.2.2.2.2.2.2.2.2.2.2.2.2.2.2.2.2.2.2.2.2.2.2.2.2.1
    · exact (exB_ok hx (c := "InvalidText") (by decide +kernel)).2.2.2.2.2.2.2.2.2.2.2.2.2.2.2.2.2.2.2.2.2.2.2.2.2.2.2.2.2.2.2.2), excVI_of (d := ini_InvalidWidths) X G (c.fact 25 (f := .glo "InvalidWidths") rfl) (iniT_InvalidWidths hP) (cp.i ini_InvalidWidths (by simp [ins])) (by
    intro x hx2
    simp only [List.mem_cons, List.not_mem_nil, or_false] at hx2
    rcases hx2 with rfl
    · exact (exB_ok hx (c := "InvalidWidths") (by decide +kernel)).2.2.2.2.2.2.2.2.2.2.2.2.2.2.2.2.2.2.2.2.2.2.2.2.2.2.2.1), excVI_of (d := ini_IsPlugged) X G (c.fact 27 (f := .glo "IsPlugged") rfl) (iniT_IsPlugged hP) (cp.i ini_IsPlugged (by simp [ins])) (by
    intro x hx2
    simp only [List.mem_cons, List.not_mem_nil, or_false] at hx2
    rcases hx2 with rfl
    · exact (exB_ok hx (c := "IsPlugged") (by decide +kernel)).2.2.2.2.2.2.2.2.2.2.2.2.2.2.2.2.2.2.2.2.2.2.2.2.2.2.2.1), excVI_of (d := ini_NameTaken) X G (c.fact 28 (f := .glo "NameTaken") rfl) (iniT_NameTaken hP) (cp.i ini_NameTaken (by simp [ins])) (by
    intro x hx2
    simp only [List.mem_cons, List.not_mem_nil, or_false] at hx2
    rcases hx2 with rfl
    · exact (exB_ok hx (c := "NameTaken") (by decide +kernel)).2.2.2.2.2.2.2.2.2.2.2.2.2.2.2.2.2.2.2.2.2.2.2.2.2.2.2.1), excVI_of (d := ini_NoEnd) X G (c.fact 29 (f := .glo "NoEnd") rfl) (iniT_NoEnd hP) (cp.i ini_NoEnd (by simp [ins])) (by
    intro x hx2
    simp only [List.mem_cons, List.not_mem_nil, or_false] at hx2
    rcases hx2 with rfl
    · exact (exB_ok hx (c := "NoEnd") (by decide +kernel)).2.2.2.2.2.2.2.2.2.2.2.2.2.2.2.2.2.2.2.2.2.2.2.2.2.2.2.2.2.2.2.1), excVI_of (d := ini_NotPlugged) X G (c.fact 30 (f := .glo "NotPlugged") rfl) (iniT_NotPlugged hP) (cp.i ini_NotPlugged (by simp [ins])) (by
    intro x hx2
    simp only [List.mem_cons, List.not_mem_nil, or_false] at hx2
    rcases hx2 with rfl
    · exact (exB_ok hx (c := "NotPlugged") (by decide +kernel)).2.2.2.2.2.2.2.2.2.2.2.2.2.2.2.2.2.2.2.2.2.2.2.2.2.2.2.1), excVI_of (d := ini_SlotTaken) X G (c.fact 33 (f := .glo "SlotTaken") rfl) (iniT_SlotTaken hP) (cp.i ini_SlotTaken (by simp [ins])) (by
    intro x hx2
    simp only [List.mem_cons, List.not_mem_nil, or_false] at hx2
    rcases hx2 with rfl
    · exact (exB_ok hx (c := "SlotTaken") (by decide +kernel)).2.2.2.2.2.2.2.2.2.2.2.2.2.2.2.2.2.2.2.2.2.2.2.2.2.2.2.1), excVI_of (d := ini_TooMany) X G (c.fact 34 (f := .glo "TooMany") rfl) (iniT_TooMany hP) (cp.i ini_TooMany (by simp [ins])) (by
    intro x hx2
    simp only [List.mem_cons, List.not_mem_nil, or_false] at hx2
    rcases hx2 with rfl
    · exact (exB_ok hx (c := "TooMany") (by decide +kernel)).2.2.2.2.2.2.2.2.2.2.2.2.2.2.2.2.2.2.2.2.2.2.2.2.2.2.2.2.1), He.glo_ok X G (c.fact 11 (f := .glo "InvalidCatalog") rfl), He.glo_ok X G (c.fact 12 (f := .glo "InvalidDevice") rfl), He.glo_ok X G (c.fact 13 (f := .glo "InvalidForest") rfl), He.glo_ok X G (c.fact 14 (f := .glo "InvalidKeys") rfl), He.glo_ok X G (c.fact 15 (f := .glo "InvalidLabel") rfl), He.glo_ok X G (c.fact 16 (f := .glo "InvalidLinks") rfl), He.glo_ok X G (c.fact 17 (f := .glo "InvalidNaming") rfl), He.glo_ok X G (c.fact 18 (f := .glo "InvalidNumber") rfl), He.glo_ok X G (c.fact 19 (f := .glo "InvalidOrder") rfl), He.glo_ok X G (c.fact 20 (f := .glo "InvalidOwners") rfl), He.glo_ok X G (c.fact 21 (f := .glo "InvalidPatterns") rfl), He.glo_ok X G (c.fact 22 (f := .glo "InvalidRules") rfl), He.glo_ok X G (c.fact 23 (f := .glo "InvalidState") rfl), He.glo_ok X G (c.fact 24 (f := .glo "InvalidText") rfl), He.glo_ok X G (c.fact 25 (f := .glo "InvalidWidths") rfl), He.glo_ok X G (c.fact 26 (f := .glo "InvalidWord") rfl), He.glo_ok X G (c.fact 27 (f := .glo "IsPlugged") rfl), He.glo_ok X G (c.fact 28 (f := .glo "NameTaken") rfl), He.glo_ok X G (c.fact 29 (f := .glo "NoEnd") rfl), He.glo_ok X G (c.fact 30 (f := .glo "NotPlugged") rfl), He.glo_ok X G (c.fact 31 (f := .glo "NothingToUndo") rfl), He.glo_ok X G (c.fact 32 (f := .glo "PlugError") rfl), He.glo_ok X G (c.fact 33 (f := .glo "SlotTaken") rfl), He.glo_ok X G (c.fact 34 (f := .glo "TooMany") rfl), fun hk => excCB_ok (exB_ok hx hk).1, fun hk => ⟨(excCB_ok (exB_ok hx hk).1).1, (exB_ok hx hk).2.1⟩, fun hk => ⟨(excCB_ok (exB_ok hx hk).1).1, (exB_ok hx hk).2.2.1⟩, fun hk => ⟨(excCB_ok (exB_ok hx hk).1).1, (exB_ok hx hk).2.2.2.1⟩, fun hk => ⟨(excCB_ok (exB_ok hx hk).1).1, (exB_ok hx hk).2.2.2.2.1⟩, fun hk => ⟨(excCB_ok (exB_ok hx hk).1).1, (exB_ok hx hk).2.2.2.2.2.1⟩, fun hk => ⟨(excCB_ok (exB_ok hx hk).1).1, (exB_ok hx hk).2.2.2.2.2.2.1⟩, fun hk => ⟨(excCB_ok (exB_ok hx hk).1).1, (exB_ok hx hk).2.2.2.2.2.2.2.1⟩, fun hk => ⟨(excCB_ok (exB_ok hx hk).1).1, (exB_ok hx hk).2.2.2.2.2.2.2.2.1⟩, fun hk => ⟨(excCB_ok (exB_ok hx hk).1).1, (exB_ok hx hk).2.2.2.2.2.2.2.2.2.1⟩, fun hk => ⟨(excCB_ok (exB_ok hx hk).1).1, (exB_ok hx hk).2.2.2.2.2.2.2.2.2.2.1⟩, fun hk => ⟨(excCB_ok (exB_ok hx hk).1).1, (exB_ok hx hk).2.2.2.2.2.2.2.2.2.2.2.1⟩, fun hk => ⟨(excCB_ok (exB_ok hx hk).1).1, (exB_ok hx hk).2.2.2.2.2.2.2.2.2.2.2.2.1⟩, fun hk => ⟨(excCB_ok (exB_ok hx hk).1).1, (exB_ok hx hk).2.2.2.2.2.2.2.2.2.2.2.2.2.1⟩, fun hk => ⟨(excCB_ok (exB_ok hx hk).1).1, (exB_ok hx hk).2.2.2.2.2.2.2.2.2.2.2.2.2.2.1⟩, fun hk => ⟨(excCB_ok (exB_ok hx hk).1).1, (exB_ok hx hk).2.2.2.2.2.2.2.2.2.2.2.2.2.2.2.1⟩, fun hk => ⟨(excCB_ok (exB_ok hx hk).1).1, (exB_ok hx hk).2.2.2.2.2.2.2.2.2.2.2.2.2.2.2.2.1⟩, fun hk => ⟨(excCB_ok (exB_ok hx hk).1).1, (exB_ok hx hk).2.2.2.2.2.2.2.2.2.2.2.2.2.2.2.2.2.1⟩, fun hk => ⟨(excCB_ok (exB_ok hx hk).1).1, (exB_ok hx hk).2.2.2.2.2.2.2.2.2.2.2.2.2.2.2.2.2.2.1⟩, fun hk => ⟨(excCB_ok (exB_ok hx hk).1).1, (exB_ok hx hk).2.2.2.2.2.2.2.2.2.2.2.2.2.2.2.2.2.2.2.1⟩, fun hk => ⟨(excCB_ok (exB_ok hx hk).1).1, (exB_ok hx hk).2.2.2.2.2.2.2.2.2.2.2.2.2.2.2.2.2.2.2.2.1⟩, fun hk => ⟨(excCB_ok (exB_ok hx hk).1).1, (exB_ok hx hk).2.2.2.2.2.2.2.2.2.2.2.2.2.2.2.2.2.2.2.2.2.1⟩, fun hk => ⟨(excCB_ok (exB_ok hx hk).1).1, (exB_ok hx hk).2.2.2.2.2.2.2.2.2.2.2.2.2.2.2.2.2.2.2.2.2.2.1⟩, fun hk => ⟨(excCB_ok (exB_ok hx hk).1).1, (exB_ok hx hk).2.2.2.2.2.2.2.2.2.2.2.2.2.2.2.2.2.2.2.2.2.2.2.1⟩, fun hk => ⟨(excCB_ok (exB_ok hx hk).1).1, (exB_ok hx hk).2.2.2.2.2.2.2.2.2.2.2.2.2.2.2.2.2.2.2.2.2.2.2.2.1⟩, fun hk => ⟨(excCB_ok (exB_ok hx hk).1).1, (exB_ok hx hk).2.2.2.2.2.2.2.2.2.2.2.2.2.2.2.2.2.2.2.2.2.2.2.2.2.1⟩, fun hk => (exB_ok hx hk).2.2.2.2.2.2.2.2.2.2.2.2.2.2.2.2.2.2.2.2.2.2.2.2.2.2.1, fun hk => (exB_ok hx hk).2.2.2.2.2.2.2.2.2.2.2.2.2.2.2.2.2.2.2.2.2.2.2.2.2.2.2.1, fun hk => (exB_ok hx hk).2.2.2.2.2.2.2.2.2.2.2.2.2.2.2.2.2.2.2.2.2.2.2.2.2.2.2.2.1, fun hk => (exB_ok hx hk).2.2.2.2.2.2.2.2.2.2.2.2.2.2.2.2.2.2.2.2.2.2.2.2.2.2.2.2.2.1, fun hk => (exB_ok hx hk).2.2.2.2.2.2.2.2.2.2.2.2.2.2.2.2.2.2.2.2.2.2.2.2.2.2.2.2.2.2.1, fun hk => (exB_ok hx hk).2.2.2.2.2.2.2.2.2.2.2.2.2.2.2.2.2.2.2.2.2.2.2.2.2.2.2.2.2.2.2.1, fun hk => (exB_ok hx hk).2.2.2.2.2.2.2.2.2.2.2.2.2.2.2.2.2.2.2.2.2.2.2.2.2.2.2.2.2.2.2.2⟩
  obtain ⟨fd__law_bag, F__law_bag⟩ := c.def_ 0 (d := dd__law_bag) rfl
  obtain ⟨fd__law_draw, F__law_draw⟩ := c.def_ 1 (d := dd__law_draw) rfl
  obtain ⟨fd__law_marks, F__law_marks⟩ := c.def_ 2 (d := dd__law_marks) rfl
  obtain ⟨fd__law_fields_right, F__law_fields_right⟩ := c.def_ 3 (d := dd__law_fields_right) rfl
  obtain ⟨fd__law_right, F__law_right⟩ := c.def_ 4 (d := dd__law_right) rfl
  obtain ⟨fd_law, F_law⟩ := c.def_ 5 (d := dd_law) rfl
  have e := hfa.symm.trans (He.glo_ok X G (c.fact 5 (f := .glo "law") rfl))
  cases e
  refine ⟨fd_law, fun s v => FunD.bindsA (ps := ["_law_script"]) F_law (fun _ _ _ _ _ _ us hl => match us, hl with | [_], _ => rfl) s [v] rfl, fun base _ _ => ?_⟩
  have C__law_bag := c__law_bag (P := P) (w := w) (base := base) Gm Xs  F__law_bag (He.glo_ok X G (c.fact 0 (f := .glo "_law_bag") rfl))
  have C__law_draw := c__law_draw (P := P) (w := w) (base := base) Gm Xs  F__law_draw (He.glo_ok X G (c.fact 1 (f := .glo "_law_draw") rfl))
  have C__law_marks := c__law_marks (P := P) (w := w) (base := base) Gm Xs  F__law_marks (He.glo_ok X G (c.fact 2 (f := .glo "_law_marks") rfl))
  have C__law_fields_right := c__law_fields_right (P := P) (w := w) (base := base) Gm Xs  F__law_fields_right (He.glo_ok X G (c.fact 3 (f := .glo "_law_fields_right") rfl))
  have C__law_right := c__law_right (P := P) (w := w) (base := base) Gm Xs C__law_marks C__law_fields_right F__law_right (He.glo_ok X G (c.fact 4 (f := .glo "_law_right") rfl))
  unfold φ_law
  exact fnok_of F_law sc_law rfl rfl (m := 0) (by kernel_rfl) fun cdv A outer s H E hr => d_law Gm Xs C__law_bag C__law_draw C__law_right cdv A outer s H E hr


end PyD.k86
open PySem PySem.W PySem.Calls PyProof.Rows in
theorem PySem.Challenge.cw_plugnames_k86_errors_are_distinct_holds : PySem.Challenge.rw_plugnames_k86_errors_are_distinct.Holds := by
  w_on; o_law
  refine HandSHeadRun.head_any (r := OpenLaw.row PySem.Challenge.rw_plugnames_k86_errors_are_distinct) (q := view (OpenLaw.row PySem.Challenge.rw_plugnames_k86_errors_are_distinct).prog [31])
    (H := PyD.k86.hk) (ob := PyD.k86.ob) (M := 9000) (loose := PyD.k86.loose) (d := HandSHeadRun.topDef (OpenLaw.row PySem.Challenge.rw_plugnames_k86_errors_are_distinct).prog 31) (kwd := []) PyD.k86.ob_eq
    (by kernel_rfl) (fun s => by kernel_rfl) PyD.k86.run (by kernel_rfl) (by kernel_rfl) (by kernel_rfl) (by rfl) (by first | assumption | decide +kernel) (by decide +kernel)
    ⟨rfl, rfl, rfl, rfl, rfl, by decide +kernel⟩ ?hw ?hc
  case hw => w_witness2
  case hc =>
    refine PyD.walk_law (l := PySem.Challenge.rw_plugnames_k86_errors_are_distinct) (n := 63) (k := 4) (x := "_law_script") rfl (by decide) (by kernel_rfl) ⟨⟨rfl, by decide, by decide⟩, rfl⟩ ?F
    intro w mg fa h Y G hmg0
    obtain ⟨K, KX, c⟩ := Y
    have hmg : mg ("law" : PySem.Str) = some (.ref fa) := by
      have e : (HandSHeadRun.topDef (OpenLaw.row PySem.Challenge.rw_plugnames_k86_errors_are_distinct).prog 31).name = ("law" : PySem.Str) := by kernel_rfl
      rw [← e]
      exact hmg0
    letI : PyD.Om := ⟨(PySem.Challenge.rw_plugnames_k86_errors_are_distinct).prog, w⟩
    obtain ⟨fd, hb, hF⟩ := PyD.k86.facts (P := (PySem.Challenge.rw_plugnames_k86_errors_are_distinct).prog) (w := w) KX G hmg (by kernel_rfl) c
    exact ⟨⟨(PySem.Challenge.rw_plugnames_k86_errors_are_distinct).prog, w⟩, K, fd, PyD.k86.φ_law, KX, hb, PyD.k86.law_true, hF⟩
end
