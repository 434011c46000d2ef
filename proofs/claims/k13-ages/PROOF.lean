import PyProof.Rows.All
import Wide.All
import OpenK.AllK
import Wide.FinOn
import PyProof.EqAt
import PyProof.EqKinds
import PyProof.TupleCall
import KE.KExcSuper
import KE.KExcIs
import HandS.Base
import HandS.Call
import HandS.List
import HandS.Ends
import HandS.Exc
import HandS.ExcInit
import HandS.ExcSuper
import HandS.MakeKwOnly
import HandS.IsInst
import HandS.ForMost
import HandS.TryOnly
import HandS.WordsExc
import HandS.ExcOwn
import HandS.ExcField
import HandS.TupAny
import HandS.Zip
import KE.GoesMore
import KE.GoesZip
import KE.GoesEnum
import HandS.Strs
import HandS.Evl
import HandS.Walk
import HandS.More
import HandS.DictTup
import HandS.DictComp
import KE.KSortTupG
import KE.KDictCopyH
import KE.KSortTupUse
import HandS.ExcIs
import HandS.ExcCtx
import HandS.HotCalls
import HandS.TryMany
import HandS.SetFor
import HandS.SuiteRaise
import HandS.RaiseFrom
import HandS.Text
import PySem.Challenge.RW_openruns_k13_ages_and_numbers
set_option Elab.async false
set_option linter.all false
set_option maxRecDepth 100000
set_option maxHeartbeats 4000000
namespace PySem
namespace XL
open PySem.W PySem.Calls PyProof.Rows
/-! ### C(args, kw = ..), C an own exception class -/
section
variable {M : Model} {prog : Program} {w : World} {A : Around} {E : Value → Shared → Prop} {R : Result → Shared → Prop} {h : Heap} {g : Array GenState} {d : Drawn} {t : Nat} {os : OsState}
variable {nm q : Str} {C N : Addr} {bs bm bmB : List Value} {hdct : Bool} {sn : List Str} {sub : List Value} {ab : Bool} {col : Option Bool} {dd : Option Addr} {k0 k1 k2 k3 k5 : Option Value} {B newId initId : String}
theorem check_newK (F : ExcBaseFacts B newId initId bmB) (hT : ∀ X : String, bm.contains (.type X) = bmB.contains (.type X)) {rest : List Value} {kw : List (Str × Value)} {Q : Unit → Shared → Prop}
    (hC : h.get? C = some (excClassObj nm q C N bs bm hdct sn sub ab col dd k0 k1 k2 k3 k5 newId)) (hq : Q () ⟨h, g, d, t, os⟩) : wpAny M A (checkBuiltinCall newId ⟨.ref C :: rest, kw⟩) Q E ⟨h, g, d, t, os⟩ := by
  have hcont : (Value.ref C :: bm).contains (.type B) = true := by rw [List.contains_cons, hT, F.hasB, Bool.or_true]
  have hstar := F.noStar
  simp only [checkBuiltinCall, F.newKind, F.newSplit, F.newRow]
  repeat (first | refine wpAny_loadPart_at hC ?_ | (refine wpAny_isSubtype_exc hC ?_; rw [hcont]) | refine wpAny_staticBase_exc hC ?_ | refine wpAny_madeBy_exc hC ?_ | simp only [bne_self_eq_false, Bool.false_eq_true, if_false] | wp_step)
  exact hq
theorem newK (F : ExcBaseFacts B newId initId bmB) (hT : ∀ X : String, bm.contains (.type X) = bmB.contains (.type X)) {rest : List Value} {kw : List (Str × Value)}
    (hC : h.get? C = some (excClassObj nm q C N bs bm hdct sn sub ab col dd k0 k1 k2 k3 k5 newId))
    (hq : R (.ok (.ret (.ref (h.objs.size + 1)))) ⟨(h.push { cls := .type "tuple", data := .seq rest.toArray }).push
      { cls := .ref C, data := .fields #[.ref h.objs.size, .none, .none, .none, .bool false, .none] }, g, d, t, os⟩) (hrest : rest.length ≤ sizeLine) :
    codeAny (model prog w) A (.builtin newId ⟨.ref C :: rest, kw⟩) R ⟨h, g, d, t, os⟩ := by
  have hends := F.ends
  have hcB : (Value.ref C :: bm).contains (.type B) = true := by rw [List.contains_cons, hT, F.hasB, Bool.or_true]
  have hcA : (Value.ref C :: bm).contains (.type "AttributeError") = false := by rw [List.contains_cons, hT, F.noAttr]; rfl
  have hcN : (Value.ref C :: bm).contains (.type "NameError") = false := by rw [List.contains_cons, hT, F.noName]; rfl
  refine codeAny_builtinAt F.entry ?_
  unfold Builtin.«BaseException.__new__»
  refine wpAt_bind ?_
  show wpAt _ _ _ (stack >>= _) _ _ _
  refine wpAt_bind (wpAt_stack fun p below => wpAt_of_wpAny ?_)
  wp_walk
  refine wpAt_of_wpAny ?_
  rw [F.owner]
  repeat (first | with_reducible refine wpAny_madeHere_exc F.canon hC ?_ | with_reducible refine wpAny_loadPart_at hC ?_ | (with_reducible refine wpAny_isSubtype_exc hC ?_; first | rw [hcB] | rw [hcA] | rw [hcN]) | wp_step)
  show R _ _
  rw [Heap.size_push]
  exact hq
theorem type_callK (F : ExcBaseFacts B newId initId bmB) (hT : ∀ X : String, bm.contains (.type X) = bmB.contains (.type X)) {rest : List Value} {kw : List (Str × Value)} {fI : Addr} {Q : Fin → Shared → Prop}
    (hC : h.get? C = some (excClassObj nm q C N bs bm hdct sn sub ab col dd k0 k1 k2 k3 k5 newId))
    (hi : W.Looks (model prog w) h (typeLookup (.ref C) "__init__") (some (.ref fI))) (hb : ∀ self, W.Looks (model prog w) h (bindSpecial (.ref fI) self) (.ref fI, [self])) (hrest : rest.length ≤ sizeLine)
    (hq : codeAny (model prog w) A (.call (.ref fI) ⟨.ref (h.objs.size + 1) :: rest, kw⟩)
      (fun r s' => match r with | .ok (.ret v) => v = .none ∧ Q (.done (.ret (.ref (h.objs.size + 1)))) s' | .ok _ => False | .error e => E e s')
      ⟨(h.push (W.kdv_tup rest)).push (HandSPX.excO C h.objs.size), g, d, t, os⟩) :
    wpAny (model prog w) A (Builtin.«type.__call__» ⟨.ref C :: rest, kw⟩) Q E ⟨h, g, d, t, os⟩ := by
  repeat (first | with_reducible refine wpAny_loadPart_at hC ?_ | with_reducible refine wpAny_madeBy_exc hC ?_ | wp_step)
  refine codeAny_call_builtin_code (Code.quiet_builtin _ F.quiet) (check_newK F hT hC ?_)
  refine newK F hT hC ?_ hrest
  show wpAny _ _ _ _ _ _
  have k : ∀ b o, h.get? b = some o → ((h.push (W.kdv_tup rest)).push (HandSPX.excO C h.objs.size)).get? b = some o := fun b o e => Heap.get?_push_of_some _ (Heap.get?_push_of_some _ e)
  have hC₁ := k _ _ hC
  have hget : ((h.push (W.kdv_tup rest)).push (HandSPX.excO C h.objs.size)).get? (h.objs.size + 1) = some (HandSPX.excO C h.objs.size) := by heap_get
  have hcC : (Value.ref C :: bm).contains (.ref C) = true := by simp
  have i1 := hi.keeps k
  have b1 := (hb (.ref (h.objs.size + 1))).keeps k
  unfold isInstance
  repeat (first | with_reducible refine wpAny_loadPart_at hget ?_ | (with_reducible refine wpAny_isSubtype_exc hC₁ ?_; rw [hcC]) | wp_step)
  show wpAny _ _ (typeLookup (.ref C) _) _ _ _
  refine i1.at ?_
  refine wpAny_holding (wpAny_bind (b1.at ?_))
  refine wpAny_bind (wpAny_call (codeAny_mono hq fun r s' z => ?_))
  rcases r with e | (v | _ | _ | _) <;> first | exact z | exact z.elim | skip
  obtain ⟨rfl, z⟩ := z
  first
    | exact wpAny_pure (wpAny_pure z)
    | (wp_walk; exact z)
theorem check_typeK {M : Model} {rest : List Value} {kw : List (Str × Value)} {Q : Unit → Shared → Prop} (hC : h.get? C = some (excClassObj nm q C N bs bm hdct sn sub ab col dd k0 k1 k2 k3 k5 newId))
    (hq : Q () ⟨h, g, d, t, os⟩) : wpAny M A (checkBuiltinCall "type.__call__" ⟨.ref C :: rest, kw⟩) Q E ⟨h, g, d, t, os⟩ := by
  have f3 := tc_sub
  have hT : (⟨h, g, d, t, os⟩ : Shared).TypeIs (.ref C) "type" := ⟨_, hC, rfl⟩
  simp only [checkBuiltinCall, tc_kind, tc_split]
  repeat (any_goals (first | assumption | with_reducible refine wpAny_loadPart_at hC ?_ | with_reducible refine wpAny_onRaise ?_ | with_reducible refine wpAny_map ?_ | wp_step))
theorem call_ownK (F : ExcBaseFacts B newId initId bmB) (hT : ∀ X : String, bm.contains (.type X) = bmB.contains (.type X)) {rest : List Value} {kw : List (Str × Value)} {fI : Addr}
    (hC : h.get? C = some (excClassObj nm q C N bs bm hdct sn sub ab col dd k0 k1 k2 k3 k5 newId))
    (hi : W.Looks (model prog w) h (typeLookup (.ref C) "__init__") (some (.ref fI))) (hb : ∀ self, W.Looks (model prog w) h (bindSpecial (.ref fI) self) (.ref fI, [self])) (hrest : rest.length ≤ sizeLine)
    (hq : codeAny (model prog w) (A.under (.builtin "type.__call__" ⟨.ref C :: rest, kw⟩)) (.call (.ref fI) ⟨.ref (h.objs.size + 1) :: rest, kw⟩) (W.InitBack (h.objs.size + 1) R)
      ⟨(h.push (W.kdv_tup rest)).push (HandSPX.excO C h.objs.size), g, d, t, os⟩) :
    codeAny (model prog w) A (.call (.ref C) ⟨rest, kw⟩) R ⟨h, g, d, t, os⟩ := by
  have f1 := tc_lookup
  have f2 := tc_bind (.ref C)
  have hTy : (⟨h, g, d, t, os⟩ : Shared).TypeIs (.ref C) "type" := ⟨_, hC, rfl⟩
  refine codeAny_of_tree ?_
  show wpAny _ _ (callAny (.ref C) _) _ _ _
  repeat (any_goals (first | assumption | with_reducible refine wpAny_loadPart_at hC ?_ | wp_step))
  refine ⟨rfl, ?_⟩
  refine codeAny_call_builtin_at (Code.quiet_builtin _ (by decide +kernel)) entry_typeCall (check_typeK hC (type_callK F hT hC hi hb hrest ?_))
  refine codeAny_mono hq fun r s' z => ?_
  rcases r with e | (v | _ | _ | _) <;> exact z
end
end XL
end PySem
namespace PySem
namespace XL
open PySem.W PySem.Calls PyProof.Rows Builtin Builtin.ObjectAttr
abbrev lkT : List Value := [.type "LookupError", .type "Exception", .type "BaseException", .type "object"]
theorem lk_ne {l : List Value} (e : excTail lkT l = true) : l.isEmpty = false := by
  rcases excTail_cases l e with ⟨c, r, rfl, _⟩ | rfl <;> rfl
/-! ### self.name = v on an exception over LookupError -/
section
variable {prog : Program} {w : World} {A : Around} {E : Value → Shared → Prop} {R : Result → Shared → Prop} {hp : Heap} {g : Array GenState} {d : Drawn} {t : Nat} {os : OsState}
theorem osa_walk {K : W.Frag} {name : Str} {tk : Tok} {v : Value} {x C : Addr} {ox : Obj} {od : Option Obj} {cd : ClassData}
    (X : K.In hp) (I : W.InstAt hp x ox C od) (hcd : W.clsIn K C = some cd) (hm : excTail lkT cd.mro = true) (ha : W.findIn K (.ref C) name = some none)
    (hq : wpAny (model prog w) A.in1 (Builtin.ObjectAttr.storeInOwnDict (.ref x) (.ref C) (.str name tk) name v false)
      (fun fin s' => match fin with | .done f => R (.ok f) s' | .again c' => c'.quiet = true ∧ codeAny (model prog w) A c' R s') (fun e s' => R (.error e) s') ⟨hp, g, d, t, os⟩) :
    codeAny (model prog w) A (.call (.builtin "object.__setattr__") ⟨[.ref x, .str name tk, v], []⟩) R ⟨hp, g, d, t, os⟩ := by
  have SF := F.store_LookupError
  have ne := lk_ne hm
  have hob : cd.mro.contains (.type "object") = true := (excTail_contains "object" _ hm).trans (by decide +kernel)
  have sub : W.Looks (model prog w) hp (isInstance (.ref x) (.type "object")) true := I.type.andThen (W.looks_mroIn X (by unfold W.mroIn; rw [hcd, Option.bind_some, if_neg (by rw [ne]; decide), hob]))
  refine codeAny_call_builtin SF.slot.plain SF.entry (@W.check_slot (model prog w) _ _ ⟨hp, g, d, t, os⟩ "object.__setattr__" "object" "__setattr__" (.ref x) [.str name tk, v] [] _ SF.kind SF.split sub (SF.args (.ref x) (.str name tk) v) ?_)
  have hmr : W.Looks (model prog w) hp (mroOf (.ref C)) cd.mro := (W.looks_clsIn X hcd).andThen .now
  have L3 : W.Looks (model prog w) hp (storeTaker? none) none := .now
  rw [W.osa_eq, refuse_eq]
  refine wpAny_bind (wpAny_bind (I.type.at (wpAny_bind (hmr.at ?_))))
  rw [excTail_pass _ (SF.passes _) _ hm]
  refine wpAny_pure (wpAny_bind (I.type.at (wpAny_bind ((W.looks_findIn X ha).at (wpAny_bind (L3.at ?_))))))
  exact hq
theorem osa_new {K : W.Frag} {name : Str} {tk : Tok} {v : Value} {x C : Addr} {fv : Array Value} {cd : ClassData}
    (X : K.In hp) (hx : hp.get? x = some { cls := .ref C, data := .fields fv }) (hcd : W.clsIn K C = some cd) (hm : excTail lkT cd.mro = true) (hh : cd.hasDict = true) (ha : W.findIn K (.ref C) name = some none)
    (hq : ∀ h' tk' dx, (∀ b o, b ≠ x → hp.get? b = some o → h'.get? b = some o) → hp.objs.size ≤ dx → dx ≠ x → h'.get? x = some { cls := .ref C, dict := some dx, data := .fields fv } →
      h'.Ns1 dx (fun y => if y = name then some v else none) → R (.ok (.ret .none)) ⟨h', g, d, tk', os⟩) :
    codeAny (model prog w) A (.call (.builtin "object.__setattr__") ⟨[.ref x, .str name tk, v], []⟩) R ⟨hp, g, d, t, os⟩ := by
  have I : W.InstAt hp x { cls := .ref C, data := .fields fv } C none := ⟨hx, rfl, rfl, trivial⟩
  have hxs : x ≠ hp.objs.size := Nat.ne_of_lt (Heap.lt_size hx)
  refine osa_walk X I hcd hm ha ?_
  have hcls : W.Looks (model prog w) hp (classData C) cd := W.looks_clsIn X hcd
  obtain ⟨nm, bs, mro, ns, qn, hd, sn, sb, ab, col, del⟩ := cd
  dsimp only at hh
  subst hh
  unfold Builtin.ObjectAttr.storeInOwnDict Builtin.ObjectAttr.ownDictForStores
  repeat (first | with_reducible refine HandSPX.store_in_new ?_ ?_ | with_reducible refine wpAny_loadPart_at hx ?_ | with_reducible refine hcls.at ?_ | wp_step)
  · exact ⟨_, #[], _, (Heap.get?_update_ne _ _ _ _ hxs.symm).trans (Heap.get?_push_at rfl rfl), rfl, fun e he => absurd he (by simp), fun _ => rfl⟩
  · intro h' tk' hn' hs
    have hx₁ : (hp.push { cls := .type "dict", data := .dict #[] }).get? x = some { cls := .ref C, data := .fields fv } := Heap.get?_push_of_some _ hx
    refine hq h' tk' hp.objs.size (fun b o hb ho => ?_) (Nat.le_refl _) hxs.symm ?_ hn'
    · exact (hs.2 b (Nat.ne_of_lt (Heap.lt_size ho))).trans ((Heap.get?_update_ne _ _ _ _ hb).trans (Heap.get?_push_of_some _ ho))
    · exact (hs.2 x hxs).trans (Heap.get?_update_self _ hx₁ rfl)
theorem osa_old {K : W.Frag} {name : Str} {tk : Tok} {v : Value} {x C dx : Addr} {fv : Array Value} {cd : ClassData} {m0 : Str → Option Value} {nl : List Str}
    (X : K.In hp) (hx : hp.get? x = some { cls := .ref C, dict := some dx, data := .fields fv }) (hns : hp.Ns1 dx m0) (hw : Within m0 nl) (hz : nl.length ≤ 1000) (hcd : W.clsIn K C = some cd) (hm : excTail lkT cd.mro = true) (hh : cd.hasDict = true)
    (ha : W.findIn K (.ref C) name = some none)
    (hq : ∀ h' tk', (∀ b o, b ≠ dx → hp.get? b = some o → h'.get? b = some o) → h'.Ns1 dx (fun y => if y = name then some v else m0 y) → R (.ok (.ret .none)) ⟨h', g, d, tk', os⟩) :
    codeAny (model prog w) A (.call (.builtin "object.__setattr__") ⟨[.ref x, .str name tk, v], []⟩) R ⟨hp, g, d, t, os⟩ := by
  obtain ⟨oD, esD, epD, hoD, hdD, _⟩ := hns.count hw
  have I : W.InstAt hp x { cls := .ref C, dict := some dx, data := .fields fv } C (some oD) := ⟨hx, rfl, rfl, hoD⟩
  refine osa_walk X I hcd hm ha ?_
  have hcls : W.Looks (model prog w) hp (classData C) cd := W.looks_clsIn X hcd
  obtain ⟨nm, bs, mro, ns, qn, hd, sn, sb, ab, col, del⟩ := cd
  dsimp only at hh
  subst hh
  unfold Builtin.ObjectAttr.storeInOwnDict Builtin.ObjectAttr.ownDictForStores
  repeat (first | with_reducible refine OEX.store_in_old hns hw hz ?_ | with_reducible refine wpAny_loadPart_at hx ?_ | with_reducible refine hcls.at ?_ | wp_step)
  intro h' tk' hn' hs
  exact hq h' tk' (fun b o hb ho => (hs.2 b hb).trans ho) hn'
end
/-! ### the text of an own __init__ -/
section
variable {prog : Program} {w : World} {A : Around} {E : Value → Shared → Prop} {R : Result → Shared → Prop} {s : Shared} {K : Frag}
/-- the __init__ of an own class at C (its cell __class__ at cc, its code at cda), over LookupError: what the written part says -/
structure XCls (prog : Program) (K : Frag) (C : Addr) : Prop where
  cls : ∃ nm q N bs bm sn sub ab col dd k0 k1 k2 k3 k5, K.lookup C = some (excClassObj nm q C N bs bm true sn sub ab col dd k0 k1 k2 k3 k5 "LookupError.__new__") ∧ excTail lkT bm = true
  sa : findIn K (.ref C) "__setattr__" = some (some (.builtin "object.__setattr__"))
  sup : ks_superIn K C C "__init__" = some (some (.builtin "LookupError.__init__"))
  opq : nsIn K cStatics "thirdparty.any" = some none
  sg : nsIn K mainGlobals "super" = some none
  top : (prog.main.scope.names.lookup ("super" : Str)).isSome = false
/-- .. of the function object at fI -/
structure XFn (prog : Program) (K : Frag) (C fI : Addr) (qual : Str) (params : Arguments) (body : List Stmt) (scope : Scope) : Prop where
  fn : ∃ (oc : Value) (od : Option Addr) (kV doc pm : Value) (an : Option Addr) (cda : Addr) (ct : Value) (cc : Addr) (osl : Array (Option Value)) (cl ccl : Value) (cld cdd : Option Addr) (csl ccs : Array (Option Value)) (vs : Array Value) (file : Str) (tf : Tok),
    K.lookup fI = some ⟨oc, od, .func (ksFn "__init__" qual params body scope .none kV doc pm an (.ref cda) ct cc), osl⟩ ∧ codeIn K (.ref cda) qual = true ∧
    K.lookup cc = some ⟨cl, cld, .cell (some (.ref C)), csl⟩ ∧ K.lookup cda = some ⟨ccl, cdd, .fields vs, ccs⟩ ∧ vs[2]? = some (.str file tf) ∧ ((prog.main.file : Str) == file) = true
  iC : findIn K (.ref C) "__init__" = some (some (.ref fI))
  tI : typeIn K (.ref fI) = some (.type "function")
/-- a module's parts -/
structure XTop (h : Heap) : Prop where
  g : ∃ mg, h.Ns mainGlobals mg
  b : ∃ mb, h.Ns builtinsNs mb ∧ ∀ x : Str, x ≠ "__name__" → mb x = bootBuiltins x
  nolimit : h.NoLimit
theorem XTop.keeps {h h' : Heap} (T : XTop h) (k : ∀ b o, h.get? b = some o → h'.get? b = some o) : XTop h' :=
  ⟨let ⟨mg, q⟩ := T.g; ⟨mg, q.keeps k⟩, let ⟨mb, q, r⟩ := T.b; ⟨mb, q.keeps k, r⟩, T.nolimit.keeps k⟩
end
end XL
end PySem
namespace PySem
namespace XL
open PySem.W PySem.Calls PyProof.Rows
/-! ### super().__init__('..') in an own __init__ -/
/-- where the statement stands -/
structure SupPos where
  (p0 p1 p2 p3 p4 p5 : Pos) (j : String)
section
variable {prog : Program} {w : World} {A : Around} {E : Value → Shared → Prop} {R : Result → Shared → Prop} {s : Shared} {K : Frag}
theorem call_mw {x C u t0 : Addr} {rest : List Value} {Q : Value → Shared → Prop} (T : XCls prog K C) (X : K.In s.heap) (hx : s.heap.get? x = some (HandSPX.excO C t0)) (hu : KxsAt "LookupError.__init__" u x s.heap) (hz : rest.length ≤ sizeLine)
    (hq : ∀ h' t1, (∀ b o, b ≠ x → s.heap.get? b = some o → h'.get? b = some o) → h'.get? x = some (HandSPX.excO C t1) → Q .none { s with heap := h' }) :
    wpAny (model prog w) A (call (.ref u) rest) Q E s := by
  obtain ⟨nm, q, N, bs, bm, sn, sub, ab, col, dd, k0, k1, k2, k3, k5, hC, hbm⟩ := T.cls
  have FB := F.excBase_LookupError
  obtain ⟨hh, g, d, tk, os⟩ := s
  unfold KxsAt at hu
  refine wpAny_call (codeAny_of_tree ?_)
  show wpAny _ A.in1 (callAny (.ref u) ⟨rest, []⟩) _ _ _
  simp only [callAny]
  refine wpAny_bind (wpAny_load hu ?_)
  simp only [kxs_mw, show (Value.type "method-wrapper" == Value.type "method" || Value.type "method-wrapper" == Value.type "builtin_function_or_method" || Value.type "method-wrapper" == Value.type "method-wrapper") = true by decide, if_true]
  refine KFB.if_so (by decide) ?_
  refine wpAny_bind (check_bound_init FB.toExcCallFacts (X _ _ hC) hx rfl ?_)
  refine wpAny_bind (wpAny_pure (wpAny_pure ?_))
  refine ⟨plainId_quiet FB.init.plain _, codeAny_builtin FB.initEntry ?_⟩
  exact exc_init_tree (cls := .ref C) (t0 := t0) (dv := none) (c2 := .none) (c3 := .none) (b4 := .bool false) hx hz fun h' k e _ => hq h' _ k e
theorem sup_stmt {x C fI L : Addr} {t0 : Addr} {qual : Str} {body : List Stmt} {scope : Scope} {cda cc : Addr} {oc cl ccl : Value} {od cld cdd : Option Addr} {osl csl ccs : Array (Option Value)} {fd : FuncData} {vs : Array Value} {file : Str} {tf : Tok} {ar : Arg}
    {m : Str → Option Value} {p0 p1 p2 p3 p4 p5 : Pos} {tx : Str} {j} {Q : Flow → Shared → Prop}
    (T : XCls prog K C) (X : K.In s.heap) (P : XTop s.heap) (hn : s.heap.Ns L m) (hv : m ar.arg = some (.ref x)) (hx : s.heap.get? x = some (HandSPX.excO C t0)) (hL : L ≠ x)
    (hf : K.lookup fI = some ⟨oc, od, .func fd, osl⟩) (hp : (fd.params.posonlyargs ++ fd.params.args).head? = some ar) (hcode : K.lookup cda = some ⟨ccl, cdd, .fields vs, ccs⟩) (hvs : vs[2]? = some (.str file tf)) (hfile : ((prog.main.file : Str) == file) = true)
    (hcell : K.lookup cc = some ⟨cl, cld, .cell (some (.ref C)), csl⟩)
    (hks : scope.names.lookup ("super" : Str) = some .globalImplicit) (hkc : scope.names.lookup ("__class__" : Str) = some .free) (hka : scope.names.lookup ar.arg = some .local) (hk : scope.kind = .function)
    (hq : ∀ h' tk t1, (∀ b o, b ≠ x → s.heap.get? b = some o → h'.get? b = some o) → h'.get? x = some (HandSPX.excO C t1) → Q .next { s with heap := h', toks := tk })
    {pl : Sem Bool}
    (he : eval (.Call (.Attribute (.Call (.Name "super" p0) [] [] p1) "__init__" p2) [.Constant (.str tx) j p3] [] p4) (ksEnv qual scope L fI (.ref cda) cc) = (do
      let ov ← attributeBase (.Call (.Name "super" p0) [] [] p1) "__init__" (ksEnv qual scope L fI (.ref cda) cc) (eval (.Call (.Name "super" p0) [] [] p1) (ksEnv qual scope L fI (.ref cda) cc))
      standAt p2.atName
      let (f, first) ← holding [ov] (getMethod ov "__init__" pl)
      callWith p4 f first (backTo p4 (starEach [.Constant (.str tx) j p3] (ksEnv qual scope L fI (.ref cda) cc))) []) := by rfl)
    (hi : interactive (ksEnv qual scope L fI (.ref cda) cc) = false := by rfl)
    (hw : swapsWith (.Call (.Attribute (.Call (.Name "super" p0) [] [] p1) "__init__" p2) [.Constant (.str tx) j p3] [] p4) none p5.line (ksEnv qual scope L fI (.ref cda) cc) = pure false := by rfl) :
    _root_.PySem.wpAt (model prog w) A (.func body (ksEnv qual scope L fI (.ref cda) cc)) (exec (.Expr (.Call (.Attribute (.Call (.Name "super" p0) [] [] p1) "__init__" p2) [.Constant (.str tx) j p3] [] p4) p5) (ksEnv qual scope L fI (.ref cda) cc)) Q E s := by
  obtain ⟨nm, q, N, bs, bm, sn, sub, ab, col, dd, k0, k1, k2, k3, k5, hC, hbm⟩ := T.cls
  have hcl : clsIn K C = some { name := nm, bases := bs, mro := .ref C :: bm, ns := N, qualname := q, hasDict := true, slotNames := sn, subclasses := sub, abstract := ab, collection := col, hasDel := false } := by unfold clsIn; rw [hC] <;> rfl
  have hmC : mroIn K C (.ref C) = some true := by unfold mroIn; rw [hcl, Option.bind_some, if_neg (by show ¬ (List.isEmpty (Value.ref C :: bm) = true); simp)]; simp
  have hD1 := X _ _ hC
  obtain ⟨hh, g, d, t, os⟩ := s
  refine ks_wpAt_Expr_any (ks_wpAt_MethodCall ?_ he) hi hw
  refine ks_wpAt_super_base (env := ksEnv qual scope L fI (.ref cda) cc) hks hkc (by decide) rfl (X _ _ hf) rfl hp rfl (X _ _ hcode) rfl hvs hfile T.top ?_
  obtain ⟨mg, hg⟩ := P.g
  obtain ⟨mb, hb, hbt⟩ := P.b
  refine ks_loadName_global hk hks (loadGlobal_builtin (env := ksEnv qual scope L fI (.ref cda) cc) hg (mg_none_of X hg T.sg) hb ((hbt _ (by decide +kernel)).trans (show bootBuiltins "super" = some (.type "super") from by decide +kernel)) ⟨rfl, ?_⟩)
  refine wpAny_loadName_free hk hkc rfl ⟨_, X _ _ hcell, rfl⟩ ?_
  refine wpAny_loadName_local hk hka hn hv ?_
  refine ks_wpAny_isType_cls hD1 rfl ⟨rfl, ?_⟩
  refine ks_wpAny_call_super hD1 rfl hx rfl (fun c e => nomatch e) (looks_mroIn X hmC) (fun h1 e1 kk1 => ?_)
  have k1' : ∀ b o, hh.get? b = some o → h1.get? b = some o := kk1
  have X1 : K.In h1 := X.keeps k1'
  have hI : Looks (model prog w) h1 (isInstance (.ref x) (.type "LookupError")) true := by
    have I : InstAt h1 x (HandSPX.excO C t0) C none := ⟨k1' _ _ hx, rfl, rfl, trivial⟩
    refine I.type.andThen (looks_mroIn X1 ?_)
    unfold mroIn
    rw [hcl, Option.bind_some, if_neg (by show ¬ (List.isEmpty (Value.ref C :: bm) = true); simp)]
    show some ((Value.ref C :: bm).contains (.type "LookupError")) = some true
    rw [List.contains_cons, excTail_contains "LookupError" _ hbm]
    rfl
  have hxC : x ≠ C := fun z => by
    rw [z] at hx
    have y := hD1.symm.trans hx
    cases y
  have hsup := T.sup
  unfold ks_superIn at hsup
  rw [hcl] at hsup
  refine kxs_getMethod kxs_LookupError e1 (looks_opaque X1 T.opq) (l₀ := .ref C :: bm) (fun A Q E s k q => wpAny_bind ((looks_clsIn X1 hcl) A _ E s k (wpAny_pure q))) rfl X1 hsup hI hxC (by decide) ?_
  have k2' : ∀ b o, hh.get? b = some o → (h1.push (kxs_mw "LookupError.__init__" x)).get? b = some o := fun b o z => Heap.get?_push_of_some _ (k1' b o z)
  show wpAny _ _ (callWith p4 (.ref h1.objs.size) [] (backTo p4 (starEach [.Constant (.str tx) j p3] (ksEnv qual scope L fI (.ref cda) cc))) []) _ _ _
  refine kxs_callWith (i := "LookupError.__init__") (x := x) (by rfl) (evalArgs_plain ?_)
  refine spliced_cons ?_
  show wpAny _ _ (eval (.Constant (.str tx) j p3) (ksEnv qual scope L fI (.ref cda) cc)) _ _ _
  refine Calls.Constant_str (spliced_nil ?_)
  refine ⟨Heap.get?_push_at rfl rfl, ?_⟩
  refine call_mw (s := ⟨h1.push (kxs_mw "LookupError.__init__" x), g, d, _, os⟩) T (X.keeps k2') (k2' _ _ hx) (Heap.get?_push_at rfl rfl) (by show 1 ≤ sizeLine; rw [sizeLine_eq]; decide) fun h' t1 k3 e3 => ?_
  exact hq h' _ t1 (fun b o hb z => k3 b o hb (k2' b o z)) e3
end
end XL
end PySem
namespace PySem
namespace XL
open PySem.W PySem.Calls PyProof.Rows
/-- where an __init__ of one, of two fields stands -/
structure Ps1 where
  (p0 p1 p2 p3 p4 p5 q1 q2 q3 q4 : Pos) (j : Nat)
structure Ps2 extends Ps1 where
  (r1 r2 r3 r4 : Pos)
abbrev supS (P : Ps1) (tx : Str) : Stmt := .Expr (.Call (.Attribute (.Call (.Name "super" P.p0) [] [] P.p1) "__init__" P.p2) [.Constant (.str tx) P.j P.p3] [] P.p4) P.p5
abbrev body1 (P : Ps1) (tx f : Str) : List Stmt := [supS P tx, .Assign [.Attribute (.Name "self" P.q1) f P.q2] (.Name f P.q3) P.q4]
abbrev body2 (P : Ps2) (tx f f2 : Str) : List Stmt := [supS P.toPs1 tx, .Assign [.Attribute (.Name "self" P.q1) f P.q2] (.Name f P.q3) P.q4, .Assign [.Attribute (.Name "self" P.r1) f2 P.r2] (.Name f2 P.r3) P.r4]
abbrev args1 (a1 a2 : Pos) (f : Str) : Arguments := { posonlyargs := [], args := [{ arg := "self", annotation := none, pos := a1 }, { arg := f, annotation := none, pos := a2 }], vararg := none, kwonlyargs := [], kw_defaults := [], kwarg := none, defaults := [] }
abbrev args2 (a1 a2 a3 : Pos) (f f2 : Str) : Arguments := { posonlyargs := [], args := [{ arg := "self", annotation := none, pos := a1 }, { arg := f, annotation := none, pos := a2 }, { arg := f2, annotation := none, pos := a3 }], vararg := none, kwonlyargs := [], kw_defaults := [], kwarg := none, defaults := [] }
abbrev scope1 (f : Str) : Scope := { kind := .function, names := [(Str.ofString "self", .local), (f, .local), (Str.ofString "__class__", .free), (Str.ofString "super", .globalImplicit)], isGenerator := false, isCoroutine := false, more := [] }
abbrev scope2 (f f2 : Str) : Scope := { kind := .function, names := [(Str.ofString "self", .local), (f, .local), (f2, .local), (Str.ofString "__class__", .free), (Str.ofString "super", .globalImplicit)], isGenerator := false, isCoroutine := false, more := [] }
/-- how the statement super().__init__('..') is run: rfl for a written scope -/
def EvOk (qual : Str) (scope : Scope) (fI : Addr) (P : Ps1) (tx : Str) : Prop := ∀ L cda cc : Addr, ∃ pl : Sem Bool,
  eval (.Call (.Attribute (.Call (.Name "super" P.p0) [] [] P.p1) "__init__" P.p2) [.Constant (.str tx) P.j P.p3] [] P.p4) (ksEnv qual scope L fI (.ref cda) cc) = (do
      let ov ← attributeBase (.Call (.Name "super" P.p0) [] [] P.p1) "__init__" (ksEnv qual scope L fI (.ref cda) cc) (eval (.Call (.Name "super" P.p0) [] [] P.p1) (ksEnv qual scope L fI (.ref cda) cc))
      standAt P.p2.atName
      let (f, first) ← holding [ov] (getMethod ov "__init__" pl)
      callWith P.p4 f first (backTo P.p4 (starEach [.Constant (.str tx) P.j P.p3] (ksEnv qual scope L fI (.ref cda) cc))) []) ∧
  interactive (ksEnv qual scope L fI (.ref cda) cc) = false ∧
  swapsWith (.Call (.Attribute (.Call (.Name "super" P.p0) [] [] P.p1) "__init__" P.p2) [.Constant (.str tx) P.j P.p3] [] P.p4) none P.p5.line (ksEnv qual scope L fI (.ref cda) cc) = pure false
/-- what __init__ leaves of a fresh exception at x -/
structure InitEnd (h h' : Heap) (x C dx : Addr) (mm : Str → Option Value) : Prop where
  keep : ∀ b o, b ≠ x → h.get? b = some o → h'.get? b = some o
  obj : ∃ t1 : Addr, h'.get? x = some { cls := .ref C, dict := some dx, data := .fields #[.ref t1, .none, .none, .none, .bool false, .none] }
  dbig : h.objs.size ≤ dx
  dne : dx ≠ x
  ns : h'.Ns1 dx mm
/-- a field's name is no name of the machine's -/
def okF (f : Str) : Bool := !(f == ("self" : Str)) && !(f == ("super" : Str)) && !(f == ("__class__" : Str)) && !(f == ("__debug__" : Str))
theorem okF_of {f : Str} (h : okF f = true) : (f == ("self" : Str)) = false ∧ (f == ("super" : Str)) = false ∧ (f == ("__class__" : Str)) = false ∧ (f == ("__debug__" : Str)) = false := by
  unfold okF at h
  simp only [Bool.and_eq_true, Bool.not_eq_true'] at h
  exact ⟨h.1.1.1, h.1.1.2, h.1.2, h.2⟩
theorem flip {a b : Str} (h : (a == b) = false) : (b == a) = false := by
  have := beq_eq_false_iff_ne.mp h
  exact beq_eq_false_iff_ne.mpr (Ne.symm this)
section
variable {prog : Program} {w : World} {A : Around} {E : Value → Shared → Prop} {R : Result → Shared → Prop} {s : Shared} {K : Frag} {C fI x t0 : Addr} {qual tx f f2 : Str} {v v2 : Value}
theorem init1 {P : Ps1} {a1 a2 : Pos} {args : Args} (T : XCls prog K C) (Fn : XFn prog K C fI qual (args1 a1 a2 f) (body1 P tx f) (scope1 f)) (hf : okF f = true) (nof : findIn K (.ref C) f = some none) (ev : EvOk qual (scope1 f) fI P tx)
    (X : K.In s.heap) (Tp : XTop s.heap) (hx : s.heap.get? x = some (HandSPX.excO C t0)) (hnx : K.lookup x = none) (hroom : A.depth < recursionLimit)
    (hb : ∀ (kV doc pm : Value) (an : Option Addr) (cdv ct : Value) (cc : Addr), BindsTo s (ksFn "__init__" qual (args1 a1 a2 f) (body1 P tx f) (scope1 f) .none kV doc pm an cdv ct cc) args [("self", .ref x), (f, v)])
    (hq : ∀ h' tk dx, InitEnd s.heap h' x C dx (fun y => if y = f then some v else none) → R (.ok (.ret .none)) { s with heap := h', toks := tk }) :
    codeAny (model prog w) A (.call (.ref fI) args) R s := by
  obtain ⟨oc, od, kV, doc, pm, an, cda, ct, cc, osl, cl, ccl, cld, cdd, csl, ccs, vs, file, tf, ho, hcd, hcell, hcode, hvs, hfile⟩ := Fn.fn
  obtain ⟨n1, n2, n3, n4⟩ := okF_of hf
  have l1 : (scope1 f).names.lookup f = some .local := by simp [List.lookup, n1]
  have l2 : (scope1 f).names.lookup ("super" : Str) = some .globalImplicit := by simp [List.lookup, flip n2]; rfl
  have l3 : (scope1 f).names.lookup ("__class__" : Str) = some .free := by simp [List.lookup, flip n3]; rfl
  have ls : (scope1 f).names.lookup ("self" : Str) = some .local := by simp [List.lookup]
  have hnc : ∀ y ∈ (scope1 f).names, y.2 ≠ .cell := by
    intro y hy
    simp only [scope1, List.mem_cons, List.mem_nil_iff, or_false] at hy
    rcases hy with rfl | rfl | rfl | rfl <;> simp
  have hlo : ∀ y ∈ ([("self", .ref x), (f, v)] : List (Str × Value)), (scope1 f).names.lookup y.1 = some .local := by
    intro y hy
    simp only [List.mem_cons, List.mem_nil_iff, or_false] at hy
    rcases hy with rfl | rfl
    · exact ls
    · exact l1
  obtain ⟨nm, q, N, bs, bm, sn, sub, ab, col, dd, k0, k1, k2, k3, k5, hC, hbm⟩ := T.cls
  have hcl : clsIn K C = some { name := nm, bases := bs, mro := .ref C :: bm, ns := N, qualname := q, hasDict := true, slotNames := sn, subclasses := sub, abstract := ab, collection := col, hasDel := false } := by unfold clsIn; rw [hC] <;> rfl
  refine ks_codeAny_call_defAt (fd := ksFn "__init__" qual (args1 a1 a2 f) (body1 P tx f) (scope1 f) .none kV doc pm an (.ref cda) ct cc) (body := body1 P tx f) (binds := [("self", .ref x), (f, v)]) hroom (X _ _ ho) rfl Tp.nolimit (codeRec_of X hcd) rfl (hb _ _ _ _ _ _ _) hnc hlo (fun h₁ hns hk₁ => ?_)
  have hLx : s.heap.objs.size ≠ x := Nat.ne_of_gt (Heap.lt_size hx)
  have ms : (fun y => ([("self", Value.ref x), (f, v)] : List (Str × Value)).reverse.lookup y) "self" = some (.ref x) := by simp [List.lookup, flip n1]
  have mf : (fun y => ([("self", Value.ref x), (f, v)] : List (Str × Value)).reverse.lookup y) f = some v := by simp [List.lookup]
  obtain ⟨pl, he, hi, hw⟩ := ev s.heap.objs.size cda cc
  refine ks_wpAt_execs_cons (sup_stmt (s := { s with heap := h₁, toks := s.toks + 2 }) (ar := { arg := "self", annotation := none, pos := a1 }) (t0 := t0) T (X.keeps hk₁) (Tp.keeps hk₁) hns ms (hk₁ _ _ hx) hLx ho rfl hcode hvs hfile hcell l2 l3 ls rfl (fun h₂ tk₂ t1 k₂ e₂ => ?_) he hi hw)
  refine wpAt_of_wpAny ?_
  have kk : ∀ b o, b ≠ x → s.heap.get? b = some o → h₂.get? b = some o := fun b o hb z => k₂ b o hb (hk₁ b o z)
  have X₂ : K.In h₂ := fun a o e => kk a o (fun z => by
    subst z
    rw [hnx] at e
    cases e) (X a o e)
  have hns₂ : h₂.Ns s.heap.objs.size (fun y => ([("self", Value.ref x), (f, v)] : List (Str × Value)).reverse.lookup y) := hns.at fun o z => k₂ _ o hLx z
  refine wpAny_execs_cons (plainObj_wpAny_Assign_Attribute ?_)
  refine ESX.ldL (v := v) hns₂ mf (ESX.ldL (v := .ref x) hns₂ ms ?_ rfl ls) rfl l1 n4
  refine set_plain X₂ (ox := HandSPX.excO C t1) (od := none) ⟨e₂, rfl, rfl, trivial⟩ T.sa ?_
  refine osa_new X₂ e₂ hcl (show excTail lkT (.ref C :: bm) = true from hbm) rfl nof (fun h₃ tk₃ dx k₃ dn dne hx₃ hn₃ => ?_)
  refine wpAny_execs_nil ?_
  have z1 : s.heap.objs.size < h₂.objs.size := hns₂.lt
  exact hq h₃ tk₃ dx ⟨fun b o hb e => k₃ b o hb (kk b o hb e), ⟨t1, hx₃⟩, Nat.le_of_lt (Nat.lt_of_lt_of_le z1 dn), dne, hn₃⟩
theorem init2 {P : Ps2} {a1 a2 a3 : Pos} {args : Args} (T : XCls prog K C) (Fn : XFn prog K C fI qual (args2 a1 a2 a3 f f2) (body2 P tx f f2) (scope2 f f2)) (hf : okF f = true) (hf2 : okF f2 = true) (h12 : (f == f2) = false) (nof : findIn K (.ref C) f = some none) (nof2 : findIn K (.ref C) f2 = some none) (ev : EvOk qual (scope2 f f2) fI P.toPs1 tx)
    (X : K.In s.heap) (Tp : XTop s.heap) (hx : s.heap.get? x = some (HandSPX.excO C t0)) (hnx : K.lookup x = none) (hroom : A.depth < recursionLimit)
    (hb : ∀ (kV doc pm : Value) (an : Option Addr) (cdv ct : Value) (cc : Addr), BindsTo s (ksFn "__init__" qual (args2 a1 a2 a3 f f2) (body2 P tx f f2) (scope2 f f2) .none kV doc pm an cdv ct cc) args [("self", .ref x), (f, v), (f2, v2)])
    (hq : ∀ h' tk dx, InitEnd s.heap h' x C dx (fun y => if y = f2 then some v2 else if y = f then some v else none) → R (.ok (.ret .none)) { s with heap := h', toks := tk }) :
    codeAny (model prog w) A (.call (.ref fI) args) R s := by
  obtain ⟨oc, od, kV, doc, pm, an, cda, ct, cc, osl, cl, ccl, cld, cdd, csl, ccs, vs, file, tf, ho, hcd, hcell, hcode, hvs, hfile⟩ := Fn.fn
  obtain ⟨n1, n2, n3, n4⟩ := okF_of hf
  obtain ⟨m1, m2, m3, m4⟩ := okF_of hf2
  have l1 : (scope2 f f2).names.lookup f = some .local := by simp [List.lookup, n1]
  have l1' : (scope2 f f2).names.lookup f2 = some .local := by simp [List.lookup, m1, flip h12]
  have l2 : (scope2 f f2).names.lookup ("super" : Str) = some .globalImplicit := by simp [List.lookup, flip n2, flip m2]; rfl
  have l3 : (scope2 f f2).names.lookup ("__class__" : Str) = some .free := by simp [List.lookup, flip n3, flip m3]; rfl
  have ls : (scope2 f f2).names.lookup ("self" : Str) = some .local := by simp [List.lookup]
  have hnc : ∀ y ∈ (scope2 f f2).names, y.2 ≠ .cell := by
    intro y hy
    simp only [scope1, List.mem_cons, List.mem_nil_iff, or_false] at hy
    rcases hy with rfl | rfl | rfl | rfl | rfl <;> simp
  have hlo : ∀ y ∈ ([("self", .ref x), (f, v), (f2, v2)] : List (Str × Value)), (scope2 f f2).names.lookup y.1 = some .local := by
    intro y hy
    simp only [List.mem_cons, List.mem_nil_iff, or_false] at hy
    rcases hy with rfl | rfl | rfl
    · exact ls
    · exact l1
    · exact l1'
  obtain ⟨nm, q, N, bs, bm, sn, sub, ab, col, dd, k0, k1, k2, k3, k5, hC, hbm⟩ := T.cls
  have hcl : clsIn K C = some { name := nm, bases := bs, mro := .ref C :: bm, ns := N, qualname := q, hasDict := true, slotNames := sn, subclasses := sub, abstract := ab, collection := col, hasDel := false } := by unfold clsIn; rw [hC] <;> rfl
  refine ks_codeAny_call_defAt (fd := ksFn "__init__" qual (args2 a1 a2 a3 f f2) (body2 P tx f f2) (scope2 f f2) .none kV doc pm an (.ref cda) ct cc) (body := body2 P tx f f2) (binds := [("self", .ref x), (f, v), (f2, v2)]) hroom (X _ _ ho) rfl Tp.nolimit (codeRec_of X hcd) rfl (hb _ _ _ _ _ _ _) hnc hlo (fun h₁ hns hk₁ => ?_)
  have hLx : s.heap.objs.size ≠ x := Nat.ne_of_gt (Heap.lt_size hx)
  have ms : (fun y => ([("self", Value.ref x), (f, v), (f2, v2)] : List (Str × Value)).reverse.lookup y) "self" = some (.ref x) := by simp [List.lookup, flip n1, flip m1]
  have mf : (fun y => ([("self", Value.ref x), (f, v), (f2, v2)] : List (Str × Value)).reverse.lookup y) f = some v := by simp [List.lookup, h12]
  have mf2 : (fun y => ([("self", Value.ref x), (f, v), (f2, v2)] : List (Str × Value)).reverse.lookup y) f2 = some v2 := by simp [List.lookup]
  obtain ⟨pl, he, hi, hw⟩ := ev s.heap.objs.size cda cc
  refine ks_wpAt_execs_cons (sup_stmt (s := { s with heap := h₁, toks := s.toks + 3 }) (ar := { arg := "self", annotation := none, pos := a1 }) (t0 := t0) T (X.keeps hk₁) (Tp.keeps hk₁) hns ms (hk₁ _ _ hx) hLx ho rfl hcode hvs hfile hcell l2 l3 ls rfl (fun h₂ tk₂ t1 k₂ e₂ => ?_) he hi hw)
  refine wpAt_of_wpAny ?_
  have kk : ∀ b o, b ≠ x → s.heap.get? b = some o → h₂.get? b = some o := fun b o hb z => k₂ b o hb (hk₁ b o z)
  have X₂ : K.In h₂ := fun a o e => kk a o (fun z => by
    subst z
    rw [hnx] at e
    cases e) (X a o e)
  have hns₂ : h₂.Ns s.heap.objs.size (fun y => ([("self", Value.ref x), (f, v), (f2, v2)] : List (Str × Value)).reverse.lookup y) := hns.at fun o z => k₂ _ o hLx z
  refine wpAny_execs_cons (plainObj_wpAny_Assign_Attribute ?_)
  refine ESX.ldL (v := v) hns₂ mf (ESX.ldL (v := .ref x) hns₂ ms ?_ rfl ls) rfl l1 n4
  refine set_plain X₂ (ox := HandSPX.excO C t1) (od := none) ⟨e₂, rfl, rfl, trivial⟩ T.sa ?_
  refine osa_new X₂ e₂ hcl (show excTail lkT (.ref C :: bm) = true from hbm) rfl nof (fun h₃ tk₃ dx k₃ dn dne hx₃ hn₃ => ?_)
  have z1 : s.heap.objs.size < h₂.objs.size := hns₂.lt
  have hns₃ : h₃.Ns s.heap.objs.size (fun y => ([("self", Value.ref x), (f, v), (f2, v2)] : List (Str × Value)).reverse.lookup y) := hns₂.at fun o z => k₃ _ o hLx z
  have X₃ : K.In h₃ := fun a o e => k₃ a o (fun z => by
    subst z
    rw [hnx] at e
    cases e) (X₂ a o e)
  refine wpAny_execs_cons (plainObj_wpAny_Assign_Attribute ?_)
  refine ESX.ldL (v := v2) hns₃ mf2 (ESX.ldL (v := .ref x) hns₃ ms ?_ rfl ls) rfl l1' m4
  have hwi : Within (fun y => if y = f then some v else none) [f] := fun y hy => by
    by_cases e : y = f
    · rw [e]; exact List.mem_cons_self ..
    · exact absurd (if_neg e) hy
  obtain ⟨oD, _, _, hoD, _, _⟩ := hn₃.count hwi
  refine set_plain X₃ (ox := { cls := .ref C, dict := some dx, data := .fields #[.ref t1, .none, .none, .none, .bool false, .none] }) (od := some oD) ⟨hx₃, rfl, rfl, hoD⟩ T.sa ?_
  refine osa_old X₃ hx₃ hn₃ hwi (by show 1 ≤ 1000; decide) hcl (show excTail lkT (.ref C :: bm) = true from hbm) rfl nof2 (fun h₄ tk₄ k₄ hn₄ => ?_)
  refine wpAny_execs_nil ?_
  have nd : ∀ {b : Addr} {o : Obj}, s.heap.get? b = some o → b ≠ dx := fun {b o} q => Nat.ne_of_lt (Nat.lt_of_lt_of_le (Heap.lt_size q) (Nat.le_of_lt (Nat.lt_of_lt_of_le z1 dn)))
  exact hq h₄ tk₄ dx ⟨fun b o hb e => k₄ b o (nd e) (k₃ b o hb (kk b o hb e)), ⟨t1, k₄ _ _ (Ne.symm dne) hx₃⟩, Nat.le_of_lt (Nat.lt_of_lt_of_le z1 dn), dne, hn₄⟩

/-- a made exception at e -/
structure OwnMade (h h' : Heap) (e C d : Addr) (mm : Str → Option Value) : Prop where
  keep : ∀ b o, h.get? b = some o → h'.get? b = some o
  new : h.objs.size ≤ e
  obj : ∃ t1 : Addr, h'.get? e = some { cls := .ref C, dict := some d, data := .fields #[.ref t1, .none, .none, .none, .bool false, .none] }
  dbig : h.objs.size ≤ d
  dne : d ≠ e
  ns : h'.Ns1 d mm
theorem made {params : Arguments} {body : List Stmt} {scope : Scope} {rest : List Value} {kw : List (Str × Value)} {mm : Str → Option Value} (T : XCls prog K C) (Fn : XFn prog K C fI qual params body scope) (X : K.In s.heap) (Tp : XTop s.heap) (hz : rest.length ≤ sizeLine)
    (hi : ∀ (s' : Shared) (A' : Around) (x t0 : Addr) (R' : Result → Shared → Prop), K.In s'.heap → XTop s'.heap → s'.heap.get? x = some (HandSPX.excO C t0) → K.lookup x = none → A'.depth ≤ A.depth + 1 →
      (∀ h' tk dx, InitEnd s'.heap h' x C dx mm → R' (.ok (.ret .none)) { s' with heap := h', toks := tk }) → codeAny (model prog w) A' (.call (.ref fI) ⟨.ref x :: rest, kw⟩) R' s')
    (hq : ∀ h' tk e d, OwnMade s.heap h' e C d mm → R (.ok (.ret (.ref e))) { s with heap := h', toks := tk }) :
    codeAny (model prog w) A (.call (.ref C) ⟨rest, kw⟩) R s := by
  obtain ⟨nm, q, N, bs, bm, sn, sub, ab, col, dd, k0, k1, k2, k3, k5, hC, hbm⟩ := T.cls
  obtain ⟨hp, g, dr, tk, os⟩ := s
  have k : ∀ b o, hp.get? b = some o → ((hp.push (kdv_tup rest)).push (HandSPX.excO C hp.objs.size)).get? b = some o := fun b o e => Heap.get?_push_of_some _ (Heap.get?_push_of_some _ e)
  have hget : ((hp.push (kdv_tup rest)).push (HandSPX.excO C hp.objs.size)).get? (hp.objs.size + 1) = some (HandSPX.excO C hp.objs.size) := by heap_get
  have hnx : K.lookup (hp.objs.size + 1) = none := by
    cases e : K.lookup (hp.objs.size + 1) with
    | none => rfl
    | some o =>
      have z : hp.get? (hp.objs.size + 1) = some o := X _ _ e
      exact absurd (Nat.lt_of_succ_lt (Heap.lt_size z)) (Nat.lt_irrefl _)
  refine call_ownK F.excBase_LookupError (fun Y => excTail_contains Y bm hbm) (X _ _ hC) (looks_findIn X Fn.iC) (fun self => bind_fn X self Fn.tI) hz ?_
  refine hi ⟨(hp.push (kdv_tup rest)).push (HandSPX.excO C hp.objs.size), g, dr, tk, os⟩ _ (hp.objs.size + 1) hp.objs.size _ (X.keeps k) (Tp.keeps k) hget hnx (Nat.le_refl _) fun h' tk' dx IE => ?_
  have old : ∀ b o, hp.get? b = some o → h'.get? b = some o := fun b o e => IE.keep b o (Nat.ne_of_lt (Nat.lt_succ_of_lt (Heap.lt_size e))) (k b o e)
  have z : hp.objs.size + 1 + 1 ≤ dx := by
    have q := IE.dbig
    rw [show ({ heap := (hp.push (kdv_tup rest)).push (HandSPX.excO C hp.objs.size), gens := g, drawn := dr, toks := tk, os := os } : Shared).heap.objs.size = hp.objs.size + 1 + 1 from by rw [Heap.size_push, Heap.size_push]] at q
    exact q
  exact ⟨rfl, hq h' tk' (hp.objs.size + 1) dx ⟨old, Nat.le_succ _, IE.obj, Nat.le_trans (Nat.le_trans (Nat.le_succ _) (Nat.le_succ _)) z, IE.dne, IE.ns⟩⟩
end
end XL
end PySem
namespace L2
open PySem PySem.Spec PyProof.Rows
/-! ### exceptions of own classes (over LookupError) as values: made, their fields read, isinstance -/
section
variable {X : Cx} {pins : List (Addr × Obj)} {σ : St} {H : Hp} {s : Shared}
theorem Inv.xtop (I : Inv X pins σ H s) : XL.XTop s.heap :=
  ⟨⟨_, I.mod.glob.keeps I.bk⟩, let ⟨mb, h1, h2⟩ := I.mod.blt; ⟨mb, h1.keeps I.bk, h2⟩, I.nolimit⟩
/-- two objects that are new -/
theorem Inv.laid2 {a d : Addr} {oa od : HO} {t' : Nat} {h' : Heap} (I : Inv X pins σ H s) (k : ∀ b u, s.heap.get? b = some u → h'.get? b = some u) (ha : s.heap.objs.size ≤ a) (hd : s.heap.objs.size ≤ d) (hne : d ≠ a)
    (na : ObjOk X.prog X.w (upd (upd H d od) a oa) h' a oa) (nd : ObjOk X.prog X.w (upd (upd H d od) a oa) h' d od) : Inv X pins σ (upd (upd H d od) a oa) { s with heap := h', toks := t' } := by
  have fa := I.hok.fresh ha
  have fd := I.hok.fresh hd
  have la : ∀ {b : Addr} {u : Obj}, s.heap.get? b = some u → b ≠ a := fun q => Nat.ne_of_lt (Nat.lt_of_lt_of_le (Heap.lt_size q) ha)
  have ld : ∀ {b : Addr} {u : Obj}, s.heap.get? b = some u → b ≠ d := fun q => Nat.ne_of_lt (Nat.lt_of_lt_of_le (Heap.lt_size q) hd)
  have up : ∀ {b : Addr} {u : HO}, H b = some u → upd (upd H d od) a oa b = some u := fun q => by rw [upd_ne (ne_of_none q fa), upd_ne (ne_of_none q fd)]; exact q
  refine I.un (t' := t') (h' := h') {
    keep := fun b u q _ _ _ => k b u q
    slot := fun b u q _ _ _ => ⟨u.slots, k b u q⟩
    free := fun b u q n _ => by rw [upd_ne (la q), upd_ne (ld q)]; exact n
    there := fun b u q _ => ⟨u, k b u q⟩
    tups := fun b xs q => up q
    frzs := fun b u xs q => up q
    tbls := fun b ps q => ⟨#[], by rw [up q]; simp⟩ } fun b u e => ?_
  by_cases hb : b = a
  · subst hb; rw [upd_same] at e; cases e; exact na
  · rw [upd_ne hb] at e
    by_cases hb' : b = d
    · subst hb'; rw [upd_same] at e; cases e; exact nd
    · rw [upd_ne hb'] at e
      exact (I.hok b u e).stay (fun c v _ q => k c v q) (fun c q => up q) fun c xs q => up q
end
theorem pe_gref {X : Cx} {x : Str} {C : Addr} {pos : Pos} (hg : Gl X x) (hm : X.mg x = some (.ref C)) (hd : (x == ("__debug__" : Str)) = false := by decide) : PE X (.Name x pos) (tC (.ref C)) := pe_glob hg hm rfl hd
/-- C(us, ks = ws) can be made; its fields then are gV's -/
def XMk (P : Program) (w : World) (K : PySem.W.Frag) (C : Addr) (n : Nat) (ks : List Str) (gV : List V → List V → List (Str × V)) : Prop :=
  ∀ (A : Around) (s : Shared) (R : Result → Shared → Prop) (us ws : List Value) (vs zs : List V), Vals vs us → Vals zs ws → us.length = n → ws.length = ks.length → K.In s.heap → XL.XTop s.heap → A.depth + 2 < recursionLimit →
    (∀ h' tk e d mm, XL.OwnMade s.heap h' e C d mm → (∀ f, RelO ((gV vs zs).lookup f) (mm f)) → R (.ok (.ret (.ref e))) { s with heap := h', toks := tk }) →
    codeAny (model P w) A (.call (.ref C) ⟨us, ks.zip ws⟩) R s
/-- a new exception of the class C with the fields gV -/
def tXv (C : Addr) (n m : Nat) (gV : List V → List V → List (Str × V)) (ta tk : TA) : TE := fun σ H Q => ta σ H fun vs H1 => tk σ H1 fun zs H2 => vs.length = n ∧ zs.length = m ∧
  ∀ a d, H2 a = none → H2 d = none → d ≠ a → Q (.ref a) (upd (upd H2 d (exd d (gV vs zs))) a (exo a C (some d)))
section
variable {X : Cx} {n k : Nat} {C : Addr} {ks : List Str} {x : Str} {p pos : Pos} {e : Expr} {es : List Expr} {kws : List Keyword} {t tk : TA} {gV : List V → List V → List (Str × V)}
theorem run_xv {pins : List (Addr × Obj)} {σ : St} {H : Hp} {s : Shared} {Q : VK} {us ws : List Value} {vs zs : List V} (M : XMk X.prog X.w X.K C n ks gV) (hr : Room k X.A) (I : Inv X pins σ H s) (r : Vals vs us) (rz : Vals zs ws) (l1 : vs.length = n) (l2 : zs.length = ks.length)
    (h : ∀ a d, H a = none → H d = none → d ≠ a → Q (.ref a) (upd (upd H d (exd d (gV vs zs))) a (exo a C (some d)))) :
    wpAny (model X.prog X.w) X.A (call (.ref C) us (ks.zip ws)) (EP X pins σ Q) X.xe s := by
  refine wpAny_call (M _ s _ us ws vs zs r rz (r.length.symm.trans l1) (rz.length.symm.trans l2) I.kIn I.xtop (by have := hr.dp; omega) fun h' tk' e' d mm O rel => ?_)
  obtain ⟨t1, ho⟩ := O.obj
  exact ⟨.ref e', _, I.laid2 (t' := tk') O.keep O.new O.dbig O.dne (exo_ok ho) (exd_ok O.ns rel), rfl, h e' d (I.hok.fresh O.new) (I.hok.fresh O.dbig) O.dne⟩
/-- C(e, .., k = v, ..) -/
theorem pe_xv (M : XMk X.prog X.w X.K C n ks gV) (hr : Room k X.A) (hg : Gl X x) (hm : X.mg x = some (.ref C)) (kp : PySem.W.keepIn X.K (.ref C) = true) (ha : PA X (e :: es) t) (hkw : PK X kws tk)
    (hall : (backToKw pos (keywordEach kws X.env)).all (·.1.isSome) = true := by rfl) (hks : (backToKw pos (keywordEach kws X.env)).filterMap (·.1) = ks := by rfl) (hdb : (x == ("__debug__" : Str)) = false := by decide)
    (he : starEach (e :: es) X.env = (false, eval e X.env) :: starEach es X.env := by rfl) (hpl : ((backTo pos (starEach (e :: es) X.env)).any (·.1) || (backToKw pos (keywordEach kws X.env)).any (·.1.isNone)) = false := by rfl) :
    PE X (.Call (.Name x p) (e :: es) kws pos) (tXv C n ks.length gV t tk) := by
  refine ⟨fun pins s σ H Q I h => ?_⟩
  refine wpAny_Call_Name_kw (ld_glob I hg hm ?_ hdb)
  refine PySem.W.callWith_KW (h₀ := X.base) I.ok.mod.kin kp hall (thn (ha.run pos pins s σ H _ I h) fun us s1 ⟨vs, H1, I1, r, q⟩ => ?_) hpl he
  refine thn (hkw.run pos pins s1 σ H1 _ I1 q) fun ws s2 ⟨zs, H2, I2, rz, l1, l2, q2⟩ => ⟨I2.kIn, ?_⟩
  rw [hks]
  exact run_xv M hr I2 r rz l1 l2 q2
/-- C(k = v, ..) -/
theorem pe_xv0 (M : XMk X.prog X.w X.K C 0 ks gV) (hr : Room k X.A) (hg : Gl X x) (hm : X.mg x = some (.ref C)) (kp : PySem.W.keepIn X.K (.ref C) = true) (hkw : PK X kws tk)
    (hall : (backToKw pos (keywordEach kws X.env)).all (·.1.isSome) = true := by rfl) (hks : (backToKw pos (keywordEach kws X.env)).filterMap (·.1) = ks := by rfl) (hdb : (x == ("__debug__" : Str)) = false := by decide)
    (hpl : ((backTo pos (starEach [] X.env)).any (·.1) || (backToKw pos (keywordEach kws X.env)).any (·.1.isNone)) = false := by rfl) :
    PE X (.Call (.Name x p) [] kws pos) (tXv C 0 ks.length gV tNil tk) := by
  refine ⟨fun pins s σ H Q I h => ?_⟩
  refine wpAny_Call_Name_kw (ld_glob I hg hm ?_ hdb)
  refine PySem.W.callWith_KW0 (h₀ := X.base) I.ok.mod.kin kp hall ?_ hpl
  refine thn (hkw.run pos pins s σ H _ I h) fun ws s2 ⟨zs, H2, I2, rz, l1, l2, q2⟩ => ⟨I2.kIn, ?_⟩
  rw [hks]
  exact run_xv (us := []) (vs := []) M hr I2 .nil rz rfl l2 q2
end
section
variable {P : Program} {w : World} {K : PySem.W.Frag} {C fI : Addr} {qual tx f f2 : Str}
open PySem.XL in
theorem xmk1 {Ps : Ps1} {a1 a2 : Pos} (T : XCls P K C) (Fn : XFn P K C fI qual (args1 a1 a2 f) (body1 Ps tx f) (scope1 f)) (hf : okF f = true) (nof : PySem.W.findIn K (.ref C) f = some none) (ev : EvOk qual (scope1 f) fI Ps tx)
    (hb : ∀ (s : Shared) (x : Addr) (v : Value) (kV doc pm : Value) (an : Option Addr) (cdv ct : Value) (cc : Addr), BindsTo s (PySem.W.ksFn "__init__" qual (args1 a1 a2 f) (body1 Ps tx f) (scope1 f) .none kV doc pm an cdv ct cc) ⟨[.ref x, v], []⟩ [("self", .ref x), (f, v)]) :
    XMk P w K C 1 [] (fun vs _ => [(f, vs.headD .non)]) := by
  intro A s R us ws vs zs r rz l1 l2 X Tp dp hq
  cases r with
  | nil => cases l1
  | @cons v u vs' us' ru rr =>
    cases rr with
    | cons _ _ => cases l1
    | nil =>
      show codeAny _ _ (.call (.ref C) ⟨[u], []⟩) _ _
      refine made (mm := fun y => if y = f then some u else none) T Fn X Tp (by show 1 ≤ sizeLine; rw [sizeLine_eq]; decide) (fun s' A' x t0 R' X' Tp' hx hnx hA hq' => ?_) fun h' tk e d O => hq h' tk e d _ O fun g => ?_
      · exact init1 T Fn hf nof ev X' Tp' hx hnx (by omega) (hb s' x u) hq'
      · rw [lookup_put]
        by_cases e : g = f
        · rw [if_pos e, if_pos e]; exact ru
        · rw [if_neg e, if_neg e]; exact True.intro
open PySem.XL in
theorem xmk1k {Ps : Ps1} {a1 a2 : Pos} (T : XCls P K C) (Fn : XFn P K C fI qual (args1 a1 a2 f) (body1 Ps tx f) (scope1 f)) (hf : okF f = true) (nof : PySem.W.findIn K (.ref C) f = some none) (ev : EvOk qual (scope1 f) fI Ps tx)
    (hb : ∀ (s : Shared) (x : Addr) (v : Value) (kV doc pm : Value) (an : Option Addr) (cdv ct : Value) (cc : Addr), BindsTo s (PySem.W.ksFn "__init__" qual (args1 a1 a2 f) (body1 Ps tx f) (scope1 f) .none kV doc pm an cdv ct cc) ⟨[.ref x], [(f, v)]⟩ [("self", .ref x), (f, v)]) :
    XMk P w K C 0 [f] (fun _ zs => [(f, zs.headD .non)]) := by
  intro A s R us ws vs zs r rz l1 l2 X Tp dp hq
  cases r with
  | cons _ _ => cases l1
  | nil =>
    cases rz with
    | nil => cases l2
    | @cons v u vs' us' ru rr =>
      cases rr with
      | cons _ _ => cases l2
      | nil =>
        show codeAny _ _ (.call (.ref C) ⟨[], [(f, u)]⟩) _ _
        refine made (mm := fun y => if y = f then some u else none) T Fn X Tp (by show 0 ≤ sizeLine; omega) (fun s' A' x t0 R' X' Tp' hx hnx hA hq' => ?_) fun h' tk e d O => hq h' tk e d _ O fun g => ?_
        · exact init1 T Fn hf nof ev X' Tp' hx hnx (by omega) (hb s' x u) hq'
        · rw [lookup_put]
          by_cases e : g = f
          · rw [if_pos e, if_pos e]; exact ru
          · rw [if_neg e, if_neg e]; exact True.intro
theorem rel2 {v v2 : V} {u u2 : Value} (r : RelV v u) (r2 : RelV v2 u2) (g : Str) : RelO (([(f2, v2), (f, v)] : List (Str × V)).lookup g) (if g = f2 then some u2 else if g = f then some u else none) := by
  rw [lookup_put]
  by_cases e : g = f2
  · rw [if_pos e, if_pos e]; exact r2
  · rw [if_neg e, if_neg e, lookup_put]
    by_cases e' : g = f
    · rw [if_pos e', if_pos e']; exact r
    · rw [if_neg e', if_neg e']; exact True.intro
open PySem.XL in
theorem xmk2 {Ps : Ps2} {a1 a2 a3 : Pos} (T : XCls P K C) (Fn : XFn P K C fI qual (args2 a1 a2 a3 f f2) (body2 Ps tx f f2) (scope2 f f2)) (hf : okF f = true) (hf2 : okF f2 = true) (h12 : (f == f2) = false) (nof : PySem.W.findIn K (.ref C) f = some none) (nof2 : PySem.W.findIn K (.ref C) f2 = some none) (ev : EvOk qual (scope2 f f2) fI Ps.toPs1 tx)
    (hb : ∀ (s : Shared) (x : Addr) (v v2 : Value) (kV doc pm : Value) (an : Option Addr) (cdv ct : Value) (cc : Addr), BindsTo s (PySem.W.ksFn "__init__" qual (args2 a1 a2 a3 f f2) (body2 Ps tx f f2) (scope2 f f2) .none kV doc pm an cdv ct cc) ⟨[.ref x, v, v2], []⟩ [("self", .ref x), (f, v), (f2, v2)]) :
    XMk P w K C 2 [] (fun vs _ => [(f2, vs.getD 1 .non), (f, vs.getD 0 .non)]) := by
  intro A s R us ws vs zs r rz l1 l2 X Tp dp hq
  cases r with
  | nil => cases l1
  | @cons v u vs' us' ru rr =>
    cases rr with
    | nil => cases l1
    | @cons v2 u2 vs' us' ru2 rr =>
      cases rr with
      | cons _ _ => cases l1
      | nil =>
        show codeAny _ _ (.call (.ref C) ⟨[u, u2], []⟩) _ _
        refine made (mm := fun y => if y = f2 then some u2 else if y = f then some u else none) T Fn X Tp (by show 2 ≤ sizeLine; rw [sizeLine_eq]; decide) (fun s' A' x t0 R' X' Tp' hx hnx hA hq' => ?_) fun h' tk e d O => hq h' tk e d _ O fun g => rel2 ru ru2 g
        exact init2 T Fn hf hf2 h12 nof nof2 ev X' Tp' hx hnx (by omega) (hb s' x u u2) hq'
open PySem.XL in
/-- by keywords, the second one first -/
theorem xmk2k {Ps : Ps2} {a1 a2 a3 : Pos} (T : XCls P K C) (Fn : XFn P K C fI qual (args2 a1 a2 a3 f f2) (body2 Ps tx f f2) (scope2 f f2)) (hf : okF f = true) (hf2 : okF f2 = true) (h12 : (f == f2) = false) (nof : PySem.W.findIn K (.ref C) f = some none) (nof2 : PySem.W.findIn K (.ref C) f2 = some none) (ev : EvOk qual (scope2 f f2) fI Ps.toPs1 tx)
    (hb : ∀ (s : Shared) (x : Addr) (v v2 : Value) (kV doc pm : Value) (an : Option Addr) (cdv ct : Value) (cc : Addr), BindsTo s (PySem.W.ksFn "__init__" qual (args2 a1 a2 a3 f f2) (body2 Ps tx f f2) (scope2 f f2) .none kV doc pm an cdv ct cc) ⟨[.ref x], [(f2, v2), (f, v)]⟩ [("self", .ref x), (f, v), (f2, v2)]) :
    XMk P w K C 0 [f2, f] (fun _ zs => [(f2, zs.getD 0 .non), (f, zs.getD 1 .non)]) := by
  intro A s R us ws vs zs r rz l1 l2 X Tp dp hq
  cases r with
  | cons _ _ => cases l1
  | nil =>
  cases rz with
  | nil => cases l2
  | @cons v2 u2 vs' us' ru2 rr =>
    cases rr with
    | nil => cases l2
    | @cons v u vs' us' ru rr =>
      cases rr with
      | cons _ _ => cases l2
      | nil =>
        show codeAny _ _ (.call (.ref C) ⟨[], [(f2, u2), (f, u)]⟩) _ _
        refine made (mm := fun y => if y = f2 then some u2 else if y = f then some u else none) T Fn X Tp (by show 0 ≤ sizeLine; omega) (fun s' A' x t0 R' X' Tp' hx hnx hA hq' => ?_) fun h' tk e d O => hq h' tk e d _ O fun g => rel2 ru ru2 g
        exact init2 T Fn hf hf2 h12 nof nof2 ev X' Tp' hx hnx (by omega) (hb s' x u u2) hq'
end
/-- what an own exception class must say for its instances to be read and asked -/
structure XAsk (K : PySem.W.Frag) (D : Addr) : Prop where
  hg : PySem.W.findIn K (.ref D) "__getattribute__" = some (some (.builtin "BaseException.__getattribute__"))
  hk : PySem.W.findIn K (.ref D) "__getattr__" = some none
  hs : PySem.W.subIn K (.ref D) (.type "BaseException") = some true
  hd : PySem.W.hasDictIn K D = true
  ha : PySem.W.findIn K (.ref D) "__class__" = some (some (.builtin "object.__class__"))
  hn : PySem.W.specialIn K (.builtin "object.__class__") "__get__" = some (some (.builtin "getset_descriptor.__get__"))
  ht : PySem.W.takesIn K (.builtin "object.__class__") = some true
  hm : PySem.W.mroIn K D (.type "object") = some true
/-- e.f, e an exception that is held as a value -/
def tXat (K : PySem.W.Frag) (f : Str) (te : TE) : TE := fun σ H Q => te σ H fun x H1 => ∃ (a C d : Addr) (fs : List (Str × V)) (v : V), x = .ref a ∧ H1 a = some (exo a C (some d)) ∧ H1 d = some (exd d fs) ∧ XAsk K C ∧ PySem.W.findIn K (.ref C) f = some none ∧ fs.lookup f = some v ∧ Q v H1
/-- isinstance(e, c) -/
def rXis (K : PySem.W.Frag) : List V → Hp → VK → Prop := fun xs H Q => ∃ (a C d : Addr) (fs : List (Str × V)) (c : V) (u : Value) (b : Bool), xs = [.ref a, c] ∧ ClsV c u ∧ H a = some (exo a C (some d)) ∧ H d = some (exd d fs) ∧ XAsk K C ∧ PySem.W.kitOne K (.ref C) u = some b ∧ Q (.bl b) H
section
variable {X : Cx} {pins : List (Addr × Obj)} {σ : St} {H : Hp} {s : Shared}
theorem Inv.inst {a C d : Addr} {fs : List (Str × V)} (I : Inv X pins σ H s) (ea : H a = some (exo a C (some d))) (ed : H d = some (exd d fs)) :
    ∃ (oe od : Obj) (mA : Str → Option Value), PySem.W.InstAt s.heap a oe C (some od) ∧ (∀ f, RelO (fs.lookup f) (mA f)) ∧ ∀ f, PySem.W.lookIn f od = some (mA f) := by
  obtain ⟨t1, ho⟩ := exo_at I.hok ea
  obtain ⟨mA, hns, hr⟩ := exd_at I.hok ed
  obtain ⟨od, hod, hl⟩ := lookIn_ns hns
  exact ⟨_, od, mA, ⟨ho, rfl, rfl, hod⟩, hr, hl⟩
theorem pe_xat {e : Expr} {te : TE} {pos : Pos} {f : Str} (he : PE X e te) (hb : attributeBase e f X.env (eval e X.env) = eval e X.env := by rfl) : PE X (.Attribute e f pos) (tXat X.K f te) := by
  refine ⟨fun pins s σ H Q I h => ?_⟩
  refine attr_of hb (thn (he.run pins s σ H _ I h) fun u s1 ⟨x, H1, I1, rx, a, C, d, fs, v, ex, ea, ed, T, hno, l, q⟩ => ?_)
  subst ex
  obtain rfl : u = Value.ref a := rx
  obtain ⟨oe, od, mA, J, hr, hl⟩ := I1.inst ea ed
  obtain ⟨u, hu, ru⟩ := RelO.some_of (v := v) (o := mA f) (by rw [← l]; exact hr f)
  exact HandSPX.exc_get I1.kIn J T.hg T.hk T.hs (PySem.W.findObj_own T.hd hno rfl (by rw [hl, hu])) (handed_of ru) ⟨v, H1, I1.tok _, ru, q⟩
theorem call_xis : CallR X (.builtin "isinstance") (rXis X.K) := by
  intro pins s σ H xs us Q I r h
  obtain ⟨a, C, d, fs, c, u, b, rfl, k, ea, ed, T, e, q⟩ := h
  obtain ⟨u1, u2, rfl, r1, r2⟩ := vals2 r
  have e2 := k.eq r2
  subst e2
  obtain rfl : u1 = Value.ref a := r1
  obtain ⟨oe, od, mA, J, hr, hl⟩ := I.inst ea ed
  obtain ⟨cd, hc, _⟩ := PySem.W.any_some T.hd
  exact PySem.W.kia_one (PySem.W.kitx_exc (by rw [hc]; rfl) T.hg T.hk T.hs T.ha T.hn T.ht T.hm) I.kIn J e (fun z => nomatch z) fun tk => ⟨.bl b, H, I.tok tk, rfl, q⟩
end
end L2
namespace L2
open PySem PySem.Spec PyProof.Rows
/-! ### raise C(e, ..), C an own class over LookupError -/
/-- C(e, ..) to be raised: its own dict d, new, holds the fields -/
def tXmk (C : Addr) (n : Nat) (gV : List V → List V → List (Str × V)) (ta : TA) : L2.St → Hp → XK → Prop := fun σ H Q => ta σ H fun vs H1 => vs.length = n ∧ ∀ d, H1 d = none → Q (.ref C) (some d) (upd H1 d (.xd (gV vs [])))
theorem pmk_x {X : Cx} {x : Str} {C : Addr} {n k : Nat} {e : Expr} {es : List Expr} {ta : TA} {p pos : Pos} {gV : List V → List V → List (Str × V)} (M : XMk X.prog X.w X.K C n [] gV) (hr : Room k X.A) (hg : Gl X x) (hm : X.mg x = some (.ref C)) (kp : PySem.W.keepIn X.K (.ref C) = true) (rs : Raises X (.ref C)) (ha : PA X (e :: es) ta)
    (hdb : (x == ("__debug__" : Str)) = false := by decide) (he : starEach (e :: es) X.env = (false, eval e X.env) :: starEach es X.env := by rfl) (hpl : (backTo pos (starEach es X.env)).any (·.1) = false := by rfl) :
    PMk X (.Call (.Name x p) (e :: es) [] pos) (tXmk C n gV ta) := by
  intro pins s σ H Q I h
  refine wpAny_Call_Name_kw (ld_glob I hg hm ?_ hdb)
  refine PySem.W.callWith_K (h₀ := X.base) I.ok.mod.kin kp (thn (ha.run pos pins s σ H _ I h) fun us s1 ⟨vs, H1, I1, r1, l1, q1⟩ => ⟨I1.kIn, ?_⟩) he hpl
  show wpAny _ _ (call (.ref C) us) _ _ _
  refine wpAny_call (M _ s1 _ us [] vs [] r1 .nil (r1.length.symm.trans l1) rfl I1.kIn I1.xtop (by have := hr.dp; omega) fun h' tk' e' d mm O rel => ?_)
  obtain ⟨hp, g, dr, tk, os⟩ := s1
  obtain ⟨t1, hoe⟩ := O.obj
  obtain ⟨G', g1, g2⟩ := restrict h' fun b => decide (b ≠ e')
  have gk : ∀ b, b ≠ e' → G'.get? b = h'.get? b := fun b hb => g1 b (decide_eq_true hb)
  have ge : G'.get? e' = none := g2 e' (by simp)
  have old : ∀ b o, hp.get? b = some o → G'.get? b = some o := fun b o q => (gk b (Nat.ne_of_lt (Nat.lt_of_lt_of_le (Heap.lt_size q) O.new))).trans (O.keep b o q)
  have ob : ObjOk X.prog X.w (upd H1 d (.xd (gV vs []))) G' d (.xd (gV vs [])) := ⟨_, O.ns.at (fun o q => (gk d O.dne).trans q), rel⟩
  have J : Inv X pins σ (upd H1 d (.xd (gV vs []))) ⟨G', g, dr, tk', os⟩ := I1.laid (t' := tk') old O.dbig ob
  refine ⟨e', _, _, ⟨G', g, dr, tk', os⟩, _, .ref C, some d, rfl, J, fun b o q => ?_, ge, hoe, ⟨rfl, rfl⟩, rfl, rfl, ?_, rfl, I1.bare, rs, q1 d (I1.hok.fresh O.dbig)⟩
  · by_cases hb : b = e'
    · have q' : G'.get? b = some o := q
      rw [hb, ge] at q'; cases q'
    · exact (gk b hb).symm.trans q
  · rw [upd_ne (Ne.symm O.dne)]
    exact I1.hok.fresh O.new
end L2
namespace L2
open PySem PySem.Spec PyProof.Rows
/-! ### zip of a text and a tuple -/
/-- the text x and the tuple at b, the items in new pairs -/
def ItzS (K : PySem.W.Frag) (x : Str) (b : Addr) : It :=
  ⟨fun i H => ∃ (ys : List V) (c : Nat) (y : V), SqT K H b ys ∧ x.cps[i]? = some c ∧ ys[i]? = some y ∧ i ≤ x.cps.size ∧ i ≤ ys.length,
    fun i H v H' => ∃ T c y, v = .ref T ∧ H T = none ∧ H' = upd H T (.tup [.str ⟨#[c]⟩, y]) ∧ x.cps[i]? = some c ∧ ∀ ys, SqT K H b ys → ys[i]? = some y,
    fun i H => ∃ ys : List V, SqT K H b ys ∧ i ≤ x.cps.size ∧ i ≤ ys.length ∧ (i = x.cps.size ∨ i = ys.length)⟩
theorem draws_text {prog : Program} {w : World} {A : Around} (hh : A.handled = none) (it : Addr) (x : Str) (t : Tok) (ty : String) (hty : ty = "str_ascii_iterator" ∨ ty = "str_iterator") :
    Draws prog w A it [it] x.cps.size (fun i v => ∃ c u, x.cps[i]? = some c ∧ v = .str ⟨#[c]⟩ u) (fun i h => h.IsStrIter it ty x t i) := by
  rcases hty with rfl | rfl
  · exact Draws.strAscii hh it x t
  · exact Draws.strWide hh it x t
theorem turn_zipS {P : Program} {w : World} {K : PySem.W.Frag} {elts : List Expr} {kk : Nat} {tpos : Pos} {b z TI TO i1 i2 : Addr} {x : Str} {t : Tok} {ty : String} (hty : ty = "str_ascii_iterator" ∨ ty = "str_iterator") (D : ZipSep2 z TI TO i1 i2 [i1] [i2, b]) (hb : b ≠ i2) :
    Turn P w K (.Tuple elts kk tpos) (ItzS K x b) [z, TI, TO, i1, i2] z (fun i h => IsZip h z TI TO .none ∧ IsTupOf2 h TI (.ref i1) (.ref i2) ∧ (∃ x y, IsTupOf2 h TO x y) ∧ h.IsStrIter i1 ty x t i ∧ h.IsTupleIter i2 b i) where
  mem := by simp
  obj := fun i h st c hc => by
    obtain ⟨hz, hTI, ⟨x, y, hTO⟩, ⟨o1, e1, _, d1⟩, ⟨o2, e2, _, d2⟩⟩ := st
    have e' : c = z ∨ c = TI ∨ c = TO ∨ c = i1 ∨ c = i2 := by simpa using hc
    rcases e' with q | q | q | q | q
    · rw [q]; exact ⟨_, hz, fun v q => nomatch q⟩
    · rw [q]; exact ⟨_, hTI, fun v q => nomatch q⟩
    · rw [q]; exact ⟨_, hTO, fun v q => nomatch q⟩
    · rw [q]; exact ⟨o1, e1, fun v q => by rw [d1] at q; cases q⟩
    · rw [q]; exact ⟨o2, e2, fun v q => by rw [d2] at q; cases q⟩
  keep := fun i h h' st k => by
    obtain ⟨hz, hTI, ⟨x, y, hTO⟩, ⟨o, ho, r⟩, h2⟩ := st
    exact ⟨k z (by simp) _ hz, k TI (by simp) _ hTI, ⟨x, y, k TO (by simp) _ hTO⟩, ⟨o, k i1 (by simp) o ho, r⟩, h2.at fun o q => k i2 (by simp) o q⟩
  item := by
    intro X hP hw hK hc i pins s σ H E I hf st hg
    subst hP hw hK
    obtain ⟨hz, hTI, ⟨x0, y0, hTO⟩, h1, h2⟩ := st
    obtain ⟨ys, c, y, hqy, hx, hy, l1, l2⟩ := hg
    obtain ⟨its2, rv2, p2, _⟩ := I.tuple hqy
    obtain ⟨u2, hu2, ru2⟩ := rv2.get hy
    have hzl : z < s.heap.objs.size := Heap.lt_size hz
    have hlt1 : i < x.cps.size := (Array.getElem?_eq_some_iff.mp hx).1
    have hlt2 : i < its2.toArray.size := by simpa using (List.getElem?_eq_some_iff.mp hu2).1
    have d1 := draws_text (prog := X.prog) (w := X.w) (A := X.A.in1) (I.ok.hd hc) i1 x t ty hty
    have d2 := Draws.tuple (prog := X.prog) (w := X.w) (A := X.A.in1) (I.ok.hd hc) i2 b hb its2.toArray
    refine wpAny_pyNext_zipD2_item (St1 := fun i h => h.IsStrIter i1 ty x t i) (St2 := fun i h => h.IsTupleIter i2 b i ∧ h.IsTuple b its2.toArray) D d1 d2 hz hTI hTO h1 ⟨h2, p2⟩ hlt1 hlt2 fun x1 x2 h' tk q1 q2 z' TO' h1' h2' hT hsz hk => ?_
    obtain ⟨c', u, hc', rfl⟩ := q1
    rw [hx] at hc'
    cases hc'
    have hx2 : x2 = u2 := by
      have q2' : its2[i]? = some x2 := by simpa using q2
      rw [hu2] at q2'
      exact (Option.some.inj q2').symm
    subst hx2
    refine ⟨_, rfl, wpAny_letOwnedTupleGo_zip (s := { s with heap := h', toks := tk }) z' fun h'' z'' sb => ?_⟩
    have hT2 : h''.get? s.heap.objs.size = some { cls := .type "tuple", data := .seq #[.str ⟨#[c]⟩ u, x2] } := (sb.2 _ (Nat.ne_of_gt hzl)).trans hT
    have new : ObjOk X.prog X.w (upd H s.heap.objs.size (.tup [.str ⟨#[c]⟩, y])) h'' s.heap.objs.size (.tup [.str ⟨#[c]⟩, y]) :=
      ⟨by show 2 ≤ sizeLine; decide, [.str ⟨#[c]⟩ u, x2], .cons ⟨u, rfl⟩ (.cons ru2 .nil), ⟨_, hT2, rfl, _, rfl⟩⟩
    have I1 : Inv X pins σ (upd H s.heap.objs.size (.tup [.str ⟨#[c]⟩, y])) { s with heap := h'', toks := tk } :=
      I.turnedNew (t' := tk) (ch := [z, TI, TO, i1, i2]) (fun c o hb q => (sb.2 c (fun q' => hb (by simp [q']))).trans (hk c o (fun q' => hb (by simp [q'])) (fun q' => hb (by simp [q'])) (fun q' => hb (by simp [q'])) (fun q' => hb (by simp [q'])) q)) hf (Nat.le_refl _) new
    refine ⟨.ref s.heap.objs.size, _, I1, rfl, ⟨_, c, y, rfl, I.hok.fresh (Nat.le_refl _), rfl, hx, fun l hl => by rw [I.tuple_inj hl hqy]; exact hy⟩, ⟨z'', ?_, ⟨.str ⟨#[c]⟩ u, x2, ?_⟩, ?_, ?_⟩, fun c hcm => ?_⟩
    · exact (sb.2 _ D.TIz).trans (hk _ _ D.TIz D.TITO D.TIi1 D.TIi2 hTI)
    · exact (sb.2 _ D.TOz).trans TO'
    · obtain ⟨o, ho, r⟩ := h1'
      exact ⟨o, (sb.2 _ D.zi1.symm).trans ho, r⟩
    · exact h2'.1.at fun o q => (sb.2 _ D.zi2.symm).trans q
    · have hlt : c < s.heap.objs.size := by
        have e' : c = z ∨ c = TI ∨ c = TO ∨ c = i1 ∨ c = i2 := by simpa using hcm
        rcases e' with q | q | q | q | q
        · rw [q]; exact hzl
        · rw [q]; exact Heap.lt_size hTI
        · rw [q]; exact Heap.lt_size hTO
        · rw [q]; obtain ⟨_, e1, _⟩ := h1; exact Heap.lt_size e1
        · rw [q]; obtain ⟨_, e2, _⟩ := h2; exact Heap.lt_size e2
      rw [upd_ne (Nat.ne_of_lt hlt)]
      exact (hf c hcm).1
  done := by
    intro X hP hw hK hc i pins s σ H E I hf st hg
    subst hP hw hK
    obtain ⟨hz, hTI, ⟨x0, y0, hTO⟩, h1, h2⟩ := st
    obtain ⟨ys, hqy, l1, l2, hend⟩ := hg
    obtain ⟨its2, rv2, p2, _⟩ := I.tuple hqy
    have ll := rv2.length
    have l2' : i ≤ its2.toArray.size := by simp; omega
    have he : i = x.cps.size ∨ i = its2.toArray.size := by
      rcases hend with q | q
      · exact .inl q
      · exact .inr (by simp; omega)
    have d1 := draws_text (prog := X.prog) (w := X.w) (A := X.A.in1) (I.ok.hd hc) i1 x t ty hty
    have d2 := Draws.tuple (prog := X.prog) (w := X.w) (A := X.A.in1) (I.ok.hd hc) i2 b hb its2.toArray
    exact wpAny_pyNext_zipD2_end (St1 := fun i h => h.IsStrIter i1 ty x t i) (St2 := fun i h => h.IsTupleIter i2 b i ∧ h.IsTuple b its2.toArray) D d1 d2 hz hTI hTO h1 ⟨h2, p2⟩ l1 l2' he fun h' tk hk => ⟨rfl, I.turnedL (t' := tk) (ch := [z, TI, TO, i1, i2]) (fun c o hb q =>
      hk c o (fun q' => hb (by simp [q'])) (fun q' => hb (by simp [q'])) (fun q' => hb (by simp [q'])) (fun q' => hb (by simp [q'])) q) hf⟩
  self := fun A i s Q E st h => wpAny_pyIter_zip st.1 h
def iZipS (K : PySem.W.Frag) (ta : TA) : TI := fun σ H R => ta σ H fun vs H1 => ∃ (x : Str) (b : Addr) (ys : List V), vs = [.str x, .ref b] ∧ SqT K H1 b ys ∧ R (ItzS K x b) H1
theorem pi_zipS {X : Cx} {e e2 : Expr} {ta : TA} {p pos tpos : Pos} {elts : List Expr} {kk : Nat} (hg : Gl X "zip") (hm : X.mg "zip" = none) (ha : PA X [e, e2] ta)
    (hs : starEach [e, e2] X.env = (false, eval e X.env) :: starEach [e2] X.env := by rfl) (hpl : (backTo pos (starEach [e2] X.env)).any (·.1) = false := by rfl) :
    PI X (.Tuple elts kk tpos) (.Call (.Name "zip" p) [e, e2] [] pos) (iZipS X.K ta) := by
  refine ⟨fun pins s σ H R I h => ?_⟩
  refine Call_ (ld_blt I hg hm PyProof.Rows.boot_zip (PyProof.Rows.callWith_type1 (thn (ha.run pos pins s σ H _ I h) fun us s1 ⟨vs, H1, I1, r1, q1⟩ => ?_) hs hpl))
  obtain ⟨x, b, ys, ex, hqy, q⟩ := q1
  subst ex
  obtain ⟨u1, u2, rfl, r, r'⟩ := vals2 r1
  obtain ⟨t, rfl⟩ := r
  cases r'
  have fresh5 : ∀ c, c ∈ [s1.heap.objs.size + 4, s1.heap.objs.size + 2, s1.heap.objs.size + 3, s1.heap.objs.size, s1.heap.objs.size + 1] → FpOk X pins H1 c := fun c hcm => by
    have e' : c = s1.heap.objs.size + 4 ∨ c = s1.heap.objs.size + 2 ∨ c = s1.heap.objs.size + 3 ∨ c = s1.heap.objs.size ∨ c = s1.heap.objs.size + 1 := by simpa using hcm
    have hle : s1.heap.objs.size ≤ c := by omega
    exact I1.fpOk hle (I1.hok.fresh hle)
  obtain ⟨its2, rv2, p2, _⟩ := I1.tuple hqy
  obtain ⟨o2, ho2, _⟩ := id p2
  have hblt := Heap.lt_size ho2
  refine zip_begins2 (begins_text x t) (begins_tuple b its2.toArray) trivial (show s1.heap.IsTuple b its2.toArray from p2) fun h' hz hTI hTO h1 h2 hsz hk => wpAny_pyIter_zip hz ?_
  have I2 : Inv X pins σ H1 { s1 with heap := h' } := I1.kept (t' := s1.toks) hk
  have sep := zip_sep2 (N := s1.heap.objs.size) (fp1 := []) (fp2 := [b]) (fun _ q => nomatch q) (fun c q => by
    have e : c = b := by simpa using q
    rw [e]; exact hblt)
  have hty : strIterType x = "str_ascii_iterator" ∨ strIterType x = "str_iterator" := by
    unfold strIterType
    split
    · exact .inl rfl
    · exact .inr rfl
  exact ⟨s1.heap.objs.size + 4, [s1.heap.objs.size + 4, s1.heap.objs.size + 2, s1.heap.objs.size + 3, s1.heap.objs.size, s1.heap.objs.size + 1], _, _, H1, rfl, I2, turn_zipS (x := x) (t := t) hty sep (Nat.ne_of_lt (Nat.lt_succ_of_lt hblt)), ⟨hz, hTI, ⟨_, _, hTO⟩, ⟨_, h1, rfl, rfl⟩, ⟨_, h2, rfl, rfl⟩⟩, fresh5, q⟩
/-- a loop over zip of a text and a tuple of one length -/
theorem for_zipS {K : PySem.W.Frag} {b : Addr} {x : Str} {ys : List V} {g : TG} {tb : TS} {D : Ends} {σ : L2.St} {H : Hp} (hl : x.cps.size = ys.length) (Pv : Nat → L2.St → Hp → Prop) (h0 : Pv 0 σ H) (hq : ∀ i σ H, Pv i σ H → SqT K H b ys)
    (hs : ∀ (i c : Nat) (y : V) (T : Addr) (σ : L2.St) (H : Hp), x.cps[i]? = some c → ys[i]? = some y → Pv i σ H → H T = none → g (.ref T) σ (upd H T (.tup [.str ⟨#[c]⟩, y])) fun σ2 H2 => tb { D with nx := Pv (i + 1), ct := Pv (i + 1), bk := D.nx } σ2 H2) (hd : ∀ σ H, Pv ys.length σ H → D.nx σ H) :
    ∃ W : Nat → Nat → L2.St → Hp → Prop, (∃ m, W 0 m σ H) ∧ ∀ i m σ H, W i m σ H →
      ((ItzS K x b).stop i H ∧ D.nx σ H) ∨ ((ItzS K x b).go i H ∧ ∃ N : L2.St → Hp → Prop, (∀ σ' H', N σ' H' → ∃ m', m' < m ∧ W (i + 1) m' σ' H') ∧ ∀ v H', (ItzS K x b).yld i H v H' → g v σ H' fun σ2 H2 => tb { D with nx := N, ct := N, bk := D.nx } σ2 H2) := by
  refine ⟨fun i m σ H => m = ys.length - i ∧ i ≤ ys.length ∧ Pv i σ H, ⟨ys.length, rfl, Nat.zero_le _, h0⟩, ?_⟩
  rintro i m σ H ⟨rfl, hi, p⟩
  have qy := hq i σ H p
  by_cases hlt : i < ys.length
  · have hy : ys[i]? = some ys[i] := List.getElem?_eq_getElem hlt
    have hx : x.cps[i]? = some (x.cps[i]'(by omega)) := Array.getElem?_eq_getElem _
    refine .inr ⟨⟨ys, _, _, qy, hx, hy, by omega, hi⟩, Pv (i + 1), fun σ' H' p' => ⟨ys.length - (i + 1), by omega, rfl, hlt, p'⟩, fun v H' y => ?_⟩
    obtain ⟨T, c, y', rfl, hT, rfl, f1, f2⟩ := y
    exact hs i c y' T σ H f1 (f2 ys qy) p hT
  · have e : i = ys.length := by omega
    subst e
    exact .inl ⟨⟨ys, qy, by omega, Nat.le_refl _, .inr rfl⟩, hd σ H p⟩
end L2
namespace L2
namespace TS
open PySem PySem.Spec PyProof.Rows
/-! ### the set of the texts of a tuple: how many they are -/
/-- how many different ones are among the first i -/
def dist (xs : List Str) : Nat → Nat
  | 0 => 0
  | i + 1 => if (xs.take i).any (· == xs.getD i Str.empty) = true then dist xs i else dist xs i + 1
theorem dist_succ (xs : List Str) (i : Nat) : (if (xs.take i).any (· == xs.getD i Str.empty) = true then dist xs i else dist xs i + 1) = dist xs (i + 1) := rfl
theorem dist_le (xs : List Str) : ∀ i, dist xs i ≤ i
  | 0 => Nat.le_refl _
  | i + 1 => by
    unfold dist
    have := dist_le xs i
    split <;> omega
theorem take_one {α : Type} : ∀ {l : List α} {i : Nat} {x : α}, l[i]? = some x → l.take (i + 1) = l.take i ++ [x]
  | [], i, x, h => by simp at h
  | a :: l, 0, x, h => by
    have e : a = x := Option.some.inj h
    subst e
    rfl
  | a :: l, i + 1, x, h => by
    have ih := take_one (l := l) (i := i) (x := x) h
    show a :: l.take (i + 1) = a :: l.take i ++ [x]
    rw [ih]
    rfl
section
variable {prog : Program} {w : World} {A : Around} {R : Result → Shared → Prop} {I : Addr} {fp wr : List Addr} {G : Array GenState → Array GenState → Prop} {n : Nat} {P : Nat → Value → Prop} {St : Nat → Shared → Prop}
theorem loop_strs (W : WalksS prog w A.in1 I fp wr G n P St) (S : Addr) (hSf : S ∉ fp) (xs : List Str) (hsz : xs.length = n) (hn1 : n < 1000)
    (hval : ∀ i v, P i v → ∃ t, v = .str (xs.getD i Str.empty) t) :
    ∀ (k i : Nat) (s : Shared), n - i = k → i ≤ n → St i s →
      s.heap.SetOf (PySem.strKind prog w) S (fun k' => (xs.take i).any (· == k')) (dist xs i) →
      (∀ s', Moved (S :: wr) G s s' → s'.heap.SetOf (PySem.strKind prog w) S (fun k' => (xs.take n).any (· == k')) (dist xs n) → R (.ok (.ret .none)) s') →
      codeAny (model prog w) A (.builtin "set.update.loop" ⟨[.ref S, .ref I], []⟩) R s := by
  have hSw : S ∉ wr := fun h => hSf (W.sub _ h)
  have hsub : ∀ b ∈ wr, b ∈ S :: wr := fun b hb => List.mem_cons_of_mem _ hb
  intro k
  induction k with
  | zero =>
    intro i s hk hi hst hS hR
    have hin : i = n := by omega
    subst hin
    refine codeAny_builtin PyProof.Rows.F.entry_set_update_loop ?_
    rw [Around.under_plainId PyProof.Rows.F.plain_set_update_loop _]
    show wpAny _ A.in1 (pyNext (.ref I) >>= _) _ _ s
    refine wpAny_bind (W.done s _ _ hst fun s' hm => ?_)
    show wpAny _ A.in1 (ret Value.none) _ _ s'
    exact wpAny_pure (hR s' (hm.mono hsub) (by
      obtain ⟨o, es, ep, t, ho, rest⟩ := hS
      exact ⟨o, es, ep, t, hm.heap S _ hSw ho, rest⟩))
  | succ k ih =>
    intro i s hk hi hst hS hR
    have hlt : i < n := by omega
    have hdi := dist_le xs i
    refine codeAny_builtin PyProof.Rows.F.entry_set_update_loop ?_
    rw [Around.under_plainId PyProof.Rows.F.plain_set_update_loop _]
    show wpAny _ A.in1 (pyNext (.ref I) >>= _) _ _ s
    refine wpAny_bind (W.item i s _ _ hlt hst fun v s' hP hst' hm => ?_)
    obtain ⟨t, rfl⟩ := hval i v hP
    have hS' : s'.heap.SetOf (PySem.strKind prog w) S (fun k' => (xs.take i).any (· == k')) (dist xs i) := by
      obtain ⟨o, es, ep, tb, ho, rest⟩ := hS
      exact ⟨o, es, ep, tb, hm.heap S _ hSw ho, rest⟩
    show wpAny _ A.in1 (holding [Value.str (xs.getD i Str.empty) t] (setAdd S (.str (xs.getD i Str.empty) t)) >>= _) _ _ s'
    refine wpAny_bind (wpAny_holding ?_)
    unfold setAdd
    refine wpAny_holding ?_
    refine wpAny_bind ((PySem.strKind prog w).pyHash (k := xs.getD i Str.empty) (strKind_is _ _ _ _) ?_)
    refine wpAny_setAddHashed_of (knd := PySem.strKind prog w) (s := { s' with toks := s'.toks + 1 }) (strKind_is _ _ _ _) rfl hS' (by unfold scanBound; omega) fun h' hsb hS2 => ?_
    have hSi : h'.SetOf (PySem.strKind prog w) S (fun k' => (xs.take (i + 1)).any (· == k')) (dist xs (i + 1)) := by
      have hix : xs[i]? = some (xs.getD i Str.empty) := by
        rw [List.getD_eq_getElem?_getD, List.getElem?_eq_getElem (by omega)]
        rfl
      refine PyProof.Rows.SetOf_congr hS2 (fun k' => ?_) (dist_succ xs i)
      rw [take_one hix, List.any_append]
      congr 1
      by_cases e : k' = xs.getD i Str.empty
      · rw [e]; simp
      · have hb : (xs.getD i Str.empty == k') = false := by simpa [beq_iff_eq] using (fun h' : xs.getD i Str.empty = k' => e h'.symm)
        simp only [List.any_cons, List.any_nil, hb, Bool.or_false]
        exact decide_eq_false e
    refine wpAny_pure ⟨plainId_quiet PyProof.Rows.F.plain_set_update_loop _, ih (i + 1) _ (by omega) hlt (W.frame _ s' _ _ hst' (Nat.le_succ _) fun b hb o e => ?_) hSi fun s'' hm'' hS'' => ?_⟩
    · rw [hsb.2 b (fun h : b = S => hSf (by rw [← h]; exact hb))]; exact e
    · refine hR s'' (Moved.trans W.gtrans ((hm.mono hsub).then_heap (Nat.le_succ _) fun b o hb e => ?_) hm'') hS''
      rw [hsb.2 b (fun h : b = S => hb (by rw [h]; exact List.mem_cons_self))]; exact e
end
section
variable {prog : Program} {w : World} {A : Around} {E : Value → Shared → Prop} {s : Shared}
theorem call_set_strs {l : Addr} {items : Array Value} {xs : List Str} {Q : Value → Shared → Prop}
    (hh : A.handled = none) (hl : s.heap.IsTuple l items) (hi : PyProof.Rows.StrsAre items.toList xs) (hn1 : xs.length < 1000)
    (h : ∀ (h' : Heap) (tk : Nat), h'.SetOf (PySem.strKind prog w) s.heap.objs.size (fun k' => (xs.take items.size).any (· == k')) (dist xs items.size) →
      (∀ b o, b < s.heap.objs.size → s.heap.get? b = some o → h'.get? b = some o) → Q (.ref s.heap.objs.size) { s with heap := h', toks := tk }) :
    wpAny (model prog w) A (call (.type "set") [.ref l]) Q E s := by
  obtain ⟨c, tl, hmro⟩ := PySem.F.called_set.mro
  have hmade := PySem.F.called_set.made
  have hsub := PySem.F.called_set.sub
  refine wpAny_call (codeAny_of_tree ?_)
  show wpAny _ _ (callAny (.type "set") _) _ _ _
  refine wpAny_pure ⟨Code.quiet_builtin _ (by decide +kernel), codeAny_builtin PySem.F.entry_type_call ?_⟩
  rw [Around.under_plain (weight_type_call_type "set" [.ref l] []) rfl]
  have h1 := PySem.F.called_set.notType
  have h2 := PySem.F.called_set.canCreate
  have hct := PySem.F.typeCall_set_1 (.ref l)
  repeat (any_goals (first | assumption | wp_step))

  refine codeAny_mono (code_set_new_1 (.ref l) (E := E) (Q₁ := fun obj s₁ => ∃ led : Bool, obj = .ref s.heap.objs.size ∧ s₁ = { s with heap := s.heap.push { cls := .type "set", dict := none, data := .set #[] 0 (.fresh 0 0 led) } }) fun led => ⟨led, rfl, rfl⟩) fun r s₁ hr => ?_
  cases r with
  | error e => exact hr
  | ok fl =>
    cases fl with
    | ret obj =>
      obtain ⟨led, rfl, rfl⟩ := hr
      have hS : (s.heap.push { cls := .type "set", dict := none, data := .set #[] 0 (.fresh 0 0 led) }).get? s.heap.objs.size = some { cls := .type "set", dict := none, data := .set #[] 0 (.fresh 0 0 led) } := Heap.get?_push_size _ rfl
      have hT : Shared.TypeIs { s with heap := s.heap.push { cls := .type "set", dict := none, data := .set #[] 0 (.fresh 0 0 led) } } (.ref s.heap.objs.size) "set" := ⟨_, hS, rfl⟩
      have hli := PySem.F.called_set.init.lookup
      have hbi := PySem.F.called_set.init.bind (.ref s.heap.objs.size)
      repeat (any_goals (first | assumption | wp_step))

      refine codeAny_mono (codeAny_call_builtin (R := wants (fun r s₂ => r = .none ∧ ∃ h' tk, s₂ = { s with heap := h', toks := tk } ∧
          h'.SetOf (PySem.strKind prog w) s.heap.objs.size (fun k' => (xs.take items.size).any (· == k')) (dist xs items.size) ∧
          (∀ b o, b < s.heap.objs.size → s.heap.get? b = some o → h'.get? b = some o)) E) PySem.F.called_set.init.plain PySem.F.entry_set_init (check_set_init_1 hT ?_)) fun r₂ s₂ hr₂ => ?_
      · obtain ⟨ol, hol, hcl, nl, hdl⟩ := hl
        obtain ⟨ocls, odict, odata, oslots⟩ := ol
        simp only at hcl hdl
        subst hcl; subst hdl
        have hol' : (s.heap.push { cls := .type "set", dict := none, data := .set #[] 0 (.fresh 0 0 led) }).get? l = some { cls := .type "tuple", dict := odict, data := .seq items nl, slots := oslots } := Heap.get?_push_of_some _ hol
        have hsls := PySem.F.sub_tuple_set
        have hslf := PySem.F.sub_tuple_frozenset
        have hne : (Value.type "tuple" == Value.type "dict") = false := by decide
        have hl1 : (s.heap.push { cls := .type "set", dict := none, data := .set #[] 0 (.fresh 0 0 led) }).IsTuple l items := ⟨_, hol', rfl, nl, rfl⟩
        unfold Builtin.«set.__init__» noKeywords Builtin.Frozenset.updateFrom
        generalize hPI : pyIter = PI
        wp_walk
        subst hPI

        refine wpAny_pyIter_tuple hl1 ?_
        refine wpAny_bind (wpAny_runValue ?_)
        have hlS : l < s.heap.objs.size := Heap.lt_size hol
        have hh3 : A.in1.in1.in1.handled = none := by simp [hh]
        have hneI : l ≠ (s.heap.push { cls := .type "set", dict := none, data := .set #[] 0 (.fresh 0 0 led) }).objs.size := by
          rw [Heap.size_push]; exact Nat.ne_of_lt (Nat.lt_succ_of_lt hlS)
        have hSf : s.heap.objs.size ∉ [(s.heap.push { cls := .type "set", dict := none, data := .set #[] 0 (.fresh 0 0 led) }).objs.size, l] := by
          rw [Heap.size_push]; simp only [List.mem_cons, List.mem_singleton, List.not_mem_nil, or_false, not_or]
          exact ⟨Nat.ne_of_lt (Nat.lt_succ_self _), Nat.ne_of_gt hlS⟩
        have hsz : xs.length = items.size := by rw [← StrsAre.len_eq hi, Array.length_toList]
        have hval : ∀ (i : Nat) (v : Value), items[i]? = some v → ∃ t, v = .str (xs.getD i Str.empty) t := fun i v hv => SS.strs_at hi i v (by rw [Array.getElem?_toList]; exact hv)
        refine loop_strs ((Walks.tuple hh3 _ l hneI items).toS) s.heap.objs.size
          hSf xs hsz (by rw [← hsz]; exact hn1) hval (items.size - 0) 0 _ (by omega) (Nat.zero_le _)
          ⟨⟨_, Heap.get?_push_size _ rfl, rfl, rfl⟩, (hl1.push _)⟩ ?hS0 ?hR
        case hS0 =>
          have hget : ((s.heap.push { cls := .type "set", dict := none, data := .set #[] 0 (.fresh 0 0 led) }).push { cls := .type "tuple_iterator", data := .fields #[.ref l, .int 0 0] }).get? s.heap.objs.size
              = some { cls := .type "set", dict := none, data := .set #[] 0 (.fresh 0 0 led) } := Heap.get?_push_of_some _ hS
          exact PyProof.Rows.SetOf_congr ((PyProof.Rows.setObjOf_fresh (knd := PySem.strKind prog w) led).setOf hget (by unfold scanBound; omega)) (fun _ => rfl) rfl
        case hR =>
          intro s' hm hS'
          obtain ⟨h', g', d', tk', os'⟩ := s'
          have eg : g' = s.gens := hm.gens
          have ed : d' = s.drawn := hm.drawn
          have eo : os' = s.os := hm.os
          subst eg; subst ed; subst eo
          show wpAny _ _ _ _ _ _
          refine wpAny_pure ?_
          show wpAny _ _ (ret Value.none) _ _ _
          refine wpAny_pure ⟨rfl, h', tk', rfl, hS', fun b o hb e => ?_⟩
          have hb1 : b ≠ s.heap.objs.size := Nat.ne_of_lt hb
          have hb2 : b ≠ (s.heap.push { cls := .type "set", dict := none, data := .set #[] 0 (.fresh 0 0 led) }).objs.size := by
            rw [Heap.size_push]; exact Nat.ne_of_lt (Nat.lt_succ_of_lt hb)
          exact hm.heap b o (by simp only [List.mem_cons, List.mem_singleton, List.not_mem_nil, or_false, not_or]; exact ⟨hb1, hb2⟩) (Heap.get?_push_of_some _ (Heap.get?_push_of_some _ e))

      · cases r₂ with
        | error e => exact hr₂
        | ok fl₂ =>
          cases fl₂ with
          | ret r =>
            obtain ⟨rfl, h', tk, rfl, hS', hk'⟩ := hr₂
            repeat (any_goals (first | assumption | wp_step))
            exact h _ _ hS' hk'
          | _ => exact hr₂.elim
    | _ => exact hr.elim

end
/-- all are different exactly if none is left out -/
theorem dist_full (xs : List Str) : ∀ i, i ≤ xs.length → (dist xs i = i ↔ (xs.take i).Nodup)
  | 0, _ => by simp [dist]
  | i + 1, h => by
    have ih := dist_full xs i (by omega)
    have le := dist_le xs i
    have hix : xs[i]? = some (xs.getD i Str.empty) := by
      rw [List.getD_eq_getElem?_getD, List.getElem?_eq_getElem (by omega)]
      rfl
    rw [take_one hix, List.nodup_append]
    unfold dist
    by_cases e : (xs.take i).any (· == xs.getD i Str.empty) = true
    · rw [if_pos e]
      constructor
      · intro q; omega
      · rintro ⟨_, _, q⟩
        obtain ⟨y, hy, ey⟩ := List.any_eq_true.mp e
        exact absurd (beq_iff_eq.mp ey) (q y hy _ (by simp))
    · rw [if_neg e]
      constructor
      · intro q
        refine ⟨ih.mp (by omega), by simp, fun y hy z hz => ?_⟩
        have hz' : z = xs.getD i Str.empty := by simpa using hz
        rw [hz']
        intro ey
        exact e (List.any_eq_true.mpr ⟨y, hy, by simp [ey]⟩)
      · rintro ⟨q, _, _⟩
        rw [ih.mpr q]
end TS
open PySem in
/-- len(set(t)), t a tuple of texts -/
def tLenSetS (K : PySem.W.Frag) (ta : TE) : TE := fun σ H Q => ta σ H fun x H1 => ∃ (l : Addr) (xs : List Str), x = .ref l ∧ SqT K H1 l (xs.map V.str) ∧ xs.length < 1000 ∧ Q (.int (TS.dist xs xs.length : Nat)) H1
open PySem PySem.Spec PyProof.Rows in
theorem pe_lenSetS {X : Cx} {a : Expr} {ta : TE} {p p2 q pos : Pos} (hg : Gl X "len") (hm : X.mg "len" = none) (hg2 : Gl X "set") (hm2 : X.mg "set" = none) (ha : PE X a ta) (hc : X.calm = true := by rfl)
    (na : starEach [a] X.env = (false, eval a X.env) :: starEach [] X.env := by rfl) : PE X (.Call (.Name "len" p) [.Call (.Name "set" p2) [a] [] q] [] pos) (tLenSetS X.K ta) := by
  refine ⟨fun pins s σ H Q I h => ?_⟩
  refine Call_ (ld_blt I hg hm PySem.boot_len ?_)
  refine PyProof.Rows.callWith_builtin1 (PyProof.Rows.args_cons ?_ rfl) rfl rfl
  refine Call_ (ld_blt I hg2 hm2 PyProof.Rows.boot_set ?_)
  refine PyProof.Rows.callWith_type1 (PyProof.Rows.args_cons (thn (ha.run pins s σ H _ I h) fun v s1 ⟨x, H1, I1, r1, q1⟩ => PyProof.Rows.args_nil ?_) na) na rfl
  obtain ⟨l, xs, rfl, hq, h1, q1⟩ := q1
  cases r1
  obtain ⟨its, r, pl, hz⟩ := I1.tuple hq
  have hl : its.toArray.size = xs.length := by rw [List.size_toArray, ← r.length, List.length_map]
  refine TS.call_set_strs (I1.ok.hd hc) pl (by simpa using strsAre_of r) h1 fun h' tk hS hk => ?_
  refine PyProof.Rows.args_nil ?_
  rw [hl] at hS
  obtain ⟨o, es, ep, t, ho, hex, hd, _, _, _, hf, hn⟩ := hS
  have I2 : Inv X pins σ H1 { s1 with heap := h', toks := tk } := I1.kept fun b o e => hk b o (Heap.lt_size e) e
  have hdl := TS.dist_le xs xs.length
  exact call_len_set ho hex hd hf (by rw [hn] <;> omega) ⟨.int (TS.dist xs xs.length : Nat), H1, I2.tok _, ⟨_, by rw [hn]⟩, q1⟩
end L2
namespace Op
open PySem L2
abbrev PP : Program := PySem.Challenge.pw_openruns_k13_ages_and_numbers
def top (i : Nat) : Stmt := PySem.Challenge.pw_openruns_k13_ages_and_numbers.main.body.getD i (.Pass ⟨0, 0, 0, 0⟩)
abbrev s_InvalidHistory___init__ : Stmt := inClass (top 3) 0
abbrev s_InvalidArgument___init__ : Stmt := inClass (top 4) 0
abbrev s_is_integer : Stmt := top 7
abbrev s_is_word : Stmt := top 8
abbrev s_same : Stmt := top 9
abbrev s_same_items : Stmt := top 10
abbrev s_has_form : Stmt := top 16
abbrev s_is_outer : Stmt := top 17
abbrev s_suits_things : Stmt := top 18
abbrev s_enter_token : Stmt := top 19
abbrev s_check_tokens : Stmt := top 20
abbrev s_split_turns : Stmt := top 21
abbrev s_renamed : Stmt := top 22
abbrev s_turn_by_age : Stmt := top 23
abbrev s_turn_by_number : Stmt := top 24
abbrev s_turns_by_age : Stmt := top 25
abbrev s_turns_by_number : Stmt := top 26
abbrev s_joined : Stmt := top 27
abbrev s_aged : Stmt := top 29
abbrev s_are_turns : Stmt := top 30
abbrev s_numbered : Stmt := top 31
abbrev s__law_bag : Stmt := top 33
abbrev s__law_draw : Stmt := top 34
abbrev s__law_one : Stmt := top 35
abbrev s__law_words : Stmt := top 36
abbrev s__law_same : Stmt := top 37
abbrev s__law_history : Stmt := top 38
abbrev s__law_turns : Stmt := top 39
abbrev s__law_back : Stmt := top 40
abbrev s__law_told : Stmt := top 41
abbrev s__law_changed : Stmt := top 42
abbrev s_law : Stmt := top 43
end Op
namespace L2
open PySem PySem.Spec PyProof.Rows
/-! ### a def by its name, with its promise -/
def Cal (P : Program) (w : World) (K : PySem.W.Frag) (mg : Str → Option Value) (base : Heap) (CX : CXT) (k : Nat) (x : Str) (ps : List Str) (sp : Sp) : Prop :=
  ∃ (f : Addr) (fd : FuncData), mg x = some (.ref f) ∧ PySem.W.keepIn K (.ref f) = true ∧ Binds K fd ps [] ∧ FnOk P w K mg base CX k f fd ps sp
theorem pe_cal {X : Cx} {CX : CXT} {k : Nat} {x : Str} {ps : List Str} {sp : Sp} {E : XK} {p pos : Pos} {e : Expr} {es : List Expr} {t : TA} (c : Cal X.prog X.w X.K X.mg X.base CX k x ps sp) (hr : Room k X.A) (hg : Gl X x) (hx : Passes CX X E) (ha : PA X (e :: es) t)
    (hdb : (x == ("__debug__" : Str)) = false := by decide) (he : starEach (e :: es) X.env = (false, eval e X.env) :: starEach es X.env := by rfl) (hpl : (backTo pos (starEach es X.env)).any (·.1) = false := by rfl) :
    PE X (.Call (.Name x p) (e :: es) [] pos) (tCall sp [] E t) := by
  obtain ⟨f, fd, h1, h2, h3, h4⟩ := c
  exact pe_call h4 hr hg h1 h2 h3 .nil hx ha hdb he hpl
/-! ### data -/
theorem SqL.mono {K : PySem.W.Frag} {H H' : Hp} {a : Addr} {xs : List V} (h : SqL K H a xs) (s : Same H H') : SqL K H' a xs := Evl.ex_l s h
theorem SqT.mono {K : PySem.W.Frag} {H H' : Hp} {a : Addr} {xs : List V} (h : SqT K H a xs) (s : Same H H') : SqT K H' a xs := Evl.ex_t s h
mutual
theorem Dp.mono {K : PySem.W.Frag} {H H' : Hp} (s : Same H H') : ∀ {v : V} {d : PyData}, Dp K H v d → Dp K H' v d
  | _, _, .non => .non
  | _, _, .bl b => .bl b
  | _, _, .int i => .int i
  | _, _, .str x => .str x
  | _, _, .lst h a => .lst (h.mono s) (DpAll.mono s a)
  | _, _, .tup h a => .tup (h.mono s) (DpAll.mono s a)
theorem DpAll.mono {K : PySem.W.Frag} {H H' : Hp} (s : Same H H') : ∀ {vs : List V} {ds : List PyData}, DpAll K H vs ds → DpAll K H' vs ds
  | _, _, .nil => .nil
  | _, _, .cons h a => .cons (Dp.mono s h) (DpAll.mono s a)
end
theorem DpAll.len {K : PySem.W.Frag} {H : Hp} : ∀ {vs : List V} {ds : List PyData}, DpAll K H vs ds → vs.length = ds.length
  | _, _, .nil => rfl
  | _, _, .cons _ a => congrArg Nat.succ a.len
theorem DpAll.get {K : PySem.W.Frag} {H : Hp} : ∀ {vs : List V} {ds : List PyData} {i : Nat} {v : V}, DpAll K H vs ds → vs[i]? = some v → ∃ d, ds[i]? = some d ∧ Dp K H v d
  | _, _, i, _, .nil, h => by simp at h
  | _, _, 0, v, .cons (d := d) h a, e => by
    have e' := Option.some.inj e
    subst e'
    exact ⟨d, rfl, h⟩
  | _, _, i + 1, v, .cons h a, e => a.get (i := i) e
theorem DpAll.drop {K : PySem.W.Frag} {H : Hp} : ∀ {vs : List V} {ds : List PyData} (n : Nat), DpAll K H vs ds → DpAll K H (vs.drop n) (ds.drop n)
  | _, _, 0, h => h
  | _, _, _ + 1, .nil => .nil
  | _, _, n + 1, .cons _ a => DpAll.drop n a
/-- the name of a datum's class -/
def tyN : PyData → String
  | .none => "NoneType"
  | .bool _ => "bool"
  | .int _ => "int"
  | .str _ => "str"
  | .list _ => "list"
  | .tuple _ => "tuple"
  | .dict _ => "dict"
theorem ty_dp {K : PySem.W.Frag} {H : Hp} {v : V} {d : PyData} (h : Dp K H v d) : TyX K H v (.type (tyN d)) := by
  cases h with
  | non => exact .base .non
  | bl b => exact .base (.bl b)
  | int i => exact .base (.int i)
  | str x => exact .base (.str x)
  | lst hs _ => 
    rcases hs with (hs | ⟨o, hs⟩) | hs
    · exact .base (.lst hs)
    · exact .base (.frz hs)
    · obtain ⟨o, its, n, h1, h2, _⟩ := hs
      exact .kList h1 h2
  | tup hs _ => 
    rcases hs with (hs | ⟨o, hs⟩) | hs
    · exact .base (.tup hs)
    · exact .fTuple hs
    · obtain ⟨o, its, n, h1, h2, _⟩ := hs
      exact .kTuple h1 h2
end L2
namespace Op
open PySem L2 PyProof.Rows
theorem ifT {c : Bool} {A B : Prop} (hc : c = true) (h : A) : if c = true then A else B := by
  rw [if_pos hc]
  exact h
theorem ifF {c : Bool} {A B : Prop} (hc : c = false) (h : B) : if c = true then A else B := by
  rw [hc, if_neg Bool.false_ne_true]
  exact h
/-! ### the mirror: words -/
def letters : Str := "abcdefghijklmnopqrstuvwxyz"
def isWordS (x : Str) : Bool := decide (1 ≤ x.length ∧ x.length ≤ 8) && x.cps.toList.all fun c => decide (c ∈ letters.cps.toList)
def isWord : PyData → Bool
  | .str x => isWordS x
  | _ => false
def isStr : PyData → Bool
  | .str _ => true
  | _ => false
def isList : PyData → Bool
  | .list _ => true
  | _ => false
def isTup : PyData → Bool
  | .tuple _ => true
  | _ => false
def isInt : PyData → Bool
  | .int _ => true
  | _ => false
def strOf : PyData → Str
  | .str x => x
  | _ => ""
def areWords (most : Int) : PyData → Bool
  | .tuple ds => decide (1 ≤ ds.length ∧ (ds.length : Int) ≤ most) && (ds.all isWord && decide ((ds.map strOf).Nodup))
  | _ => false
def isBranches : PyData → Bool
  | .tuple ds => decide (2 ≤ ds.length ∧ ds.length ≤ 3) && ds.all isList
  | _ => false
section
variable {K : PySem.W.Frag} {H : Hp}
theorem kit_str (d : PyData) : PySem.W.kitOne K (.type (tyN d)) (.type "str") = some (isStr d) := by
  cases d with
  | none => exact kit_ty (show kitB "NoneType" "str" = some false by decide +kernel)
  | bool _ => exact kit_ty (show kitB "bool" "str" = some false by decide +kernel)
  | int _ => exact kit_ty (show kitB "int" "str" = some false by decide +kernel)
  | str _ => exact kit_ty (show kitB "str" "str" = some true by decide +kernel)
  | list _ => exact kit_ty (show kitB "list" "str" = some false by decide +kernel)
  | tuple _ => exact kit_ty (show kitB "tuple" "str" = some false by decide +kernel)
  | dict _ => exact kit_ty (show kitB "dict" "str" = some false by decide +kernel)
theorem kit_list (d : PyData) : PySem.W.kitOne K (.type (tyN d)) (.type "list") = some (isList d) := by
  cases d with
  | none => exact kit_ty (show kitB "NoneType" "list" = some false by decide +kernel)
  | bool _ => exact kit_ty (show kitB "bool" "list" = some false by decide +kernel)
  | int _ => exact kit_ty (show kitB "int" "list" = some false by decide +kernel)
  | str _ => exact kit_ty (show kitB "str" "list" = some false by decide +kernel)
  | list _ => exact kit_ty (show kitB "list" "list" = some true by decide +kernel)
  | tuple _ => exact kit_ty (show kitB "tuple" "list" = some false by decide +kernel)
  | dict _ => exact kit_ty (show kitB "dict" "list" = some false by decide +kernel)
theorem kit_tuple (d : PyData) : PySem.W.kitOne K (.type (tyN d)) (.type "tuple") = some (isTup d) := by
  cases d with
  | none => exact kit_ty (show kitB "NoneType" "tuple" = some false by decide +kernel)
  | bool _ => exact kit_ty (show kitB "bool" "tuple" = some false by decide +kernel)
  | int _ => exact kit_ty (show kitB "int" "tuple" = some false by decide +kernel)
  | str _ => exact kit_ty (show kitB "str" "tuple" = some false by decide +kernel)
  | list _ => exact kit_ty (show kitB "list" "tuple" = some false by decide +kernel)
  | tuple _ => exact kit_ty (show kitB "tuple" "tuple" = some true by decide +kernel)
  | dict _ => exact kit_ty (show kitB "dict" "tuple" = some false by decide +kernel)
theorem kit_int (d : PyData) : PySem.W.kitOne K (.type (tyN d)) (.type "int") = some (match d with | .int _ => true | .bool _ => true | _ => false) := by
  cases d with
  | none => exact kit_ty (show kitB "NoneType" "int" = some false by decide +kernel)
  | bool _ => exact kit_ty (show kitB "bool" "int" = some true by decide +kernel)
  | int _ => exact kit_ty (show kitB "int" "int" = some true by decide +kernel)
  | str _ => exact kit_ty (show kitB "str" "int" = some false by decide +kernel)
  | list _ => exact kit_ty (show kitB "list" "int" = some false by decide +kernel)
  | tuple _ => exact kit_ty (show kitB "tuple" "int" = some false by decide +kernel)
  | dict _ => exact kit_ty (show kitB "dict" "int" = some false by decide +kernel)
theorem kit_bool (d : PyData) : PySem.W.kitOne K (.type (tyN d)) (.type "bool") = some (match d with | .bool _ => true | _ => false) := by
  cases d with
  | none => exact kit_ty (show kitB "NoneType" "bool" = some false by decide +kernel)
  | bool _ => exact kit_ty (show kitB "bool" "bool" = some true by decide +kernel)
  | int _ => exact kit_ty (show kitB "int" "bool" = some false by decide +kernel)
  | str _ => exact kit_ty (show kitB "str" "bool" = some false by decide +kernel)
  | list _ => exact kit_ty (show kitB "list" "bool" = some false by decide +kernel)
  | tuple _ => exact kit_ty (show kitB "tuple" "bool" = some false by decide +kernel)
  | dict _ => exact kit_ty (show kitB "dict" "bool" = some false by decide +kernel)
theorem kit_dict (d : PyData) : PySem.W.kitOne K (.type (tyN d)) (.type "dict") = some (match d with | .dict _ => true | _ => false) := by
  cases d with
  | none => exact kit_ty (show kitB "NoneType" "dict" = some false by decide +kernel)
  | bool _ => exact kit_ty (show kitB "bool" "dict" = some false by decide +kernel)
  | int _ => exact kit_ty (show kitB "int" "dict" = some false by decide +kernel)
  | str _ => exact kit_ty (show kitB "str" "dict" = some false by decide +kernel)
  | list _ => exact kit_ty (show kitB "list" "dict" = some false by decide +kernel)
  | tuple _ => exact kit_ty (show kitB "tuple" "dict" = some false by decide +kernel)
  | dict _ => exact kit_ty (show kitB "dict" "dict" = some true by decide +kernel)
end
/-- the names of the module and of the machine that are read -/
structure Txt (mg : Str → Option Value) : Prop where
  b_len : mg "len" = none
  b_int : mg "int" = none
  b_bool : mg "bool" = none
  b_str : mg "str" = none
  b_list : mg "list" = none
  b_tuple : mg "tuple" = none
  b_dict : mg "dict" = none
  b_set : mg "set" = none
  b_range : mg "range" = none
  b_zip : mg "zip" = none
  b_enumerate : mg "enumerate" = none
  b_sorted : mg "sorted" = none
  b_isinstance : mg "isinstance" = none
  g_LETTERS : ∃ t, mg "LETTERS" = some (.str letters t)
def spWord (K : PySem.W.Frag) : Sp := fun vs H Q _ => ∃ (v : V) (d : PyData), vs = [v] ∧ Dp K H v d ∧ (∀ x, d = .str x → x.length ≤ 100000) ∧ Q (.bl (isWord d)) H
section
variable {P : Program} {w : World} {K : PySem.W.Frag} {mg : Str → Option Value} {base : Heap} {H : Hp}
theorem chain_le {σ : L2.St} {H : Hp} {Q : VK} {ta tb : TE} {lo hi n : Int} (tl : TE) (h1 : ∀ Q, Q (.int lo) H → ta σ H Q) (h : ∀ Q, Q (.int n) H → tl σ H Q) (h2 : ∀ Q, Q (.int hi) H → tb σ H Q) (q : Q (.bl (decide (lo ≤ n ∧ n ≤ hi))) H) :
    tChain (rI0 fun i j => .bl (decide (i ≤ j))) (rI0 fun i j => .bl (decide (i ≤ j))) ta tl tb σ H Q := by
  refine h1 _ (h _ ⟨_, _, rfl, rfl, _, rfl, ?_⟩)
  by_cases c : lo ≤ n
  · refine ifT (decide_eq_true c) (h2 _ ⟨_, _, rfl, rfl, ?_⟩)
    have e : decide (n ≤ hi) = decide (lo ≤ n ∧ n ≤ hi) := by simp [c]
    show Q (.bl (decide (n ≤ hi))) H
    rw [e]
    exact q
  · refine ifF (decide_eq_false c) ?_
    have e : false = decide (lo ≤ n ∧ n ≤ hi) := by simp [c]
    rw [e]
    exact q
theorem sc_is_word : FnScope ["value", "letter"] ["value"] (defScope s_is_word) := ⟨rfl, rfl, rfl, by decide +kernel, rfl, by decide +kernel, by decide +kernel⟩
theorem ok_is_word {f : Addr} {fd : FuncData} (F : Fun K "is_word" "is_word" s_is_word f fd) (T : Txt mg) : FnOk P w K mg base CX0 1 f fd ["value"] (spWord K) := by
  refine F.ok sc_is_word (fun vs H Q E h => ?_) (fun cdv A outer s H vs Q E hr h => ?_)
  · obtain ⟨v, d, rfl, _⟩ := h
    rfl
  · obtain ⟨v, d, rfl, hd, hl, k⟩ := h
    obtain ⟨tk, hL⟩ := T.g_LETTERS
    refine ⟨_, (pss_cons (ps_if (PW.pt (pw_or (pt_not (pt_val (pe_callB call_isi (by rfl) T.b_isinstance (by decide +kernel) (pa_cons (pv 0) (pa_cons (pe_bltn (v := .ty "str") (by rfl) T.b_str (by decide +kernel) rfl) pa_nil))))) (pw_or1 (pt_not (pt_chain op_le op_le pe_int (pe_callB call_len_str (by rfl) T.b_len (by decide +kernel) (pa_cons (pv 0) pa_nil)) pe_int))))) (pss_one (ps_ret pe_bl)) pss_nil)
      (pss_cons (ps_for PassesOwn.never rfl (pi_str (pv 0)) (pg_name (i := 1) sc_is_word.nd rfl (.inl rfl)) (pss_one (ps_if (pt_cmpR op_notIn_sign (pv 1) (pe_glob (v := .str letters) rfl hL ⟨_, rfl⟩) (by rfl)) (pss_one (ps_ret pe_bl)) pss_nil)))
      (pss_one (ps_ret pe_bl)))), ?_⟩
    refine ⟨_, rfl, v, _, _, _, _, rfl, .ty _, ty_dp hd, kit_str d, _, rfl, ?_⟩
    cases hd with
    | str x =>
      refine ifF rfl ?_
      refine chain_le _ (fun Q q => q) (fun Q q => ⟨_, rfl, x, rfl, Evl.sz_of (hl x rfl), q⟩) (fun Q q => q) ⟨_, rfl, ?_⟩
      by_cases c : (1 : Int) ≤ (x.length : Int) ∧ (x.length : Int) ≤ 8
      · rw [decide_eq_true c]
        refine ifF rfl ?_
        have eL : decide (1 ≤ x.length ∧ x.length ≤ 8) = true := decide_eq_true (by omega)
        refine ⟨_, rfl, x, rfl, for_it walk_str (fun i σ H' => H' = H ∧ (∃ y : Option V, σ = [some (.str x), y]) ∧ (x.cps.toList.take i).all (fun c => decide (c ∈ letters.cps.toList)) = true) ⟨rfl, ⟨none, rfl⟩, rfl⟩ (fun _ _ _ _ _ => trivial) ?_ ?_⟩
        · rintro i v σ H1 H2 hi ⟨rfl, ⟨y, rfl⟩, hp⟩ ⟨rfl, c, hc, rfl⟩
          have hc' : x.cps.toList[i]? = some c := by rw [Array.getElem?_toList]; exact hc
          refine ⟨_, rfl, c, letters, rfl, rfl, _, rfl, ?_⟩
          by_cases m : c ∈ letters.cps.toList
          · rw [decide_eq_true m]
            refine ifF rfl ⟨rfl, ⟨_, rfl⟩, ?_⟩
            rw [TS.take_one hc', List.all_append, hp, List.all_cons, List.all_nil, decide_eq_true m]
            rfl
          · rw [decide_eq_false m]
            refine ifT rfl ?_
            have e : isWord (.str x) = false := by
              show (decide (1 ≤ x.length ∧ x.length ≤ 8) && _) = false
              rw [eL, Bool.true_and]
              refine Bool.eq_false_iff.mpr fun q => ?_
              have := List.all_eq_true.mp q c (List.mem_of_getElem? hc')
              exact m (of_decide_eq_true this)
            rw [e] at k
            exact k
        · rintro σ H1 ⟨rfl, ⟨y, rfl⟩, hp⟩
          have e : isWord (.str x) = true := by
            show (decide (1 ≤ x.length ∧ x.length ≤ 8) && _) = true
            rw [eL, Bool.true_and]
            rw [List.take_of_length_le (by rw [Array.length_toList]; exact Nat.le_refl _)] at hp
            exact hp
          rw [e] at k
          exact k
      · rw [decide_eq_false c]
        refine ifT rfl ?_
        have e : isWord (.str x) = false := by
          show (decide (1 ≤ x.length ∧ x.length ≤ 8) && _) = false
          rw [decide_eq_false (by omega)]
          rfl
        rw [e] at k
        exact k
    | _ => exact ifT rfl k
/-! data that are of a size that is counted -/
mutual
def small : PyData → Bool
  | .str x => decide (x.length ≤ 100000)
  | .list xs => decide (xs.length ≤ 100000) && smalls xs
  | .tuple xs => decide (xs.length ≤ 100000) && smalls xs
  | _ => true
def smalls : List PyData → Bool
  | [] => true
  | x :: r => small x && smalls r
end
theorem smalls_get : ∀ {ds : List PyData} {i : Nat} {d : PyData}, smalls ds = true → ds[i]? = some d → small d = true
  | [], i, d, _, h => by simp at h
  | x :: r, 0, d, h, e => by
    have e' := Option.some.inj e
    subst e'
    exact (Bool.and_eq_true_iff.mp h).1
  | x :: r, i + 1, d, h, e => smalls_get (ds := r) (i := i) (Bool.and_eq_true_iff.mp h).2 e
theorem small_str {x : Str} (h : small (.str x) = true) : x.length ≤ 100000 := of_decide_eq_true h
theorem strs_of : ∀ {ds : List PyData} {xs : List V}, ds.all isWord = true → DpAll K H xs ds → ∃ zs : List Str, ds = zs.map PyData.str ∧ xs = zs.map V.str := by
  intro ds
  induction ds with
  | nil =>
    intro xs _ h
    cases h
    exact ⟨[], rfl, rfl⟩
  | cons d r ih =>
    intro xs h hp
    cases hp with
    | cons hd ha =>
      obtain ⟨h1, h2⟩ := Bool.and_eq_true_iff.mp h
      obtain ⟨zs, e1, e2⟩ := ih h2 ha
      cases hd with
      | str x => exact ⟨x :: zs, by rw [e1]; rfl, by rw [e2]; rfl⟩
      | _ => cases h1
end
end Op
namespace L2
open PySem PySem.Spec PyProof.Rows
/-! ### frames -/
def seqO : HO → Bool
  | .lst _ => true
  | .tup _ => true
  | .frz _ _ => true
  | _ => false
/-- lists and tuples stay -/
def Kp (H H' : Hp) : Prop := ∀ b o, H b = some o → seqO o = true → H' b = some o
/-- all but those of L stay -/
def Fr (L : List Addr) (H H' : Hp) : Prop := ∀ b o, H b = some o → b ∉ L → H' b = some o
theorem Same.kp {H H' : Hp} (s : Same H H') : Kp H H' := fun b o h _ => s b o h
theorem Same.fr {L : List Addr} {H H' : Hp} (s : Same H H') : Fr L H H' := fun b o h _ => s b o h
theorem Fr.refl {L : List Addr} {H : Hp} : Fr L H H := fun _ _ h _ => h
theorem Fr.trans {L : List Addr} {H H' H'' : Hp} (a : Fr L H H') (b : Fr L H' H'') : Fr L H H'' := fun c o h n => b c o (a c o h n) n
theorem Fr.upd {L : List Addr} {H H' : Hp} {a : Addr} {o : HO} (f : Fr L H H') (h : a ∈ L) : Fr L H (upd H' a o) := fun b u e n => by
  have q : b ≠ a := fun q => n (by rw [q]; exact h)
  rw [L2.upd_ne q]
  exact f b u e n
theorem Same.new {H : Hp} {a : Addr} {o : HO} (h : H a = none) : Same H (upd H a o) := fun b u e => by rw [upd_ne (ne_of_none e h)]; exact e
theorem Kp.trans {H H' H'' : Hp} (a : Kp H H') (b : Kp H' H'') : Kp H H'' := fun c o h n => b c o (a c o h n) n
theorem SqL.kp {K : PySem.W.Frag} {H H' : Hp} {a : Addr} {xs : List V} (h : SqL K H a xs) (s : Kp H H') : SqL K H' a xs := by
  rcases h with (h | ⟨o, h⟩) | h
  · exact .inl (.inl (s _ _ h rfl))
  · exact .inl (.inr ⟨o, s _ _ h rfl⟩)
  · exact .inr h
theorem SqT.kp {K : PySem.W.Frag} {H H' : Hp} {a : Addr} {xs : List V} (h : SqT K H a xs) (s : Kp H H') : SqT K H' a xs := by
  rcases h with (h | ⟨o, h⟩) | h
  · exact .inl (.inl (s _ _ h rfl))
  · exact .inl (.inr ⟨o, s _ _ h rfl⟩)
  · exact .inr h
mutual
theorem Dp.kp {K : PySem.W.Frag} {H H' : Hp} (s : Kp H H') : ∀ {v : V} {d : PyData}, Dp K H v d → Dp K H' v d
  | _, _, .non => .non
  | _, _, .bl b => .bl b
  | _, _, .int i => .int i
  | _, _, .str x => .str x
  | _, _, .lst h a => .lst (h.kp s) (DpAll.kp s a)
  | _, _, .tup h a => .tup (h.kp s) (DpAll.kp s a)
theorem DpAll.kp {K : PySem.W.Frag} {H H' : Hp} (s : Kp H H') : ∀ {vs : List V} {ds : List PyData}, DpAll K H vs ds → DpAll K H' vs ds
  | _, _, .nil => .nil
  | _, _, .cons h a => .cons (Dp.kp s h) (DpAll.kp s a)
end
theorem DpAll.get' {K : PySem.W.Frag} {H : Hp} : ∀ {vs : List V} {ds : List PyData} {i : Nat} {d : PyData}, DpAll K H vs ds → ds[i]? = some d → ∃ v, vs[i]? = some v ∧ Dp K H v d
  | _, _, i, _, .nil, h => by simp at h
  | _, _, 0, d, .cons (v := v) h a, e => by
    have e' := Option.some.inj e
    subst e'
    exact ⟨v, rfl, h⟩
  | _, _, i + 1, v, .cons h a, e => a.get' (i := i) e
end L2
namespace Op
open PySem L2 PyProof.Rows
def notList (d : PyData) : Bool := !isList d
mutual
/-- no list in it -/
def noL : PyData → Bool
  | .list _ => false
  | .tuple xs => noLs xs
  | _ => true
def noLs : List PyData → Bool
  | [] => true
  | x :: r => noL x && noLs r
end
theorem noLs_mem : ∀ {ds : List PyData}, noLs ds = true ↔ ∀ d ∈ ds, noL d = true
  | [] => by
    unfold noLs
    exact ⟨fun _ d h => (List.not_mem_nil h).elim, fun _ => rfl⟩
  | x :: r => by
    unfold noLs
    rw [Bool.and_eq_true_iff, noLs_mem (ds := r)]
    constructor
    · rintro ⟨h1, h2⟩ d hd
      rcases List.mem_cons.mp hd with rfl | hd
      · exact h1
      · exact h2 d hd
    · intro h
      exact ⟨h x List.mem_cons_self, fun d hd => h d (List.mem_cons_of_mem _ hd)⟩
end Op
namespace L2
open PySem PySem.Spec PyProof.Rows
/-! ### a heap without some of its lists -/
def LstAt (H : Hp) (b : Addr) : Prop := ∃ xs, H b = some (.lst xs)
open Classical in
noncomputable def cutH (S : Addr → Prop) (H : Hp) : Hp := fun b => if S b then none else H b
section
variable {S S' : Addr → Prop} {H H' : Hp} {K : PySem.W.Frag}
theorem cut_not {b : Addr} (h : ¬ S b) : cutH S H b = H b := if_neg h
theorem cut_same (s : Same H H') : Same (cutH S H) (cutH S H') := fun b o h => by
  unfold cutH at h ⊢
  split at h
  · cases h
  · rename_i n
    rw [if_neg n]
    exact s b o h
theorem cut_sub (s : ∀ b, S b → S' b) : Same (cutH S' H) (cutH S H) := fun b o h => by
  unfold cutH at h ⊢
  split at h
  · cases h
  · rename_i n
    rw [if_neg fun z => n (s b z)]
    exact h
theorem cut_all : Same (cutH S H) H := fun b o h => by
  unfold cutH at h
  split at h
  · cases h
  · exact h
theorem cut_upd {D : Addr} {o : HO} (h : S D) : cutH S (upd H D o) = cutH S H := by
  funext b
  unfold cutH
  by_cases e : S b
  · rw [if_pos e, if_pos e]
  · rw [if_neg e, if_neg e, upd_ne (fun q => e (by rw [q]; exact h))]
theorem LstAt.mono {b : Addr} (h : LstAt H b) (s : Same H H') : LstAt H' b := let ⟨xs, e⟩ := h; ⟨xs, s _ _ e⟩
theorem SqT.cut {a : Addr} {xs : List V} (hs : ∀ b, S b → LstAt H b) (h : SqT K H a xs) : SqT K (cutH S H) a xs := by
  have n : ∀ o, H a = some o → (∀ ys, o ≠ .lst ys) → ¬ S a := fun o e ne z => by
    obtain ⟨ys, q⟩ := hs a z
    rw [e] at q
    exact ne ys (Option.some.inj q)
  rcases h with (h | ⟨o, h⟩) | h
  · exact .inl (.inl (by rw [cut_not (n _ h nofun)]; exact h))
  · exact .inl (.inr ⟨o, by rw [cut_not (n _ h nofun)]; exact h⟩)
  · exact .inr h
mutual
theorem noL_cut (hs : ∀ b, S b → LstAt H b) : ∀ {v : V} {d : PyData}, Dp K H v d → Op.noL d = true → Dp K (cutH S H) v d
  | _, _, .non, _ => .non
  | _, _, .bl b, _ => .bl b
  | _, _, .int i, _ => .int i
  | _, _, .str x, _ => .str x
  | _, _, .lst h a, n => by unfold Op.noL at n; cases n
  | _, _, .tup h a, n => .tup (h.cut hs) (noLs_cut hs a (by unfold Op.noL at n; exact n))
theorem noLs_cut (hs : ∀ b, S b → LstAt H b) : ∀ {vs : List V} {ds : List PyData}, DpAll K H vs ds → Op.noLs ds = true → DpAll K (cutH S H) vs ds
  | _, _, .nil, _ => .nil
  | _, _, .cons h a, n => .cons (noL_cut hs h (by unfold Op.noLs at n; exact (Bool.and_eq_true_iff.mp n).1)) (noLs_cut hs a (by unfold Op.noLs at n; exact (Bool.and_eq_true_iff.mp n).2))
end
end
end L2
namespace Op
open PySem L2 PyProof.Rows
section
variable {P : Program} {w : World} {K : PySem.W.Frag} {mg : Str → Option Value} {base : Heap}
def spInt (K : PySem.W.Frag) : Sp := fun vs H Q _ => ∃ (v : V) (d : PyData), vs = [v] ∧ Dp K H v d ∧ Q (.bl (isInt d)) H
theorem sc_is_integer : FnScope ["value"] ["value"] (defScope s_is_integer) := ⟨rfl, rfl, rfl, by decide +kernel, rfl, by decide +kernel, by decide +kernel⟩
theorem ok_is_integer {f : Addr} {fd : FuncData} (F : Fun K "is_integer" "is_integer" s_is_integer f fd) (T : Txt mg) : FnOk P w K mg base CX0 1 f fd ["value"] (spInt K) := by
  refine F.ok sc_is_integer (fun vs H Q E h => ?_) (fun cdv A outer s H vs Q E hr h => ?_)
  · obtain ⟨v, d, rfl, _⟩ := h
    rfl
  · obtain ⟨v, d, rfl, hd, k⟩ := h
    refine ⟨_, (pss_one (ps_ret (pe_and (pe_callB call_isi (by rfl) T.b_isinstance (by decide +kernel) (pa_cons (pv 0) (pa_cons (pe_bltn (v := .ty "int") (by rfl) T.b_int (by decide +kernel) rfl) pa_nil))) (pe_one (pe_not (pe_callB call_isi (by rfl) T.b_isinstance (by decide +kernel) (pa_cons (pv 0) (pa_cons (pe_bltn (v := .ty "bool") (by rfl) T.b_bool (by decide +kernel) rfl) pa_nil)))))))), ?_⟩
    refine ⟨_, rfl, v, _, _, _, _, rfl, .ty _, ty_dp hd, kit_int d, _, rfl, ?_⟩
    cases hd with
    | int i => exact ifT rfl ⟨_, rfl, .int i, _, _, _, _, rfl, .ty _, ty_dp (.int i), kit_bool (.int i), _, rfl, k⟩
    | bl b => exact ifT rfl ⟨_, rfl, .bl b, _, _, _, _, rfl, .ty _, ty_dp (.bl b), kit_bool (.bool b), _, rfl, k⟩
    | _ => exact ifF rfl k
end
section
variable {K : PySem.W.Frag} {H H' H'' : Hp} {x C dx : Addr} {fs : List (Str × V)}
def But (x : Addr) (H H' : Hp) : Prop := ∀ b o, H b = some o → b ≠ x → H' b = some o
theorem But.kp (b : But x H H') (h : H x = some (.ins C dx fs)) : Kp H H' := fun c o hc ho => b c o hc fun e => by
  rw [e, h] at hc
  cases hc
  cases ho
theorem But.trans (a : But x H H') (b : But x H' H'') : But x H H'' := fun c o h n => b c o (a c o h n) n
theorem Same.but (s : Same H H') : But x H H' := fun c o h _ => s c o h
theorem But.upd {o : HO} (b : But x H H') : But x H (upd H' x o) := fun c u h n => by rw [L2.upd_ne n]; exact b c u h n
end
theorem sz_lit {n : Nat} (h : n ≤ 100000) : n ≤ sizeLine := Evl.sz_of h
theorem at_new {H : Hp} {a : Addr} {o : HO} (_ : H a = none) : upd H a o a = some o := upd_same
theorem lt_sz {n : Nat} (h : n < 100000) : n < sizeLine := Nat.lt_of_lt_of_le h (sz_lit (Nat.le_refl _))
theorem sz1 (x : V) : [x].length ≤ sizeLine := sz_lit (by show 1 ≤ 100000; decide)
theorem sz2 (x y : V) : [x, y].length ≤ sizeLine := sz_lit (by show 2 ≤ 100000; decide)
theorem atI_zero {α : Type} (x : α) (r : List α) : atI (x :: r) 0 = some x := by
  unfold atI ixN
  rw [if_pos (Int.le_refl _), if_pos (by simp only [List.length_cons]; omega)]
  rfl
theorem atI_one {α : Type} (x y : α) (r : List α) : atI (x :: y :: r) 1 = some y := by
  unfold atI ixN
  rw [if_pos (by decide), if_pos (by simp only [List.length_cons]; omega)]
  rfl
theorem dec_strV {x y : Str} : decide (V.str x = V.str y) = decide (x = y) := by
  rw [Bool.eq_iff_iff]
  simp
theorem ixN_nat {n j : Nat} (h : j < n) : ixN n (j : Int) = some j := by
  unfold ixN
  rw [if_pos (by omega), if_pos (by omega)]
  rfl
end Op
set_option pp.maxSteps 900
namespace Op
open PySem L2 PyProof.Rows
/-! ### tokens -/
structure Tk where
  k : Str
  n : Option Nat
  ws : List Str
def Tk.parts (t : Tk) : List PyData := (t.n.toList.map fun n : Nat => PyData.int (n : Int)) ++ t.ws.map .str
def Tk.d (t : Tk) : PyData := .tuple (.str t.k :: t.parts)
def Tk.vs (t : Tk) : List V := .str t.k :: ((t.n.toList.map fun n : Nat => V.int (n : Int)) ++ t.ws.map V.str)
def forms : List (Str × Str) := [("begin", "w"), ("answer", "nw"), ("rang", "n"), ("signal", "ww"), ("asked", "w"), ("set", ""), ("dropped", "n"), ("noted", "w"), ("marked", "w"), ("ended", "w"), ("anew", "w")]
def sigOf (t : Tk) : List Nat := (t.n.toList.map fun _ => 110) ++ t.ws.map fun _ => 119
def Okt (t : Tk) : Prop := ∃ f, forms.lookup t.k = some f ∧ f.cps.toList = sigOf t ∧ ∀ w ∈ t.ws, isWordS w = true
inductive TkC : Tk → Prop
  | begin {w : Str} : isWordS w = true → TkC ⟨"begin", none, [w]⟩
  | answer {n : Nat} {w : Str} : isWordS w = true → TkC ⟨"answer", some n, [w]⟩
  | rang {n : Nat} : TkC ⟨"rang", some n, []⟩
  | signal {a b : Str} : isWordS a = true → isWordS b = true → TkC ⟨"signal", none, [a, b]⟩
  | asked {w : Str} : isWordS w = true → TkC ⟨"asked", none, [w]⟩
  | set : TkC ⟨"set", none, []⟩
  | dropped {n : Nat} : TkC ⟨"dropped", some n, []⟩
  | noted {w : Str} : isWordS w = true → TkC ⟨"noted", none, [w]⟩
  | marked {w : Str} : isWordS w = true → TkC ⟨"marked", none, [w]⟩
  | ended {w : Str} : isWordS w = true → TkC ⟨"ended", none, [w]⟩
  | anew {w : Str} : isWordS w = true → TkC ⟨"anew", none, [w]⟩
theorem sig_w {n : Option Nat} {ws : List Str} {k : Str} (h : sigOf ⟨k, n, ws⟩ = [119]) : n = none ∧ ∃ w, ws = [w] := by
  cases n with
  | some i => cases ws <;> cases h
  | none =>
    cases ws with
    | nil => cases h
    | cons a r =>
      cases r with
      | nil => exact ⟨rfl, a, rfl⟩
      | cons b r => cases h
theorem sig_n {n : Option Nat} {ws : List Str} {k : Str} (h : sigOf ⟨k, n, ws⟩ = [110]) : ws = [] ∧ ∃ i, n = some i := by
  cases n with
  | some i =>
    cases ws with
    | nil => exact ⟨rfl, i, rfl⟩
    | cons a r => cases h
  | none =>
    cases ws with
    | nil => cases h
    | cons a r =>
      injection h with h _
      cases h
theorem sig_0 {n : Option Nat} {ws : List Str} {k : Str} (h : sigOf ⟨k, n, ws⟩ = []) : n = none ∧ ws = [] := by
  cases n with
  | some i => cases h
  | none =>
    cases ws with
    | nil => exact ⟨rfl, rfl⟩
    | cons a r => cases h
theorem sig_nw {n : Option Nat} {ws : List Str} {k : Str} (h : sigOf ⟨k, n, ws⟩ = [110, 119]) : ∃ i w, n = some i ∧ ws = [w] := by
  cases n with
  | some i =>
    cases ws with
    | nil => cases h
    | cons a r =>
      cases r with
      | nil => exact ⟨i, a, rfl, rfl⟩
      | cons b r => cases h
  | none =>
    cases ws with
    | nil => cases h
    | cons a r =>
      injection h with h _
      cases h
theorem sig_ww {n : Option Nat} {ws : List Str} {k : Str} (h : sigOf ⟨k, n, ws⟩ = [119, 119]) : n = none ∧ ∃ a b, ws = [a, b] := by
  cases n with
  | some i => injection h with h _; cases h
  | none =>
    cases ws with
    | nil => cases h
    | cons a r =>
      cases r with
      | nil => cases h
      | cons b r =>
        cases r with
        | nil => exact ⟨rfl, a, b, rfl⟩
        | cons c r => cases h
theorem look_mem {k f : Str} : ∀ {l : List (Str × Str)}, l.lookup k = some f → (k, f) ∈ l
  | [], h => by cases h
  | (a, b) :: r, h => by
    unfold List.lookup at h
    split at h
    · rename_i e
      obtain rfl := Option.some.inj h
      have e : k = a := by simpa using e
      subst e
      exact List.mem_cons_self
    · exact List.mem_cons_of_mem _ (look_mem h)
theorem Okt.c {t : Tk} (h : Okt t) : TkC t := by
  obtain ⟨f, h1, h2, h3⟩ := h
  obtain ⟨k, n, ws⟩ := t
  have hm := look_mem h1
  simp only [forms, List.mem_cons, List.not_mem_nil, or_false, Prod.mk.injEq] at hm
  have one : f.cps.toList = [119] → n = none ∧ ∃ w, ws = [w] ∧ isWordS w = true := fun e => by
    obtain ⟨e1, w, rfl⟩ := sig_w (h2.symm.trans e)
    exact ⟨e1, w, rfl, h3 w List.mem_cons_self⟩
  have num : f.cps.toList = [110] → ws = [] ∧ ∃ i, n = some i := fun e => sig_n (h2.symm.trans e)
  rcases hm with ⟨rfl, rfl⟩ | ⟨rfl, rfl⟩ | ⟨rfl, rfl⟩ | ⟨rfl, rfl⟩ | ⟨rfl, rfl⟩ | ⟨rfl, rfl⟩ | ⟨rfl, rfl⟩ | ⟨rfl, rfl⟩ | ⟨rfl, rfl⟩ | ⟨rfl, rfl⟩ | ⟨rfl, rfl⟩
  · obtain ⟨rfl, w, rfl, hw⟩ := one (by decide +kernel); exact .begin hw
  · obtain ⟨i, w, rfl, rfl⟩ := sig_nw (h2.symm.trans (by decide +kernel)); exact .answer (h3 w List.mem_cons_self)
  · obtain ⟨rfl, i, rfl⟩ := num (by decide +kernel); exact .rang
  · obtain ⟨rfl, a, b, rfl⟩ := sig_ww (h2.symm.trans (by decide +kernel)); exact .signal (h3 a List.mem_cons_self) (h3 b (List.mem_cons_of_mem _ List.mem_cons_self))
  · obtain ⟨rfl, w, rfl, hw⟩ := one (by decide +kernel); exact .asked hw
  · obtain ⟨rfl, rfl⟩ := sig_0 (h2.symm.trans (by decide +kernel)); exact .set
  · obtain ⟨rfl, i, rfl⟩ := num (by decide +kernel); exact .dropped
  · obtain ⟨rfl, w, rfl, hw⟩ := one (by decide +kernel); exact .noted hw
  · obtain ⟨rfl, w, rfl, hw⟩ := one (by decide +kernel); exact .marked hw
  · obtain ⟨rfl, w, rfl, hw⟩ := one (by decide +kernel); exact .ended hw
  · obtain ⟨rfl, w, rfl, hw⟩ := one (by decide +kernel); exact .anew hw
theorem TkC.ok {t : Tk} (h : TkC t) : Okt t := by
  cases h with
  | begin hw => exact ⟨"w", (show forms.lookup ("begin" : Str) = some ("w" : Str) by decide +kernel), rfl, fun x hx => by rw [List.mem_singleton.mp hx]; exact hw⟩
  | answer hw => exact ⟨"nw", (show forms.lookup ("answer" : Str) = some ("nw" : Str) by decide +kernel), rfl, fun x hx => by rw [List.mem_singleton.mp hx]; exact hw⟩
  | rang => exact ⟨"n", (show forms.lookup ("rang" : Str) = some ("n" : Str) by decide +kernel), rfl, fun x hx => (List.not_mem_nil hx).elim⟩
  | signal ha hb => exact ⟨"ww", (show forms.lookup ("signal" : Str) = some ("ww" : Str) by decide +kernel), rfl, fun x hx => by
      rcases List.mem_cons.mp hx with rfl | hx
      · exact ha
      · rw [List.mem_singleton.mp hx]; exact hb⟩
  | asked hw => exact ⟨"w", (show forms.lookup ("asked" : Str) = some ("w" : Str) by decide +kernel), rfl, fun x hx => by rw [List.mem_singleton.mp hx]; exact hw⟩
  | set => exact ⟨"", (show forms.lookup ("set" : Str) = some ("" : Str) by decide +kernel), rfl, fun x hx => (List.not_mem_nil hx).elim⟩
  | dropped => exact ⟨"n", (show forms.lookup ("dropped" : Str) = some ("n" : Str) by decide +kernel), rfl, fun x hx => (List.not_mem_nil hx).elim⟩
  | noted hw => exact ⟨"w", (show forms.lookup ("noted" : Str) = some ("w" : Str) by decide +kernel), rfl, fun x hx => by rw [List.mem_singleton.mp hx]; exact hw⟩
  | marked hw => exact ⟨"w", (show forms.lookup ("marked" : Str) = some ("w" : Str) by decide +kernel), rfl, fun x hx => by rw [List.mem_singleton.mp hx]; exact hw⟩
  | ended hw => exact ⟨"w", (show forms.lookup ("ended" : Str) = some ("w" : Str) by decide +kernel), rfl, fun x hx => by rw [List.mem_singleton.mp hx]; exact hw⟩
  | anew hw => exact ⟨"w", (show forms.lookup ("anew" : Str) = some ("w" : Str) by decide +kernel), rfl, fun x hx => by rw [List.mem_singleton.mp hx]; exact hw⟩
/-! ### has_form of any datum -/
def codeFits (c : Nat) (d : PyData) : Bool := if c = 119 then isWord d else match d with | .int i => decide (0 ≤ i) | _ => false
def hasForm : PyData → Bool
  | .tuple (.str k :: parts) => match forms.lookup k with
    | none => false
    | some f => decide (parts.length = f.length) && (f.cps.toList.zip parts).all fun p => codeFits p.1 p.2
  | _ => false
def isOut (t : Tk) : Bool := decide (t.k ∈ (["begin", "answer", "rang", "signal"] : List Str))
def isNew (t : Tk) : Bool := decide (t.k ∈ (["asked", "set"] : List Str))
def isLast (t : Tk) : Bool := decide (t.k ∈ (["ended", "anew"] : List Str))
theorem num_iff {t : Tk} (h : TkC t) : decide (t.k ∈ (["answer", "rang", "dropped"] : List Str)) = t.n.isSome := by
  cases h <;> rfl
/-! ### the check of a history -/
def thingFits (k th : Str) : Bool := if k = "answer" then decide (th = "ask") else if k = "rang" then decide (th = "timer") else !decide (th = "gone")
def suits (t : Tk) (th : List Str) : Bool := match t.n with
  | none => true
  | some n => match th[n]? with | none => false | some x => thingFits t.k x
def enter (t : Tk) (th : List Str) : List Str := if t.k = "asked" then th ++ [("ask" : Str)] else if t.k = "set" then th ++ [("timer" : Str)] else match t.n with | none => th | some n => th.set n "gone"
/-- the place of the first fault -/
def chk : List Tk → Nat → List Str → Bool → Option Nat
  | [], _, _, _ => none
  | t :: r, i, th, ov => if ov = true ∨ decide (t.k = "begin") ≠ decide (i = 0) then some i else if suits t th = true then chk r (i + 1) (enter t th) (isLast t) else some i
def splitA (acc : List (List Tk)) (t : Tk) : List (List Tk) := if isOut t = true then acc ++ [[t]] else acc.dropLast ++ [acc.getLastD [] ++ [t]]
def split (l : List Tk) : List (List Tk) := l.foldl splitA []
def ren (t : Tk) (n : Nat) : Tk := { t with n := some n }
/-- things, left, tokens, started -/
structure Ag where
  th : List Nat
  lf : List Nat
  tk : List Tk
  st : Nat
def ageT (s : Ag) (t : Tk) : Ag := match t.n with
  | some n => { s with lf := s.lf.erase n, tk := s.tk ++ [ren t (s.th.idxOf n)] }
  | none => if isNew t = true then ⟨s.th ++ [s.st], s.lf ++ [s.st], s.tk ++ [t], s.st + 1⟩ else { s with tk := s.tk ++ [t] }
def ageTurn (turn : List Tk) (nums : List Nat) (st : Nat) : Ag := turn.foldl ageT ⟨nums, nums, [], st⟩
def numT (s : Ag) (t : Tk) : Option Ag := match t.n with
  | some n => match s.th[n]? with
    | none => none
    | some x => if x ∈ s.lf then some { s with lf := s.lf.erase x, tk := s.tk ++ [ren t x] } else none
  | none => if isNew t = true then some ⟨s.th ++ [s.st], s.lf ++ [s.st], s.tk ++ [t], s.st + 1⟩ else some { s with tk := s.tk ++ [t] }
def numTurnA : List Tk → Ag → Option Ag
  | [], s => some s
  | t :: r, s => match numT s t with | none => none | some s' => numTurnA r s'
def numTurn (turn : List Tk) (nums : List Nat) (st : Nat) : Option Ag := numTurnA turn ⟨nums, nums, [], st⟩
def ageTurns : List (List Tk) → List Nat → Nat → List (List Tk)
  | [], _, _ => []
  | t :: r, nums, st => (ageTurn t nums st).tk :: ageTurns r (ageTurn t nums st).lf (ageTurn t nums st).st
def numTurns : List (List Tk) → List Nat → Nat → Option (List (List Tk))
  | [], _, _ => some []
  | t :: r, nums, st => match numTurn t nums st with
    | none => none
    | some s => (numTurns r s.lf s.st).map (s.tk :: ·)
end Op
namespace L2
open PySem PySem.Spec PyProof.Rows
/-! ### a table of the written part, its keys texts -/
/-- the entries, key by key -/
def Ents (P : Params) : List DictEntry → List (Str × V) → Prop
  | [], [] => True
  | e :: r, (k, v) :: t => (∃ tk, e.key = .str k tk ∧ e.hash = PyData.keyHash P k) ∧ RelV v e.val ∧ Ents P r t
  | _, _ => False
/-- at a: the table tab -/
def WTab (K : PySem.W.Frag) (w : World) (a : Addr) (tab : List (Str × V)) : Prop :=
  ∃ es n, K.lookup a = some ⟨.type "dict", none, .dict es n, #[]⟩ ∧ Ents w.params es.toList tab ∧ (a == sysModules) = false
theorem Ents.lit {P : Params} : ∀ {es : List DictEntry} {tab : List (Str × V)}, Ents P es tab → PySem.W.KeysLit P es
  | [], [], _ => trivial
  | e :: r, (k, v) :: t, ⟨⟨tk, h1, h2⟩, _, h3⟩ => ⟨⟨k, tk, h1, h2⟩, h3.lit⟩
theorem Ents.noRef {P : Params} : ∀ {es : List DictEntry} {tab : List (Str × V)}, Ents P es tab → es.any (·.refKey) = false
  | [], [], _ => rfl
  | e :: r, (k, v) :: t, ⟨⟨tk, h1, _⟩, _, h3⟩ => by
    rw [List.any_cons, h3.noRef, Bool.or_false]
    unfold DictEntry.refKey
    rw [h1]
theorem Ents.find {P : Params} (z : Str) : ∀ {es : List DictEntry} {tab : List (Str × V)}, Ents P es tab → RelO (tab.lookup z) ((es.find? (·.key.isStr z)).map (·.val))
  | [], [], _ => trivial
  | e :: r, (k, v) :: t, ⟨⟨tk, h1, _⟩, h2, h3⟩ => by
    rw [List.find?_cons]
    by_cases q : z = k
    · have e1 : e.key.isStr z = true := by rw [h1, q]; exact (by show (k == k) = true; simp)
      have e2 : ((k, v) :: t).lookup z = some v := by rw [q]; simp [List.lookup]
      rw [e1, e2]
      exact h2
    · have e1 : e.key.isStr z = false := by
        rw [h1]
        show (k == z) = false
        simpa using fun h : k = z => q h.symm
      have e2 : ((k, v) :: t).lookup z = t.lookup z := by
        have : (z == k) = false := by simpa using q
        simp [List.lookup, this]
      rw [e1, e2]
      exact h3.find z
theorem WTab.ns {K : PySem.W.Frag} {w : World} {a : Addr} {tab : List (Str × V)} (T : WTab K w a tab) (z : Str) : ∃ r, PySem.W.nsIn K a z = some r ∧ RelO (tab.lookup z) r := by
  obtain ⟨es, n, hl, he, _⟩ := T
  have f := he.find z
  unfold PySem.W.nsIn
  rw [hl]
  show ∃ r, (match es.toList.find? (·.key.isStr z) with | some e => some (some e.val) | none => if es.toList.any (·.refKey) then none else some none) = some r ∧ _
  cases q : es.toList.find? (·.key.isStr z) with
  | some e =>
    rw [q] at f
    exact ⟨_, rfl, f⟩
  | none =>
    rw [q] at f
    exact ⟨none, by rw [he.noRef]; rfl, f⟩
/-- t[k], the key is there -/
def rIxW (K : PySem.W.Frag) (w : World) : R2 := fun x y H Q => ∃ p z tab v, x = .ref p ∧ y = .str z ∧ WTab K w p tab ∧ tab.lookup z = some v ∧ Q v H
def rNotInW (K : PySem.W.Frag) (w : World) : R2 := fun x y H Q => ∃ p z tab, x = .str z ∧ y = .ref p ∧ WTab K w p tab ∧ Q (.bl (!(tab.lookup z).isSome)) H
def rInW (K : PySem.W.Frag) (w : World) : R2 := fun x y H Q => ∃ p z tab, x = .str z ∧ y = .ref p ∧ WTab K w p tab ∧ Q (.bl (tab.lookup z).isSome) H
theorem RelO.isSome {a : Option V} {b : Option Value} (h : RelO a b) : b.isSome = a.isSome := by
  cases a <;> cases b <;> first | rfl | exact h.elim
section
variable {X : Cx}
theorem ix_wtab : IxR X (rIxW X.K X.w) := by
  intro value slice pins s σ H x y v u Q I rx ry h hs
  obtain ⟨p, z, tab, r, rfl, rfl, T, hlk, q⟩ := h
  obtain ⟨o, e, rel⟩ := T.ns z
  obtain ⟨es, n, hl, he, _⟩ := T
  rw [hlk] at rel
  cases o with
  | none => exact rel.elim
  | some u0 => exact ix_kdict value slice pins s σ H _ _ v u Q I rx ry ⟨p, z, r, rfl, rfl, ⟨es, n, u0, hl, he.lit, e, rel⟩, q⟩ hs
theorem op_notIn_wtab : OpR X (compareOp .NotIn) (rNotInW X.K X.w) := by
  intro pins s σ H x y v u Q I rx ry h
  obtain ⟨p, z, tab, rfl, rfl, T, q⟩ := h
  obtain ⟨o, e, rel⟩ := T.ns z
  obtain ⟨es, n, hl, he, lo⟩ := T
  obtain ⟨t, rfl⟩ := rx
  obtain rfl : u = Value.ref p := ry
  have hm := PySem.W.mapOf_K (prog := X.prog) (w := X.w) I.kIn hl he.lit
  refine wpAny_notIn_of (strKind_is X.prog X.w z t) lo hm ?_
  rw [PySem.W.find_K hl e, rel.isSome]
  exact ⟨.bl _, H, I.tok _, rfl, q⟩
theorem op_in_wtab : OpR X (compareOp .In) (rInW X.K X.w) := by
  intro pins s σ H x y v u Q I rx ry h
  obtain ⟨p, z, tab, rfl, rfl, T, q⟩ := h
  obtain ⟨o, e, rel⟩ := T.ns z
  obtain ⟨es, n, hl, he, lo⟩ := T
  obtain ⟨t, rfl⟩ := rx
  obtain rfl : u = Value.ref p := ry
  have hm := PySem.W.mapOf_K (prog := X.prog) (w := X.w) I.kIn hl he.lit
  refine wpAny_in_of (strKind_is X.prog X.w z t) lo hm ?_
  rw [PySem.W.find_K hl e, rel.isSome]
  exact ⟨.bl _, H, I.tok _, rfl, q⟩
end
/-! ### a method by its name, with its promise -/
def Mcal (P : Program) (w : World) (K : PySem.W.Frag) (mg : Str → Option Value) (base : Heap) (CX : CXT) (k : Nat) (C : Addr) (m : Str) (ps : List Str) (sp : Sp) : Prop :=
  ∃ (f : Addr) (fd : FuncData), Meth K C m f ∧ Binds K fd ps [] ∧ FnOk P w K mg base CX k f fd ps sp
theorem pe_mcal {X : Cx} {CX : CXT} {k : Nat} {C : Addr} {m : Str} {ps : List Str} {sp : Sp} {E : XK} {apos pos : Pos} {o e : Expr} {es : List Expr} {ta : TE} {t : TA} (ho : PE X o ta) (c : Cls X.K C) (M : Mcal X.prog X.w X.K X.mg X.base CX k C m ps sp) (hr : Room k X.A) (hx : Passes CX X E) (ha : PA X (e :: es) t)
    {pl : Sem Bool} (hc : eval (.Call (.Attribute o m apos) (e :: es) [] pos) X.env = (do
      let ov ← eval o X.env
      standAt apos.atName
      let (f, first) ← holding [ov] (getMethod ov m pl)
      callWith pos f first (backTo pos (starEach (e :: es) X.env)) (backToKw pos (keywordEach [] X.env))) := by rfl)
    (he : starEach (e :: es) X.env = (false, eval e X.env) :: starEach es X.env := by rfl) (hpl : (backTo pos (starEach es X.env)).any (·.1) = false := by rfl) :
    PE X (.Call (.Attribute o m apos) (e :: es) [] pos) (tMeth C m sp [] E ta t) := by
  obtain ⟨f, fd, h1, h2, h3⟩ := M
  exact pe_meth ho c h1 h3 hr h2 .nil hx ha he hpl hc
theorem pe_mcal0 {X : Cx} {CX : CXT} {k : Nat} {C : Addr} {m : Str} {ps : List Str} {sp : Sp} {E : XK} {apos pos : Pos} {o : Expr} {ta : TE} (ho : PE X o ta) (c : Cls X.K C) (M : Mcal X.prog X.w X.K X.mg X.base CX k C m ps sp) (hr : Room k X.A) (hx : Passes CX X E)
    {pl : Sem Bool} (hc : eval (.Call (.Attribute o m apos) [] [] pos) X.env = (do
      let ov ← eval o X.env
      standAt apos.atName
      let (f, first) ← holding [ov] (getMethod ov m pl)
      callWith pos f first (backTo pos (starEach [] X.env)) (backToKw pos (keywordEach [] X.env))) := by rfl) :
    PE X (.Call (.Attribute o m apos) [] [] pos) (tMeth C m sp [] E ta tNil) := by
  obtain ⟨f, fd, h1, h2, h3⟩ := M
  exact pe_meth0 ho c h1 h3 hr h2 .nil hx hc
end L2
namespace L2
open PySem PySem.Spec PyProof.Rows
/-! ### d.keys() as a value, and sorted of it -/
/-- the view d.keys() at p -/
def keysO (p d : Addr) : HO := .ext fun h => PySem.W.KdlKeysView h p d
theorem keysO_ok {P : Program} {w : World} {H : Hp} {h : Heap} {p d : Addr} (e : h.get? p = some { cls := .type "dict_keys", data := .fields #[.ref d] }) : ObjOk P w H h p (keysO p d) :=
  ⟨⟨_, e, rfl, rfl⟩, ⟨_, e⟩, fun h1 h2 x k => let ⟨o, ho, r⟩ := x; ⟨o, k o ho, r⟩⟩
section
variable {X : Cx}
def rKeysV : V → List V → Hp → VK → Prop := fun x xs H Q => ∃ (a : Addr) (kvs : List (Key × V)), x = .ref a ∧ xs = [] ∧ Rd H a (.dK kvs) ∧ ∀ p, H p = none → Q (.ref p) (upd H p (keysO p a))
theorem mt_keysV : MtR X "dict.keys" rKeysV := by
  intro pins s σ H x xs v us Q I rx rxs h
  obtain ⟨a, kvs, rfl, rfl, ha, q⟩ := h
  cases rx
  cases rxs
  obtain ⟨z, lo, vs, rel, dd⟩ := dk_rd I.hok ha
  have hf : H s.heap.objs.size = none := I.hok.fresh (Nat.le_refl _)
  refine call_meetsIn PySem.F.slot_dict_keys dd.typeIs PySem.F.entry_dict_keys (PySem.F.args_dict_keys_1 _) (PySem.W.kdl_meets_keys (mixKind X.prog X.w) a lo) ⟨⟨vs, dd⟩, ?_⟩
  exact ⟨.ref s.heap.objs.size, upd H s.heap.objs.size (keysO s.heap.objs.size a), I.laid (t' := s.toks) (fun b u e => Heap.get?_push_of_some _ e) (Nat.le_refl _) (keysO_ok (Heap.get?_push_size _ rfl)), rfl, q _ hf⟩
/-- sorted(d.keys()), fewer than 64 keys, all texts -/
def rSortKV : List V → Hp → VK → Prop := fun xs H Q => ∃ (p a : Addr) (kvs : List (Key × V)) (ks : List Str), xs = [.ref p] ∧ H p = some (keysO p a) ∧ Rd H a (.dK kvs) ∧ kvs.map (·.1) = ks.map Sum.inr ∧ ks.length < 64 ∧
    ∀ ys q, ys.Perm ks → sortedS ys = true → H q = none → Q (.ref q) (upd H q (.lst (ys.map V.str)))
theorem call_sortedKV (hcalm : X.calm = true) : CallR X (.builtin "sorted") rSortKV := by
  intro pins s σ H xs us Q I r q
  obtain ⟨p, a, kvs, ks, rfl, hp, hd, hks, h64, q⟩ := q
  obtain ⟨u, rfl, rx⟩ := vals1 r
  cases rx
  have hview : PySem.W.KdlKeysView s.heap p a := (I.hok p _ hp).1
  obtain ⟨z, lo, vs, rel, dd⟩ := dk_rd I.hok hd
  obtain ⟨ep, hat⟩ := dd.dictAt
  have hkeys : vs.map (·.1) = ks.map Sum.inr := rel.keys.symm.trans hks
  have hl : vs.length = ks.length := by simpa using congrArg List.length hkeys
  refine Calls.call_function_entry PyProof.Rows.kind_sorted PyProof.Rows.plain_sorted PyProof.Rows.entry_sorted (PyProof.Rows.args_sorted1 _) ?_
  unfold Builtin.«sorted»
  refine wpAny_bind (m := checkCount "sorted" 1 1 _) (wpAny_pure ?_)
  refine wpAny_bind (PySem.W.kdu_collect (A := X.A.in1) (PySem.W.kdl_keys (knd := mixKind X.prog X.w) (r := p) (d := a) (kvs := vs) (ep := ep)) (I.ok.hd hcalm) ⟨hview, hat⟩ (by rw [hl, sizeLine_eq]; omega) fun h' tk acc hk hacc => ?_)
  have hal : acc.toList.length = ks.length := by rw [Array.length_toList, hacc.1, hl]
  have hS : StrsAre acc.toList ks := strs_at hal fun j v e => by
    obtain ⟨k, x, e1, e2⟩ := hacc.2 j v (by rw [← Array.getElem?_toList]; exact e)
    have e3 : (vs.map (·.1))[j]? = some k := by rw [List.getElem?_map, e1]; rfl
    rw [hkeys, List.getElem?_map] at e3
    cases e4 : ks[j]? with
    | none => rw [e4] at e3; cases e3
    | some y =>
      rw [e4] at e3
      obtain rfl : Sum.inr y = k := Option.some.inj e3
      obtain ⟨t, ev⟩ := Value.isStrOf_shape (x := y) (v := v) e2
      exact ⟨y, t, rfl, ev⟩
  have I1 : Inv X pins σ H { s with heap := h', toks := tk } := I.kept hk
  refine wpAny_bind (wpAny_newList ?_ (by rw [hal, sizeLine_eq]; omega))
  have hoL : (h'.push (seqObj "list" acc.toList.toArray 0)).get? h'.objs.size = some (seqObj "list" acc.toList.toArray 0) := Heap.get?_push_size _ rfl
  show wpAny _ _ _ _ _ { s with heap := h'.push (seqObj "list" acc.toList.toArray 0), toks := tk }
  refine wpAny_bind (wpAny_holding (wpAny_call_entry PyProof.Rows.slot_list_sort ⟨_, hoL, rfl⟩ PyProof.Rows.entry_list_sort
    (list_sort_treeK strKind_oneLt (s := { s with heap := h'.push (seqObj "list" acc.toList.toArray 0), toks := tk }) hoL hS.keysOf (fun v₁ v₂ rest e => keyKind_strs (by rw [← e]; exact hS)) (by rw [hal]; exact h64) fun st' hp' hs => ⟨_, rfl, ?_⟩)
    (PyProof.Rows.args_list_sort _)))
  obtain ⟨ys, g1, g2, g3⟩ := sorted_out_str hS hp' hs
  obtain ⟨e', he'⟩ := PyProof.Rows.sortedHeap_at (vs := acc.toList) (out := (arrOf st').map (·.2)) hoL
  have hlen : (ys.map V.str).length ≤ sizeLine := by
    rw [List.length_map, g2.length_eq, sizeLine_eq]
    omega
  refine wpAny_pure ⟨_, rfl, .ref h'.objs.size, upd H h'.objs.size (.lst (ys.map V.str)), I1.laid (t' := tk) (fun b u e => ?_) (Nat.le_refl _)
    (show ObjOk X.prog X.w _ _ _ (.lst (ys.map V.str)) from ⟨hlen, ((arrOf st').map (·.2)).toList, e', vals_of_strs g1, by rw [Array.toArray_toList]; exact he'⟩), rfl, q ys _ g2 g3 (I1.hok.fresh (Nat.le_refl _))⟩
  have hb : b < h'.objs.size := Heap.lt_size e
  rw [PyProof.Rows.sortedHeap_old (Nat.ne_of_lt hb) (by rw [size_push']; exact Nat.lt_succ_of_lt hb)]
  exact Heap.get?_push_of_some _ e
end
/-- a dict comprehension over what is walked -/
theorem dc_it {J : It} {n : Nat} {G : Hp → Prop} {Y : Nat → Hp → V → Hp → Prop} (w : Walk J n G Y) {g : TG} {tt : TT} {tk tv : TE} {vs : List Nat} {σ : L2.St} {H1 : Hp} {D : Addr} {Qd : Hp → Prop} (Pv : Nat → Hp → Prop) (h0 : Pv 0 (upd H1 D (.dK []))) (hG : ∀ i H, i ≤ n → Pv i H → G H)
    (hs : ∀ i x H H', i < n → Pv i H → Y i H x H' → g x (wipe σ vs) H' fun σ2 H2 => wipe σ2 vs = wipe σ vs ∧ tt σ2 H2 fun b H3 =>
      if b = true then tk σ2 H3 fun y H4 => tv σ2 H4 fun z H5 => ∃ kvs k, y = kV k ∧ H5 D = some (.dK kvs) ∧ kvs.length < sizeLine ∧ Pv (i + 1) (upd H5 D (.dK (putK kvs k z))) else Pv (i + 1) H3) (hd : ∀ H, Pv n H → Qd H) :
    ∃ W : Nat → Nat → Hp → Prop, (∃ m, W 0 m (upd H1 D (.dK []))) ∧ ∀ i m H, W i m H →
      (J.stop i H ∧ Qd H) ∨ (J.go i H ∧ ∃ Nx : Hp → Prop, (∀ H', Nx H' → ∃ m', m' < m ∧ W (i + 1) m' H') ∧ ∀ x H', J.yld i H x H' → g x (wipe σ vs) H' fun σ2 H2 => wipe σ2 vs = wipe σ vs ∧ tt σ2 H2 fun b H3 =>
        if b = true then tk σ2 H3 fun y H4 => tv σ2 H4 fun z H5 => ∃ kvs k, y = kV k ∧ H5 D = some (.dK kvs) ∧ kvs.length < sizeLine ∧ Nx (upd H5 D (.dK (putK kvs k z))) else Nx H3) := by
  refine ⟨fun i m H => m = n - i ∧ i ≤ n ∧ Pv i H, ⟨n, by simp, Nat.zero_le _, h0⟩, ?_⟩
  rintro i m H ⟨rfl, hi, p⟩
  have q := hG i H hi p
  by_cases hlt : i < n
  · exact .inr ⟨w.goes i H hlt q, Pv (i + 1), fun H' p' => ⟨n - (i + 1), by omega, rfl, hlt, p'⟩, fun x H' y => hs i x H H' hlt p (w.yields i H x H' hlt q y)⟩
  · have e : i = n := by omega
    subst e
    exact .inl ⟨w.stops H q, hd H p⟩
end L2
namespace L2
open PySem PySem.Spec PyProof.Rows
/-! ### sorted, where the tuples of ints stand in order already -/
def sh0 : Nat → Bool := fun _ => false
abbrev pK (k : List Int) : List (Int ⊕ List Nat) := k.map Sum.inl
def pLt (a b : List Int) : Bool := PyProof.Rows.lexLt PyProof.Rows.itemOrd (pK a) (pK b)
theorem perm_same {α : Type} {R : α → α → Bool} (hi : ∀ a, R a a = false) : ∀ {l2 l1 : List α}, l1.Perm l2 → l2.Pairwise (fun a b => R a b = true) → l1.Pairwise (fun a b => R b a = false) → l1 = l2
  | [], l1, hp, _, _ => List.Perm.eq_nil hp
  | b :: t, [], hp, _, _ => absurd hp.length_eq (by simp)
  | b :: t, a :: s, hp, h2, h1 => by
    obtain ⟨hb, ht⟩ := List.pairwise_cons.mp h2
    obtain ⟨ha, hs⟩ := List.pairwise_cons.mp h1
    have e : a = b := by
      rcases List.mem_cons.mp (hp.mem_iff.mp (List.mem_cons_self (a := a) (l := s))) with e | e
      · exact e
      · have hR := hb a e
        rcases List.mem_cons.mp (hp.mem_iff.mpr (List.mem_cons_self (a := b) (l := t))) with e' | e'
        · exact e'.symm
        · have := ha b e'
          rw [hR] at this
          cases this
    subst e
    rw [perm_same hi (List.perm_cons a |>.mp hp) ht hs]
def KeyAt (h : Heap) (v : Value) (k : List Int) : Prop := PyProof.Rows.G.tupKeyC h sh0 v = some (pK k)
def keyV (h : Heap) (v : Value) : List (Int ⊕ List Nat) := (PyProof.Rows.G.tupKeyC h sh0 v).getD []
theorem zip_self_eq {α : Type} {l : List α} {p : α × α} (h : p ∈ l.zip l) : p.1 = p.2 := (PyProof.Rows.mem_zip_self h).1
theorem zip_snd {α : Type} : ∀ l : List α, (l.zip l).map (·.2) = l
  | [] => rfl
  | a :: r => by rw [List.zip_cons_cons, List.map_cons, zip_snd r]
theorem sort_same {h : Heap} {vs : List Value} {ks : List (List Int)} (hv : Paired (KeyAt h) vs ks) (hs : ks.Pairwise fun a b => pLt a b = true) {arr : Array Keyed} (hp : arr.Perm (pairsOf vs)) (hk : SortedToK (PyProof.Rows.G.tupKindC h sh0) arr (pairsOf vs).size) : arr.map (·.2) = vs.toArray := by
  have hpl : arr.toList.Perm (vs.zip vs) := by
    have := Array.perm_iff_toList_perm.mp hp
    rw [pairsOf_toList] at this
    exact this
  have h1 : (arr.toList.map (·.2)).Perm vs := by
    have := hpl.map (·.2)
    rw [zip_snd] at this
    exact this
  have heq : ∀ p ∈ arr.toList, p.1 = p.2 := fun p hp' => zip_self_eq (hpl.mem_iff.mp hp')
  have hsz : (pairsOf vs).size = arr.toList.length := by rw [Array.length_toList]; exact hp.size_eq.symm
  have h2 : vs.Pairwise (fun a b => PyProof.Rows.lexLt PyProof.Rows.itemOrd (keyV h a) (keyV h b) = true) := by
    clear h1 hpl hk hp heq hsz
    induction hv with
    | nil => exact .nil
    | @cons a b l1 l2 hab t ih =>
      obtain ⟨p1, p2⟩ := List.pairwise_cons.mp hs
      refine List.pairwise_cons.mpr ⟨fun x hx => ?_, ih p2⟩
      obtain ⟨k, hk1, hk2⟩ : ∃ k ∈ l2, KeyAt h x k := by
        clear ih p1 p2 hs
        induction t with
        | nil => cases hx
        | @cons a' b' m1 m2 hab' t' ih' =>
          rcases List.mem_cons.mp hx with rfl | hx
          · exact ⟨b', List.mem_cons_self, hab'⟩
          · obtain ⟨k, q1, q2⟩ := ih' hx
            exact ⟨k, List.mem_cons_of_mem _ q1, q2⟩
      have := p1 k hk1
      unfold keyV
      rw [show PyProof.Rows.G.tupKeyC h sh0 a = _ from hab, show PyProof.Rows.G.tupKeyC h sh0 x = _ from hk2]
      exact this
  have h3 : (arr.toList.map (·.2)).Pairwise (fun a b => PyProof.Rows.lexLt PyProof.Rows.itemOrd (keyV h b) (keyV h a) = false) := by
    rw [List.pairwise_map, List.pairwise_iff_getElem]
    intro i j hi hj hij
    have := hk i j (Nat.le_of_lt hij) (by rw [hsz]; exact hj)
    have e : ∀ (i : Nat) (hi : i < arr.toList.length), KK (PyProof.Rows.G.tupKindC h sh0) arr i = keyV h (arr.toList[i].2) := fun i hi => by
      have g : arr[i]? = some arr.toList[i] := by rw [← Array.getElem?_toList, List.getElem?_eq_getElem hi]
      unfold KK
      rw [g]
      show (PyProof.Rows.G.tupKeyC h sh0 arr.toList[i].1).getD [] = _
      rw [heq _ (List.getElem_mem hi)]
      rfl
    rw [e i hi, e j hj] at this
    exact this
  have h4 := perm_same (R := fun a b => PyProof.Rows.lexLt PyProof.Rows.itemOrd (keyV h a) (keyV h b)) (fun a => PyProof.Rows.lex_irrefl _) h1 h2 h3
  apply Array.ext'
  rw [Array.toList_map, h4]
theorem items_ints : ∀ {k : List Int} {its : List Value} (i : Nat), Vals (k.map V.int) its → PyProof.Rows.tupItems sh0 i its = some (pK k)
  | [], [], i, .nil => rfl
  | n :: r, _ :: _, i, .cons h t => by
    obtain ⟨tk, rfl⟩ := h
    show (if sh0 i = true then none else (PyProof.Rows.tupItems sh0 (i + 1) _).map (Sum.inl n :: ·)) = _
    rw [items_ints (i + 1) t]
    rfl
theorem tup_key {h : Heap} {a : Addr} {k : List Int} {its : List Value} (hv : Vals (k.map V.int) its) (ht : IsTup h a its.toArray) : KeyAt h (.ref a) k := by
  obtain ⟨o, h1, h2, n, h3⟩ := ht
  exact PyProof.Rows.G.tupKeyC_of h1 h2 h3 (items_ints 0 hv)
theorem tup_first {h : Heap} {a : Addr} {k : List Int} {its : List Value} (hn : k ≠ []) (hv : Vals (k.map V.int) its) (ht : IsTup h a its.toArray) : ∃ f, PyProof.Rows.TupOf h sh0 (.ref a) f := by
  obtain ⟨o, h1, h2, n, h3⟩ := ht
  cases k with
  | nil => exact absurd rfl hn
  | cons x r =>
    cases hv with
    | cons hx t =>
      obtain ⟨tk, rfl⟩ := hx
      exact ⟨_, a, o, _, n, rfl, h1, h2, h3, rfl, fun _ => ⟨x, tk, rfl⟩, fun z => by cases z⟩
theorem tups_of {h : Heap} : ∀ {vs : List Value}, (∀ v ∈ vs, ∃ f, PyProof.Rows.TupOf h sh0 v f) → ∃ fs, PyProof.Rows.TupsOf h sh0 vs fs
  | [], _ => ⟨[], .nil⟩
  | v :: r, hv => by
    obtain ⟨f, hf⟩ := hv v List.mem_cons_self
    obtain ⟨fs, hfs⟩ := tups_of (vs := r) fun x hx => hv x (List.mem_cons_of_mem _ hx)
    exact ⟨f :: fs, .cons hf hfs⟩
theorem paired_all {h : Heap} {qs : List Addr} {ks : List (List Int)} (hq : Paired (fun (q : Addr) k => k ≠ [] ∧ ∃ its, Vals (k.map V.int) its ∧ IsTup h q its.toArray) qs ks) : Paired (KeyAt h) (qs.map Value.ref) ks ∧ ∀ v ∈ qs.map Value.ref, (∃ f, PyProof.Rows.TupOf h sh0 v f) ∧ ∃ l, PyProof.Rows.G.tupKeyC h sh0 v = some l := by
  induction hq with
  | nil => exact ⟨.nil, fun v hv => (List.not_mem_nil hv).elim⟩
  | @cons a b l1 l2 hab t ih =>
    obtain ⟨hn, its, h1, h2⟩ := hab
    have hk := tup_key h1 h2
    refine ⟨.cons hk ih.1, fun v hv => ?_⟩
    rcases List.mem_cons.mp hv with rfl | hv
    · exact ⟨tup_first hn h1 h2, _, hk⟩
    · exact ih.2 v hv
theorem vals_refs : ∀ qs : List Addr, Vals (qs.map V.ref) (qs.map Value.ref)
  | [] => .nil
  | q :: r => .cons rfl (vals_refs r)
section
variable {X : Cx} {pins : List (Addr × Obj)} {σ : St} {H : Hp} {s : Shared}
/-- tuples of ints at qs -/
abbrev TupsAt (H : Hp) : List Addr → List (List Int) → Prop := Paired fun q k => H q = some (.tup (k.map V.int))
theorem TupsAt.raw {h : Heap} {qs : List Addr} {ks : List (List Int)} (hok : HOk X.prog X.w H h) (hne : ∀ k ∈ ks, k ≠ []) (t : TupsAt H qs ks) : Paired (fun (q : Addr) k => k ≠ [] ∧ ∃ its, Vals (k.map V.int) its ∧ IsTup h q its.toArray) qs ks := by
  induction t with
  | nil => exact .nil
  | @cons a b l1 l2 hab t ih =>
    obtain ⟨_, its, r, tt⟩ := (show ObjOk X.prog X.w H h a (.tup (b.map V.int)) from hok a _ hab)
    exact .cons ⟨hne b List.mem_cons_self, its, r, tt⟩ (ih fun k hk => hne k (List.mem_cons_of_mem _ hk))
theorem raw_keep {h h' : Heap} {qs : List Addr} {ks : List (List Int)} (k : ∀ b o, h.get? b = some o → h'.get? b = some o) (t : Paired (fun (q : Addr) k => k ≠ [] ∧ ∃ its, Vals (k.map V.int) its ∧ IsTup h q its.toArray) qs ks) : Paired (fun (q : Addr) k => k ≠ [] ∧ ∃ its, Vals (k.map V.int) its ∧ IsTup h' q its.toArray) qs ks := by
  induction t with
  | nil => exact .nil
  | cons hab t ih =>
    obtain ⟨h1, its, h2, o, h3, h4⟩ := hab
    exact .cons ⟨h1, its, h2, o, k _ _ h3, h4⟩ ih
end
section
variable {X : Cx}
/-- sorted(xs), xs a list of tuples of ints in order: the same again -/
def rSortTs (K : PySem.W.Frag) : List V → Hp → VK → Prop := fun vs H Q => ∃ (a : Addr) (qs : List Addr) (ks : List (List Int)), vs = [.ref a] ∧ H a = some (.lst (qs.map V.ref)) ∧ TupsAt H qs ks ∧ (∀ k ∈ ks, k ≠ []) ∧ (ks.Pairwise fun a b => pLt a b = true) ∧
  ∀ p, H p = none → Q (.ref p) (upd H p (.lst (qs.map V.ref)))
theorem call_sortT : CallR X (.builtin "sorted") (rSortTs X.K) := by
  intro pins s σ H vs us Q I r h
  obtain ⟨a, qs, ks, rfl, hs, ht, hne, hp, q⟩ := h
  obtain ⟨its, rv, hl, hz⟩ := I.list (.inl (.inl hs))
  rw [Vals.ref1 r]
  obtain rfl : its = qs.map Value.ref := by
    clear hl hz hs ht q
    induction qs generalizing its with
    | nil => cases rv; rfl
    | cons b t ih =>
      cases rv with
      | cons h1 h2 =>
        rw [List.map_cons, ← ih _ h2]
        exact congrArg (· :: _) h1
  have raw := TupsAt.raw (X := X) I.hok hne ht
  obtain ⟨g1, g2⟩ := paired_all raw
  obtain ⟨fs, hfs⟩ := tups_of fun v hv => (g2 v hv).1
  refine PyProof.Rows.G.sorted_tups hl.isList hfs (fun v hv => (g2 v hv).2) (by rw [← rv.length]; exact hz) fun st' hp' hs' _ => ?_
  rw [sort_same g1 hp hp' hs']
  obtain ⟨ep, he'⟩ := PyProof.Rows.sortedAll_at s.heap (qs.map Value.ref) (qs.map Value.ref).toArray
  exact ⟨.ref _, upd H (s.heap.objs.size + 1) (.lst (qs.map V.ref)), I.laid (t' := s.toks) (fun _ _ => PyProof.Rows.sortedAll_old) (Nat.le_succ _) ⟨by rw [rv.length]; exact rv.length ▸ hz, qs.map Value.ref, ep, vals_refs qs, he'⟩, rfl, q _ (I.hok.fresh (Nat.le_succ _))⟩
end
end L2
namespace L2
open PySem PySem.Spec PyProof.Rows
section
variable {prog : Program} {w : World}
theorem meetsKeys {d : Addr} {es : Array DictEntry} {ep : Nat} (hd : (d == sysModules) = false) :
    MeetsIn prog w (Builtin.«dict.keys» ⟨[.ref d], []⟩) (fun _ R s => s.heap.DictRaw d es ep ∧
      R (.ok (.ret (.ref s.heap.objs.size))) { s with heap := s.heap.push { cls := .type "dict_keys", data := .fields #[.ref d] } }) :=
  .of_wp fun A R s ⟨hm, h⟩ => by
    unfold Builtin.«dict.keys»
    refine wpAny_bind ?_
    unfold Builtin.Dict.noArgs
    refine wpAny_bind (wpAny_notOrdered_dict hm.typeIs ?_)
    show wpAny _ _ (pure d) _ _ s
    refine wpAny_pure ?_
    show wpAny _ _ (Builtin.Dict.showsAll d >>= _) _ _ s
    unfold Builtin.Dict.showsAll
    rw [if_neg (by rw [hd]; exact Bool.false_ne_true)]
    refine wpAny_bind (wpAny_pure ?_)
    exact wpAny_bind (wpAny_newObj_type (wpAny_pure ⟨_, rfl, h⟩))
end
section
variable {X : Cx}
def rKeysVT : V → List V → Hp → VK → Prop := fun x xs H Q => ∃ (a : Addr) (kvs : List (List Key × V)), x = .ref a ∧ xs = [] ∧ Rd H a (.dT kvs) ∧ ∀ p, H p = none → Q (.ref p) (upd H p (keysO p a))
theorem mt_keysVT : MtR X "dict.keys" rKeysVT := by
  intro pins s σ H x xs v us Q I rx rxs h
  obtain ⟨a, kvs, rfl, rfl, ha, q⟩ := h
  cases rx
  cases rxs
  obtain ⟨z, hd, xs', rel, o, es, ep, ho, hx, hdat, _⟩ := dt_rd I.hok ha
  have hf : H s.heap.objs.size = none := I.hok.fresh (Nat.le_refl _)
  refine call_meetsIn PySem.F.slot_dict_keys (Heap.DictRaw.typeIs (es := es) (ep := ep) ⟨o, ho, hx, hdat⟩) PySem.F.entry_dict_keys (PySem.F.args_dict_keys_1 _) (meetsKeys (es := es) (ep := ep) hd) ⟨⟨o, ho, hx, hdat⟩, ?_⟩
  exact ⟨.ref s.heap.objs.size, upd H s.heap.objs.size (keysO s.heap.objs.size a), I.laid (t' := s.toks) (fun b u e => Heap.get?_push_of_some _ e) (Nat.le_refl _) (keysO_ok (Heap.get?_push_size _ rfl)), rfl, q _ hf⟩
theorem kt_tups {H : Hp} : ∀ {kvs : List (List Key × V)} {xs : List (List Key × Addr × Value)} {ks : List (List Int)}, KT H kvs xs → kvs.map (·.1) = ks.map (fun k => k.map Sum.inl) → TupsAt H (xs.map fun x => x.2.1) ks
  | [], [], ks, .nil, e => by
    cases ks with
    | nil => exact .nil
    | cons _ _ => cases e
  | p :: l, q :: m, ks, .cons h t, e => by
    cases ks with
    | nil => cases e
    | cons k r =>
      injection e with e1 e2
      refine .cons ?_ (kt_tups t e2)
      have h2 := h.2.1
      have e1 : p.1 = k.map Sum.inl := e1
      rw [e1, List.map_map] at h2
      exact h2
/-- sorted(d.keys()), the keys tuples of ints in order -/
def rSortKVT : List V → Hp → VK → Prop := fun xs H Q => ∃ (p a : Addr) (kvs : List (List Key × V)) (ks : List (List Int)), xs = [.ref p] ∧ H p = some (keysO p a) ∧ Rd H a (.dT kvs) ∧ kvs.map (·.1) = ks.map (fun k => k.map Sum.inl) ∧ (∀ k ∈ ks, k ≠ []) ∧ (ks.Pairwise fun a b => pLt a b = true) ∧
    ∀ (qs : List Addr) (q : Addr), TupsAt H qs ks → H q = none → Q (.ref q) (upd H q (.lst (qs.map V.ref)))
theorem call_sortedKVT (hcalm : X.calm = true) : CallR X (.builtin "sorted") rSortKVT := by
  intro pins s σ H xs us Q I r q
  obtain ⟨p, a, kvs, ks, rfl, hp, hd, hks, hne, hpw, q⟩ := q
  obtain ⟨u, rfl, rx⟩ := vals1 r
  cases rx
  have hview : PySem.W.KdlKeysView s.heap p a := (I.hok p _ hp).1
  obtain ⟨z, lo, vs, rel, o, es, ep, ho, hx, hdat, hes, _, _⟩ := dt_rd I.hok hd
  have hta := kt_tups rel hks
  have hvl : vs.length = kvs.length := by
    have := Paired.length rel
    exact this.symm
  have hsz : es.size = vs.length := by rw [← Array.length_toList, hes, List.length_map]
  refine Calls.call_function_entry PyProof.Rows.kind_sorted PyProof.Rows.plain_sorted PyProof.Rows.entry_sorted (PyProof.Rows.args_sorted1 _) ?_
  unfold Builtin.«sorted»
  refine wpAny_bind (m := checkCount "sorted" 1 1 _) (wpAny_pure ?_)
  refine wpAny_bind (PySem.W.kdu_collect (A := X.A.in1) (KdlSrc.rawKeys (r := p) (d := a) (es := es) (ep := ep)) (I.ok.hd hcalm) ⟨hview, ⟨o, ho, hx, hdat⟩⟩ (by rw [hsz, hvl]; exact z) fun h' tk acc hk hacc => ?_)
  have hacl : acc.toList = (vs.map fun x => x.2.1).map Value.ref := by
    refine List.ext_getElem? fun j => ?_
    rw [List.map_map, List.getElem?_map]
    by_cases hj : j < acc.size
    · have hj2 : j < vs.length := by rw [← hsz, ← hacc.1]; exact hj
      obtain ⟨hi, ev⟩ := hacc.2 j acc[j] (Array.getElem?_eq_getElem hj)
      rw [Array.getElem?_toList, Array.getElem?_eq_getElem hj, List.getElem?_eq_getElem hj2, ev]
      have : es[j]? = some (entryOfKey (tupleKind (mixKind X.prog X.w)) vs[j]) := by
        rw [← Array.getElem?_toList, hes, List.getElem?_map, List.getElem?_eq_getElem hj2]
        rfl
      rw [Array.getElem?_eq_getElem hi] at this
      rw [Option.some.inj this]
      rfl
    · rw [Array.getElem?_toList, Array.getElem?_eq_none (by omega), List.getElem?_eq_none (by have := hacc.1; omega)]
      rfl
  rw [hacl]
  generalize (vs.map fun x => x.2.1) = qs at hta hacl
  have hql : qs.length = kvs.length := by
    have h1 := congrArg List.length hacl
    rw [Array.length_toList, List.length_map, hacc.1, hsz, hvl] at h1
    exact h1.symm
  have I1 : Inv X pins σ H { s with heap := h', toks := tk } := I.kept hk
  refine wpAny_bind (wpAny_newList ?_ (by rw [List.length_map, hql]; exact z))
  have hoL : (h'.push (seqObj "list" (qs.map Value.ref).toArray 0)).get? h'.objs.size = some (seqObj "list" (qs.map Value.ref).toArray 0) := Heap.get?_push_size _ rfl
  show wpAny _ _ _ _ _ { s with heap := h'.push (seqObj "list" (qs.map Value.ref).toArray 0), toks := tk }
  have raw := raw_keep (h' := h'.push (seqObj "list" (qs.map Value.ref).toArray 0)) (fun b o e => Heap.get?_push_of_some _ e) (TupsAt.raw (X := X) I1.hok hne hta)
  obtain ⟨g1, g2⟩ := paired_all raw
  obtain ⟨fs, hfs⟩ := tups_of fun v hv => (g2 v hv).1
  refine wpAny_bind (wpAny_holding (wpAny_call_entry PyProof.Rows.slot_list_sort ⟨_, hoL, rfl⟩ PyProof.Rows.entry_list_sort
    (PyProof.Rows.G.list_sort_tups (s := { s with heap := h'.push (seqObj "list" (qs.map Value.ref).toArray 0), toks := tk }) hoL hfs (fun v hv => (g2 v hv).2) (by rw [List.length_map, hql]; exact z) fun st' hp' hs' _ => ⟨_, rfl, ?_⟩)
    (PyProof.Rows.args_list_sort _)))
  have hout := sort_same g1 hpw hp' hs'
  obtain ⟨e', he'⟩ := PyProof.Rows.sortedHeap_at (vs := qs.map Value.ref) (out := (arrOf st').map (·.2)) hoL
  rw [hout] at he'
  refine wpAny_pure ⟨_, rfl, .ref h'.objs.size, upd H h'.objs.size (.lst (qs.map V.ref)), I1.laid (t' := tk) (fun b u e => ?_) (Nat.le_refl _)
    (show ObjOk X.prog X.w _ _ _ (.lst (qs.map V.ref)) from ⟨by rw [List.length_map, hql]; exact z, qs.map Value.ref, e', vals_refs qs, by rw [hout]; exact he'⟩), rfl, q qs _ hta (I1.hok.fresh (Nat.le_refl _))⟩
  have hb : b < h'.objs.size := Heap.lt_size e
  rw [PyProof.Rows.sortedHeap_old (Nat.ne_of_lt hb) (by rw [size_push']; exact Nat.lt_succ_of_lt hb)]
  exact Heap.get?_push_of_some _ e
end
end L2
namespace L2
open PySem PySem.Spec PyProof.Rows
/-- isinstance(e, c), e the caught exception, with fields of its own -/
def rIsEd (K : PySem.W.Frag) (cls : Value) (d : Option Addr) (C a : Addr) : List V → Hp → VK → Prop := fun xs H Q => ∃ (c : V) (u : Value) (b : Bool) (dd : Addr) (fs : List (Str × V)), xs = [.ref a, c] ∧ ClsV c u ∧ cls = .ref C ∧ d = some dd ∧ H dd = some (.xd fs) ∧ PySem.W.kitOne K (.ref C) u = some b ∧ Q (.bl b) H
theorem call_isEd {X : Cx} {a C : Addr} {oe : Obj} {cls : Value} {d : Option Addr} {pn : List (Addr × Obj)} (T : XAsk X.K C) (hz : Zc cls d oe) (hf : ∃ vs, oe.data = .fields vs) : CallR (X.suite a ((a, oe) :: pn)) (.builtin "isinstance") (rIsEd X.K cls d C a) := by
  intro pins s σ H xs us Q I r h
  obtain ⟨c, u, b, dd, fs, rfl, k, ec, ed, ea, e, q⟩ := h
  obtain ⟨u1, u2, rfl, r1, r2⟩ := vals2 r
  have e2 := k.eq r2
  subst e2
  obtain rfl : u1 = Value.ref a := r1
  subst ec
  subst ed
  obtain ⟨ha, _⟩ := I.pin (a, oe) (List.mem_append_left _ List.mem_cons_self)
  obtain ⟨vs, hd⟩ := hf
  have hx : ObjOk X.prog X.w H s.heap dd (.xd fs) := I.hok dd _ ea
  obtain ⟨mA, hns, hr⟩ := hx
  obtain ⟨od, ho, hl⟩ := lookIn_ns hns
  have J : PySem.W.InstAt s.heap a oe C (some od) := ⟨ha, hz.1, by unfold PySem.W.notCls; rw [hd] <;> rfl, by rw [hz.2]; exact ho⟩
  obtain ⟨cd, hc, _⟩ := PySem.W.any_some T.hd
  exact PySem.W.kia_one (PySem.W.kitx_exc (by rw [hc]; rfl) T.hg T.hk T.hs T.ha T.hn T.ht T.hm) I.kIn J e (fun z => nomatch z) fun tk => ⟨.bl b, H, I.tok tk, rfl, q⟩
end L2
namespace L2
open PySem PySem.Spec PyProof.Rows
/-- as pmk_x; the context of the new exception is None -/
theorem pmk_xN {X : Cx} {x : Str} {C : Addr} {n k : Nat} {e : Expr} {es : List Expr} {ta : TA} {p pos : Pos} {gV : List V → List V → List (Str × V)} (M : XMk X.prog X.w X.K C n [] gV) (hr : Room k X.A) (hg : Gl X x) (hm : X.mg x = some (.ref C)) (kp : PySem.W.keepIn X.K (.ref C) = true) (rs : Raises X (.ref C)) (ha : PA X (e :: es) ta)
    (hdb : (x == ("__debug__" : Str)) = false := by decide) (he : starEach (e :: es) X.env = (false, eval e X.env) :: starEach es X.env := by rfl) (hpl : (backTo pos (starEach es X.env)).any (·.1) = false := by rfl) :
    L2N.PMk X (.Call (.Name x p) (e :: es) [] pos) (tXmk C n gV ta) := by
  intro pins s σ H Q I h
  refine wpAny_Call_Name_kw (ld_glob I hg hm ?_ hdb)
  refine PySem.W.callWith_K (h₀ := X.base) I.ok.mod.kin kp (thn (ha.run pos pins s σ H _ I h) fun us s1 ⟨vs, H1, I1, r1, l1, q1⟩ => ⟨I1.kIn, ?_⟩) he hpl
  show wpAny _ _ (call (.ref C) us) _ _ _
  refine wpAny_call (M _ s1 _ us [] vs [] r1 .nil (r1.length.symm.trans l1) rfl I1.kIn I1.xtop (by have := hr.dp; omega) fun h' tk' e' d mm O rel => ?_)
  obtain ⟨hp, g, dr, tk, os⟩ := s1
  obtain ⟨t1, hoe⟩ := O.obj
  obtain ⟨G', g1, g2⟩ := restrict h' fun b => decide (b ≠ e')
  have gk : ∀ b, b ≠ e' → G'.get? b = h'.get? b := fun b hb => g1 b (decide_eq_true hb)
  have ge : G'.get? e' = none := g2 e' (by simp)
  have old : ∀ b o, hp.get? b = some o → G'.get? b = some o := fun b o q => (gk b (Nat.ne_of_lt (Nat.lt_of_lt_of_le (Heap.lt_size q) O.new))).trans (O.keep b o q)
  have ob : ObjOk X.prog X.w (upd H1 d (.xd (gV vs []))) G' d (.xd (gV vs [])) := ⟨_, O.ns.at (fun o q => (gk d O.dne).trans q), rel⟩
  have J : Inv X pins σ (upd H1 d (.xd (gV vs []))) ⟨G', g, dr, tk', os⟩ := I1.laid (t' := tk') old O.dbig ob
  refine ⟨e', _, _, ⟨G', g, dr, tk', os⟩, _, .ref C, some d, rfl, J, fun b o q => ?_, ge, hoe, ⟨rfl, rfl, fun vs e => by cases e; rfl⟩, rfl, rfl, ?_, rfl, I1.bare, rs, q1 d (I1.hok.fresh O.dbig)⟩
  · by_cases hb : b = e'
    · have q' : G'.get? b = some o := q
      rw [hb, ge] at q'; cases q'
    · exact (gk b hb).symm.trans q
  · rw [upd_ne (Ne.symm O.dne)]
    exact I1.hok.fresh O.new
section
variable {P : Program} {w : World} {K : PySem.W.Frag} {mg : Str → Option Value} {base : Heap}
/-- as Fun.okX; what is let out has the context None -/
theorem Fun.okN {x qual : Str} {st : Stmt} {f : Addr} {fd : FuncData} {N ps : List Str} {k : Nat} {sp : Sp} (F : Fun K x qual st f fd) (S : FnScope N ps (defScope st)) (len : ∀ vs H Q E, sp vs H Q E → vs.length = ps.length)
    (hbody : ∀ (cdv : Value) (A : Around) (outer : List Env) (s : Shared) (H : Hp) (vs : List V) (Q : VK) (E : XK), Room k (A.deeper (envOfC qual (defScope st) s.heap.objs.size f cdv)) → sp vs H Q E →
      ∃ t, PSs (cxOf (L2N.CX P w) P w K mg base N qual (defScope st) f cdv A outer s H E) (defBody st) t ∧ t { nx := fun _ H' => Q .non H', rt := Q } (start N vs) H) : FnOk P w K mg base (L2N.CX P w) (k + 1) f fd ps sp := by
  obtain ⟨oc, od, kV, doc, pm, an, cdv, ct, osl, rfl, lk, hcd⟩ := F.ex
  exact fn_of lk hcd S len fun A outer s H vs Q E hr hsp => hbody cdv A outer s H vs Q E hr hsp
/-- as Fun.ok, for a call within an except suite -/
theorem Fun.okH {x qual : Str} {st : Stmt} {f : Addr} {fd : FuncData} {N ps : List Str} {k : Nat} {sp : Sp} (F : Fun K x qual st f fd) (S : FnScope N ps (defScope st)) (len : ∀ vs H Q E, sp vs H Q E → vs.length = ps.length)
    (hbody : ∀ (cdv : Value) (A : Around) (outer : List Env) (s : Shared) (H : Hp) (vs : List V) (Q : VK) (E : XK) (p : Addr × Obj), L2H.RoomH k (A.deeper (envOfC qual (defScope st) s.heap.objs.size f cdv)) → sp vs H Q E →
      ∃ t, PSs (L2H.cxH CX0 P w K mg base N qual (defScope st) f cdv A outer s H E p) (defBody st) t ∧ t { nx := fun _ H' => Q .non H', rt := Q } (start N vs) H) : L2H.FnH P w K mg base CX0 (k + 1) f fd ps sp := by
  obtain ⟨oc, od, kV, doc, pm, an, cdv, ct, osl, rfl, lk, hcd⟩ := F.ex
  exact L2H.fn_ofH lk hcd S len fun A outer s H vs Q E p _ hr hsp => hbody cdv A outer s H vs Q E p hr hsp
end
/-- what a callee may let out is taken, whatever the names hold -/
theorem passes_lenN {X : Cx} {W : WX} {E : XK} (tk : L2N.Takes X W) (hW : ∀ cls d σ H, σ.length = X.N.length → E cls d H → W cls d σ H) : Passes (L2N.CX X.prog X.w) X E :=
  fun _ σ _ _ e s' I c => tk e s' (L2N.XE.of_call I (fun cls d H' h => hW cls d σ H' I.len h) c)
theorem takes0N {X : Cx} : L2N.Takes X (fun _ _ _ _ => False) := fun _ _ x => by
  obtain ⟨_, _, _, _, _, _, _, _, _, _, _, _, _, _, _, _, z⟩ := x
  exact z.elim
end L2
namespace L2
open PySem PySem.Spec PyProof.Rows
/-! ### several except clauses, each with the same name -/
/-- what the clauses wish, one after the other: slot i is the name's -/
def wManyA (K : PySem.W.Frag) (i : Nat) (Wout : WX) (D : Ends) : List (Value × (Addr → Value → Option Addr → TS)) → WX
  | [] => Wout
  | q :: r => wAs K q.1 i q.2 (wManyA K i Wout D r) D
inductive HdsA (X : Cx) (n : Str) : List ExceptHandler → List (Value × (Addr → Value → Option Addr → TS)) → Prop
  | nil : HdsA X n [] []
  | cons {x : Str} {c : Value} {ts : Addr → Value → Option Addr → TS} {b₀ : Stmt} {suite : List Stmt} {np pos' : Pos} {hds : List ExceptHandler} {l : List (Value × (Addr → Value → Option Addr → TS))} (hc : Names X x c)
      (hsu : ∀ (a : Addr) (oe : Obj) (cls : Value) (d : Option Addr) (pn : List (Addr × Obj)), Zc cls d oe → (∃ vs, oe.data = .fields vs) → PSs (X.suite a ((a, oe) :: pn)) (b₀ :: suite) (ts a cls d)) (r : HdsA X n hds l) :
      HdsA X n (.ExceptHandler (some (.Name x np)) (some n) (b₀ :: suite) pos' :: hds) ((c, ts) :: l)
theorem ps_try_manyA {X : Cx} {n : Str} {i : Nat} {body : List Stmt} {h₀ : ExceptHandler} {hds : List ExceptHandler} {l : List (Value × (Addr → Value → Option Addr → TS))} {pos : Pos} {tb : WX → TS} {Wout : WX} (hs : X.stack = X.env :: X.outer) (hf : X.env.frame = some X.env.locals) (hN : X.N.Nodup) (hi : X.N[i]? = some n) (hln : X.env.kindOf n = some .local) (tk : Takes X Wout)
    (hb : ∀ (W : WX) (pn : List (Addr × Obj)) (xe : Value → Shared → Prop), Takes (X.tr pn xe) W → PassesOwn (model X.prog X.w) X.A X.env xe → PSs (X.tr pn xe) body (tb W)) (hh : HdsA X n (h₀ :: hds) l) :
    PS X (.Try body (h₀ :: hds) [] [] pos) (fun D σ H => tb (wManyA X.K i Wout D l) D σ H) := by
  refine ⟨fun pins s σ H D I h => ?_⟩
  have ok := I.ok
  have hfr : X.A.frames = some (X.env :: X.outer) := by rw [ok.frames, hs]
  have hloc : Loc X.env.scope n := .inl hln
  refine wpAny_Try_except ?_
  have run := (hb (wManyA X.K i Wout D l) (X.pn ++ pins) (fun e s₁ => wpAny (model X.prog X.w) X.A (noteFrame e X.env) (fun _ s₂ => wpAny (model X.prog X.w) X.A (setFlight e none) (fun _ s₃ => wpAny (model X.prog X.w) X.A (handleBy e X.env (h₀ :: hds)) (SP X pins D) X.xe s₃) X.xe s₂) X.xe s₁) (fun u s' xx => ?_) PassesOwn.looking).run [] s σ H D (I.toTry _) h
  · refine wpAny_mono run (fun f s1 hsp => ?_) (fun e s1 he => he)
    cases f with
    | next => exact wpAny_execs_nil (let ⟨σ', H', J', q⟩ := hsp; ⟨σ', H', J'.ofTry ok, q⟩)
    | brk => exact (let ⟨σ', H', J', q⟩ := hsp; ⟨σ', H', J'.ofTry ok, q⟩)
    | cont => exact (let ⟨σ', H', J', q⟩ := hsp; ⟨σ', H', J'.ofTry ok, q⟩)
    | ret u => exact (let ⟨v, σ', H', J', r, q⟩ := hsp; ⟨v, σ', H', J'.ofTry ok, r, q⟩)
  obtain ⟨a, B, sI, pins', σ', H', cls, d, rfl, J', nb, up, sky, na, os, ag, w⟩ := xx
  have J : Inv X pins σ' H' sI := J'.ofTry ok
  have sky' : Sky B (X.env :: X.outer) a (Zc cls d) X.env.locals s'.heap := hs ▸ sky
  show wpAny (model X.prog X.w) X.A (noteFrame (.ref a) X.env) _ _ _
  refine Sky.land Zc.steady hfr hf sky' fun h3 fl3 up3 => ?_
  have J3 : Inv X pins σ' H' { s' with heap := h3 } := J.landed nb fl3.1 (up.trans up3) os ag
  obtain ⟨oe3, vs3, he3, hz3, hd3⟩ := fl3.there
  have nfr : a ∉ frs (X.env :: X.outer) := fun hm => by
    obtain ⟨_, o', e', hnf⟩ := fl3.2.2.1.mem hm
    rw [he3] at e'
    cases e'
    exact hnf _ hd3
  have nL : a ≠ X.env.locals := fun z => nfr (List.mem_filterMap.mpr ⟨X.env, List.mem_cons_self, by rw [hf, z]⟩)
  have nF : a ∉ X.fs := fun hm => let ⟨e, he, q⟩ := List.mem_filterMap.mp hm; nfr (List.mem_filterMap.mpr ⟨e, List.mem_cons_of_mem _ he, q⟩)
  have S3 := J3.suite he3 hd3 na nL nF
  have LT : PySem.W.Looks (model X.prog X.w) h3 (typeOf (.ref a)) cls := fun A Q E s k q => wpAny_typeOf_ref (k _ _ he3) (by rw [hz3.1]; exact q)
  suffices go : ∀ {hds' : List ExceptHandler} {l' : List (Value × (Addr → Value → Option Addr → TS))}, HdsA X n hds' l' → wManyA X.K i Wout D l' cls d σ' H' → wpAny (model X.prog X.w) X.A (handleBy (.ref a) X.env hds') (SP X pins D) X.xe { s' with heap := h3 } from go hh w
  intro hds' l' hk
  induction hk with
  | nil =>
    intro w
    refine wpAny_handleBy_nil ?_
    obtain ⟨_, _, _, oe, vs, T, oT, _, he, _, hd, h1, _⟩ := id fl3
    unfold PySem.passOn
    refine wpAny_bind (wpAny_field he hd h1 ?_)
    rw [if_neg (show ¬ ((Value.ref T == Value.none) = true) from by simp)]
    have fin : wpAny (model X.prog X.w) X.A (setFlight (.ref a) X.env.frame) (fun _ s4 => wpAny (model X.prog X.w) X.A (throw (.ref a) : Sem Flow) (SP X pins D) X.xe s4) X.xe { s' with heap := h3 } := by
      rw [hf]
      exact HandSPX.setFlight_upZ fl3 fun h4 hh4 up4 => wpAny_throw (tk _ _ ⟨a, B, sI, pins, σ', H', cls, d, rfl, J, nb, (up.trans up3).trans up4, .inr (.inr (hs ▸ hh4)), na, os, ag, w⟩)
    first
      | exact wpAny_bind (wpAny_pure (wpAny_bind fin))
      | exact wpAny_bind fin
  | @cons x c ts b₀ suite np pos' hds2 l2 hc hsu r ih =>
    intro w
    obtain ⟨b, hb1, hyes, hno⟩ := w
    refine wpAny_handleBy_cons (codeAny_handlers_test ?_) (by intro q; cases q)
    have LM := PySem.W.exm_one (M := model X.prog X.w) (J3.kIn) LT hb1
    have test : ∀ {Q : Value → Shared → Prop} {E : Value → Shared → Prop}, Q c { s' with heap := h3 } → wpAny (model X.prog X.w) (X.A.mark (some (.ref a))) (eval (.Name x np) X.env) Q E { s' with heap := h3 } := fun {Q E} q => by
      obtain ⟨hg, hdbg, hm⟩ := hc
      rcases hm with hm | ⟨hm, hv, hnn⟩
      · exact ld_glob (X := X.suite a ((a, oe3) :: (X.pn ++ pins))) S3 hg hm q hdbg
      · exact ld_blt (X := X.suite a ((a, oe3) :: (X.pn ++ pins))) S3 hg hm hv q hnn hdbg
    refine test (LM.here ?_)
    cases b with
    | false =>
      show wpAny _ X.A (handleBy (.ref a) X.env hds2) _ _ _
      exact ih (hno rfl)
    | true =>
      refine codeAny_handlers_suite_as (HandSPX.lands_againZ fl3 fun h4 fl4 up4 => ?_)
      have J4 : Inv X pins σ' H' { s' with heap := h4 } := J.landed nb fl4.1 ((up.trans up3).trans up4) os ag
      obtain ⟨oe4, vs4, he4, hz4, hd4⟩ := fl4.there
      have S4 := J4.suite he4 hd4 na nL nF
      refine store_ok (X := X.suite a ((a, oe4) :: (X.pn ++ pins))) (v := .ref a) S4 hN hi hloc rfl (fun s5 S5 => ?_) (.inr hln)
      refine wpAny_mono ((hsu a oe4 cls d (X.pn ++ pins) hz4 ⟨_, hd4⟩).run [] s5 _ H' _ S5 (hyes rfl a na)) (fun f s6 hsp => ?_) (fun _ _ z => False.elim z)
      have fin : ∀ {σ6 : St} {H6 : Hp} {Q : Shared → Prop}, Inv (X.suite a ((a, oe4) :: (X.pn ++ pins))) [] σ6 H6 s6 → (∀ s7, Inv X pins (σ6.set i none) H6 s7 → Q s7) → wpAny (model X.prog X.w) X.A (do bindName X.env n .none; unbindBehindTheSuite X.env n pos') (fun _ s7 => Q s7) X.xe s6 := fun S6 hq => gone_ok (S6.unsuite ok) hN hi hln hq
      cases f with
      | next => exact (let ⟨σ6, H6, S6, q6⟩ := hsp; fin S6 fun s7 J7 => ⟨_, _, J7, q6⟩)
      | brk => exact (let ⟨σ6, H6, S6, q6⟩ := hsp; fin S6 fun s7 J7 => ⟨_, _, J7, q6⟩)
      | cont => exact (let ⟨σ6, H6, S6, q6⟩ := hsp; fin S6 fun s7 J7 => ⟨_, _, J7, q6⟩)
      | ret u => exact (let ⟨v6, σ6, H6, S6, r6, q6⟩ := hsp; fin S6 fun s7 J7 => ⟨_, _, _, J7, r6, q6⟩)
end L2
set_option pp.maxSteps 900
namespace Op
open PySem L2 PyProof.Rows
def sOut : List Str := ["begin", "answer", "rang", "signal"]
def sNum : List Str := ["answer", "rang", "dropped"]
def sLast : List Str := ["ended", "anew"]
/-- the names of the module histories -/
structure TxtH (P : Program) (w : World) (K : PySem.W.Frag) (mg : Str → Option Value) (pF pO pN pL CH CA : Addr) : Prop extends Txt mg where
  g_FORMS : mg "FORMS" = some (.ref pF)
  w_FORMS : WTab K w pF (forms.map fun p => (p.1, .str p.2))
  g_OUTER : mg "OUTER" = some (.ref pO)
  g_NUMBERED : mg "NUMBERED" = some (.ref pN)
  g_LAST : mg "LAST" = some (.ref pL)
  s_OUTER : ∀ H, SqT K H pO (sOut.map V.str)
  s_NUMBERED : ∀ H, SqT K H pN (sNum.map V.str)
  s_LAST : ∀ H, SqT K H pL (sLast.map V.str)
  g_InvalidHistory : mg "InvalidHistory" = some (.ref CH)
  k_InvalidHistory : PySem.W.keepIn K (.ref CH) = true
  mk_InvalidHistory : XMk P w K CH 1 [] (fun vs _ => [("at", vs.headD .non)])
  r_InvalidHistory : ∀ (M : Model) (h : Heap), K.In h → PySem.W.Looks M h (isSubtype (.ref CH) (.type "BaseException")) true ∧ PySem.W.Looks M h (typeOf (.ref CH)) (.type "type")
  g_InvalidArgument : mg "InvalidArgument" = some (.ref CA)
  k_InvalidArgument : PySem.W.keepIn K (.ref CA) = true
  mk_InvalidArgument : XMk P w K CA 1 [] (fun vs _ => [("part", vs.headD .non)])
  r_InvalidArgument : ∀ (M : Model) (h : Heap), K.In h → PySem.W.Looks M h (isSubtype (.ref CA) (.type "BaseException")) true ∧ PySem.W.Looks M h (typeOf (.ref CA)) (.type "type")
theorem dp_strsV {K : PySem.W.Frag} {H : Hp} : ∀ {zs : List Str} {vs : List V}, DpAll K H vs (zs.map PyData.str) → vs = zs.map V.str
  | [], _, .nil => rfl
  | z :: r, _, .cons (.str _) h => by rw [dp_strsV h]; rfl
theorem strs_dp {K : PySem.W.Frag} {H : Hp} : ∀ zs : List Str, DpAll K H (zs.map V.str) (zs.map PyData.str)
  | [] => .nil
  | z :: r => .cons (.str z) (strs_dp r)
/-- the value of a token -/
theorem tk_at {K : PySem.W.Frag} {H : Hp} {v : V} {t : Tk} (h : Dp K H v t.d) : ∃ a, v = .ref a ∧ SqT K H a t.vs := by
  obtain ⟨k, n, ws⟩ := t
  unfold Tk.d Tk.parts at h
  cases h with
  | @tup a xs _ hs ha =>
  refine ⟨a, rfl, ?_⟩
  cases ha with
  | cons h1 h2 =>
  cases h1 with
  | str k =>
  cases n with
  | none =>
    have := dp_strsV h2
    subst this
    exact hs
  | some i =>
    cases h2 with
    | cons h3 h4 =>
    cases h3 with
    | int j =>
    have := dp_strsV h4
    subst this
    exact hs
theorem tk_dp {K : PySem.W.Frag} {H : Hp} {a : Addr} {t : Tk} (h : SqT K H a t.vs) : Dp K H (.ref a) t.d := by
  obtain ⟨k, n, ws⟩ := t
  refine .tup h (.cons (.str k) ?_)
  cases n with
  | none => exact strs_dp ws
  | some i => exact .cons (.int i) (strs_dp ws)
theorem inV_st (z : Str) : ∀ zs : List Str, inV (.str z) (zs.map V.str) = decide (z ∈ zs)
  | [] => rfl
  | x :: r => by
    have ih := inV_st z r
    unfold inV at ih ⊢
    rw [List.map_cons, List.any_cons, ih]
    by_cases e : x = z
    · subst e
      rw [show eqV (.str x) (.str x) = true by simp [eqV], decide_eq_true List.mem_cons_self]
      rfl
    · rw [show eqV (.str x) (.str z) = false by simp [eqV, e], Bool.false_or]
      exact decide_eq_decide.mpr ⟨List.mem_cons_of_mem _, fun h => by
        rcases List.mem_cons.mp h with h | h
        · exact absurd h.symm e
        · exact h⟩
theorem flat_strs (zs : List Str) : (zs.map V.str).all flatV = true := List.all_eq_true.mpr fun v hv => by
  obtain ⟨z, _, rfl⟩ := List.mem_map.mp hv
  rfl
section
variable {P : Program} {w : World} {K : PySem.W.Frag} {mg : Str → Option Value} {base : Heap} {pF pO pN pL CH CA : Addr}
def spIsOut (K : PySem.W.Frag) : Sp := fun vs H Q _ => ∃ (v : V) (t : Tk), vs = [v] ∧ Dp K H v t.d ∧ Q (.bl (isOut t)) H
theorem sc_is_outer : FnScope ["token"] ["token"] (defScope s_is_outer) := ⟨rfl, rfl, rfl, by decide +kernel, rfl, by decide +kernel, by decide +kernel⟩
theorem ok_is_outer {f : Addr} {fd : FuncData} (F : Fun K "is_outer" "is_outer" s_is_outer f fd) (T : TxtH P w K mg pF pO pN pL CH CA) : FnOk P w K mg base CX0 1 f fd ["token"] (spIsOut K) := by
  refine F.ok sc_is_outer (fun vs H Q E h => ?_) (fun cdv A outer s H vs Q E hr h => ?_)
  · obtain ⟨v, t, rfl, _⟩ := h
    rfl
  · obtain ⟨v, t, rfl, hd, k⟩ := h
    obtain ⟨a, rfl, hq⟩ := tk_at hd
    refine ⟨_, (pss_one (ps_ret (pe_cmpR op_in_seq (pe_ix ix_tup (pv 0) pe_int (fun _ _ => rfl)) (pe_gref rfl T.g_OUTER) (by rfl)))), ?_⟩
    refine ⟨_, rfl, a, _, 0, _, rfl, rfl, hq, atI_zero _ _, pO, _, rfl, .inr (T.s_OUTER _), rfl, flat_strs _, ?_⟩
    rw [inV_st]
    exact k
/-- a token and the things that are known -/
def spSuits (K : PySem.W.Frag) : Sp := fun vs H Q _ => ∃ (v : V) (t : Tk) (l : Addr) (th : List Str), vs = [v, .ref l] ∧ Dp K H v t.d ∧ Okt t ∧ H l = some (.lst (th.map V.str)) ∧ th.length ≤ 100000 ∧ Q (.bl (suits t th)) H
theorem sc_suits_things : FnScope ["token", "things", "thing"] ["token", "things"] (defScope s_suits_things) := ⟨rfl, rfl, rfl, by decide +kernel, rfl, by decide +kernel, by decide +kernel⟩
theorem ok_suits {f : Addr} {fd : FuncData} (F : Fun K "suits_things" "suits_things" s_suits_things f fd) (T : TxtH P w K mg pF pO pN pL CH CA) : FnOk P w K mg base CX0 1 f fd ["token", "things"] (spSuits K) := by
  refine F.ok sc_suits_things (fun vs H Q E h => ?_) (fun cdv A outer s H vs Q E hr h => ?_)
  · obtain ⟨v, t, l, th, rfl, _⟩ := h
    rfl
  · obtain ⟨v, t, l, th, rfl, hd, ok, hl, htl, k⟩ := h
    obtain ⟨a, rfl, hq⟩ := tk_at hd
    have hn := num_iff ok.c
    refine ⟨_, (pss_cons (ps_if (pt_cmpR op_notIn_seq (pe_ix ix_tup (pv 0) pe_int (fun _ _ => rfl)) (pe_gref rfl T.g_NUMBERED) (by rfl)) (pss_one (ps_ret pe_bl)) pss_nil)
      (pss_cons (ps_if (pt_cmpR op_ge (pe_ix ix_tup (pv 0) pe_int (fun _ _ => rfl)) (pe_callB call_len_seq (by rfl) T.b_len (by decide +kernel) (pa_cons (pv 1) pa_nil)) (nomark _)) (pss_one (ps_ret pe_bl)) pss_nil)
      (pss_cons (ps_set (i := 2) sc_suits_things.nd rfl (.inl rfl) (pe_ix ix_list (pv 1) (pe_ix ix_tup (pv 0) pe_int (fun _ _ => rfl)) (fun _ _ => rfl)))
      (pss_cons (ps_if (pt_cmpR op_eq (pe_ix ix_tup (pv 0) pe_int (fun _ _ => rfl)) pe_str (nomark _)) (pss_one (ps_ret (pe_cmpR op_eq (pv 2) pe_str (nomark _)))) pss_nil)
      (pss_cons (ps_if (pt_cmpR op_eq (pe_ix ix_tup (pv 0) pe_int (fun _ _ => rfl)) pe_str (nomark _)) (pss_one (ps_ret (pe_cmpR op_eq (pv 2) pe_str (nomark _)))) pss_nil)
      (pss_one (ps_ret (pe_cmpR op_ne (pv 2) pe_str (nomark _))))))))), ?_⟩
    refine ⟨_, rfl, a, _, 0, _, rfl, rfl, hq, atI_zero _ _, pN, _, rfl, .inr (T.s_NUMBERED _), rfl, flat_strs _, _, rfl, ?_⟩
    rw [inV_st, show decide (t.k ∈ sNum) = t.n.isSome from hn]
    cases hc : t.n with
    | none =>
      refine ifT rfl ?_
      have : suits t th = true := by unfold suits; rw [hc]
      rw [this] at k
      exact k
    | some n =>
      refine ifF rfl ?_
      have hq1 : SqT K H a (.str t.k :: .int (n : Int) :: t.ws.map V.str) := by
        have : t.vs = .str t.k :: .int (n : Int) :: t.ws.map V.str := by unfold Tk.vs; rw [hc]; rfl
        rw [← this]
        exact hq
      refine ⟨_, rfl, a, _, 1, _, rfl, rfl, hq1, atI_one _ _ _, _, rfl, l, _, rfl, .inl (.inl (.inl hl)), _, _, rfl, rfl, _, rfl, ?_⟩
      rw [List.length_map]
      by_cases hnl : n < th.length
      · have hx : th[n]? = some th[n] := List.getElem?_eq_getElem hnl
        have e : suits t th = thingFits t.k th[n] := by unfold suits; rw [hc]; dsimp only; rw [hx]
        rw [e] at k
        generalize th[n] = x at hx k
        unfold thingFits at k
        refine ifF (decide_eq_false (by omega)) ?_
        refine ⟨_, rfl, _, rfl, a, _, 1, _, rfl, rfl, hq1, atI_one _ _ _, l, _, _, .str x, rfl, rfl, .inl (.inl hl), atI_nat (by rw [List.getElem?_map, hx]; rfl), ?_⟩
        refine ⟨_, rfl, a, _, 0, _, rfl, rfl, hq1, atI_zero _ _, rfl, _, rfl, ?_⟩
        rw [dec_strV]
        by_cases e1 : t.k = "answer"
        · rw [if_pos e1] at k
          refine ifT (decide_eq_true e1) ⟨_, rfl, rfl, ?_⟩
          rw [dec_strV]
          exact k
        · rw [if_neg e1] at k
          refine ifF (decide_eq_false e1) ⟨_, rfl, a, _, 0, _, rfl, rfl, hq1, atI_zero _ _, rfl, _, rfl, ?_⟩
          rw [dec_strV]
          by_cases e2 : t.k = "rang"
          · rw [if_pos e2] at k
            refine ifT (decide_eq_true e2) ⟨_, rfl, rfl, ?_⟩
            rw [dec_strV]
            exact k
          · rw [if_neg e2] at k
            refine ifF (decide_eq_false e2) ⟨_, rfl, rfl, ?_⟩
            rw [dec_strV]
            exact k
      · have hx : th[n]? = none := List.getElem?_eq_none (by omega)
        have e : suits t th = false := by unfold suits; rw [hc]; dsimp only; rw [hx]
        rw [e] at k
        exact ifT (decide_eq_true (by omega)) k
theorem numQ {K : PySem.W.Frag} {H : Hp} {a : Addr} {t : Tk} {n : Nat} (h : SqT K H a t.vs) (hc : t.n = some n) : SqT K H a (.str t.k :: .int (n : Int) :: t.ws.map V.str) := by
  have : t.vs = .str t.k :: .int (n : Int) :: t.ws.map V.str := by unfold Tk.vs; rw [hc]; rfl
  rw [← this]
  exact h
def spEnter (K : PySem.W.Frag) : Sp := fun vs H Q _ => ∃ (v : V) (t : Tk) (l : Addr) (th : List Str), vs = [v, .ref l] ∧ Dp K H v t.d ∧ Okt t ∧ H l = some (.lst (th.map V.str)) ∧ th.length < 100000 ∧ (∀ n, t.n = some n → n < th.length) ∧ Q .non (upd H l (.lst ((enter t th).map V.str)))
theorem sc_enter_token : FnScope ["token", "things"] ["token", "things"] (defScope s_enter_token) := ⟨rfl, rfl, rfl, by decide +kernel, rfl, by decide +kernel, by decide +kernel⟩
theorem ok_enter {f : Addr} {fd : FuncData} (F : Fun K "enter_token" "enter_token" s_enter_token f fd) (T : TxtH P w K mg pF pO pN pL CH CA) : FnOk P w K mg base CX0 1 f fd ["token", "things"] (spEnter K) := by
  refine F.ok sc_enter_token (fun vs H Q E h => ?_) (fun cdv A outer s H vs Q E hr h => ?_)
  · obtain ⟨v, t, l, th, rfl, _⟩ := h
    rfl
  · obtain ⟨v, t, l, th, rfl, hd, ok, hl, htl, hin, k⟩ := h
    obtain ⟨a, rfl, hq⟩ := tk_at hd
    have hn := num_iff ok.c
    have same : ∀ zs : List Str, zs = th → upd H l (.lst (zs.map V.str)) = H := fun zs e => by
      rw [e]
      funext b
      by_cases q : b = l
      · rw [q, upd_same, hl]
      · rw [L2.upd_ne q]
    unfold enter at k
    refine ⟨_, (pss_one (ps_if (pt_cmpR op_eq (pe_ix ix_tup (pv 0) pe_int (fun _ _ => rfl)) pe_str (nomark _)) (pss_one (ps_expr (pe_bm PySem.F.plainAttrs_list PySem.F.slot_list_append PySem.F.type_list_append mt_append (pv 1) (pa_cons pe_str pa_nil)))) (pss_one (ps_if (pt_cmpR op_eq (pe_ix ix_tup (pv 0) pe_int (fun _ _ => rfl)) pe_str (nomark _)) (pss_one (ps_expr (pe_bm PySem.F.plainAttrs_list PySem.F.slot_list_append PySem.F.type_list_append mt_append (pv 1) (pa_cons pe_str pa_nil)))) (pss_one (ps_if (pt_cmpR op_in_seq (pe_ix ix_tup (pv 0) pe_int (fun _ _ => rfl)) (pe_gref rfl T.g_NUMBERED) (by rfl)) (pss_one (ps_asg pe_str (pg_sub (pv 1) (pe_ix ix_tup (pv 0) pe_int (fun _ _ => rfl)) set_list))) pss_nil)))))), ?_⟩
    refine ⟨_, rfl, a, _, 0, _, rfl, rfl, hq, atI_zero _ _, rfl, _, rfl, ?_⟩
    rw [dec_strV]
    by_cases e1 : t.k = "asked"
    · rw [if_pos e1, List.map_append] at k
      exact ifT (decide_eq_true e1) ⟨_, rfl, .inl ⟨rfl, _, .inl (.inl hl)⟩, l, _, _, rfl, rfl, hl, lt_sz (by rw [List.length_map]; exact htl), k⟩
    rw [if_neg e1] at k
    refine ifF (decide_eq_false e1) ⟨_, rfl, a, _, 0, _, rfl, rfl, hq, atI_zero _ _, rfl, _, rfl, ?_⟩
    rw [dec_strV]
    by_cases e2 : t.k = "set"
    · rw [if_pos e2, List.map_append] at k
      exact ifT (decide_eq_true e2) ⟨_, rfl, .inl ⟨rfl, _, .inl (.inl hl)⟩, l, _, _, rfl, rfl, hl, lt_sz (by rw [List.length_map]; exact htl), k⟩
    rw [if_neg e2] at k
    refine ifF (decide_eq_false e2) ⟨_, rfl, a, _, 0, _, rfl, rfl, hq, atI_zero _ _, pN, _, rfl, .inr (T.s_NUMBERED _), rfl, flat_strs _, _, rfl, ?_⟩
    rw [inV_st, show decide (t.k ∈ sNum) = t.n.isSome from hn]
    cases hc : t.n with
    | none =>
      rw [hc, same _ rfl] at k
      exact ifF rfl k
    | some n =>
      rw [hc] at k
      refine ifT rfl ⟨_, rfl, _, rfl, a, _, 1, _, rfl, rfl, numQ hq hc, atI_one _ _ _, l, _, (n : Int), n, rfl, rfl, hl, ixN_nat (by rw [List.length_map]; exact hin n hc), ?_⟩
      rw [List.map_set] at k
      exact k
def spRen (K : PySem.W.Frag) : Sp := fun vs H Q _ => ∃ (v : V) (t : Tk) (n : Nat), vs = [v, .int (n : Int)] ∧ Dp K H v t.d ∧ Okt t ∧ t.n.isSome = true ∧ ∀ v' H', Same H H' → Dp K H' v' (ren t n).d → Q v' H'
theorem sc_renamed : FnScope ["token", "number"] ["token", "number"] (defScope s_renamed) := ⟨rfl, rfl, rfl, by decide +kernel, rfl, by decide +kernel, by decide +kernel⟩
theorem ok_renamed {f : Addr} {fd : FuncData} (F : Fun K "renamed" "renamed" s_renamed f fd) : FnOk P w K mg base CX0 1 f fd ["token", "number"] (spRen K) := by
  refine F.ok sc_renamed (fun vs H Q E h => ?_) (fun cdv A outer s H vs Q E hr h => ?_)
  · obtain ⟨v, t, n, rfl, _⟩ := h
    rfl
  · obtain ⟨v, t, n, rfl, hd, ok, hs, k⟩ := h
    obtain ⟨a, rfl, hq⟩ := tk_at hd
    have hc := ok.c
    refine ⟨_, (pss_cons (ps_if (pt_cmpR op_eq (pe_ix ix_tup (pv 0) pe_int (fun _ _ => rfl)) pe_str (nomark _)) (pss_one (ps_ret (pe_tup (pa_cons pe_str (pa_cons (pv 1) (pa_cons (pe_ix ix_tup (pv 0) pe_int (fun _ _ => rfl)) pa_nil)))))) pss_nil)
      (pss_one (ps_ret (pe_tup (pa_cons (pe_ix ix_tup (pv 0) pe_int (fun _ _ => rfl)) (pa_cons (pv 1) pa_nil)))))), ?_⟩
    refine ⟨_, rfl, a, _, 0, _, rfl, rfl, hq, atI_zero _ _, rfl, _, rfl, ?_⟩
    rw [dec_strV]
    cases hc with
    | @answer m w hw =>
      refine ifT rfl ⟨_, rfl, _, rfl, a, _, 2, _, rfl, rfl, hq, rfl, sz_lit (by show 3 ≤ 100000; decide), fun q hq' => ?_⟩
      exact k _ _ (Same.new hq') (tk_dp (t := ren ⟨"answer", some m, [w]⟩ n) (.inl (.inl upd_same)))
    | @rang m =>
      refine ifF (show decide (("rang" : Str) = "answer") = false by decide +kernel) ⟨_, rfl, a, _, 0, _, rfl, rfl, hq, atI_zero _ _, _, rfl, sz2 _ _, fun q hq' => ?_⟩
      exact k _ _ (Same.new hq') (tk_dp (t := ren ⟨"rang", some m, []⟩ n) (.inl (.inl upd_same)))
    | @dropped m =>
      refine ifF (show decide (("dropped" : Str) = "answer") = false by decide +kernel) ⟨_, rfl, a, _, 0, _, rfl, rfl, hq, atI_zero _ _, _, rfl, sz2 _ _, fun q hq' => ?_⟩
      exact k _ _ (Same.new hq') (tk_dp (t := ren ⟨"dropped", some m, []⟩ n) (.inl (.inl upd_same)))
    | _ => cases hs
end
end Op
set_option pp.maxSteps 500
namespace Op
open PySem L2 PyProof.Rows
theorem forms_look (x : Str) : (forms.map fun p => (p.1, V.str p.2)).lookup x = (forms.lookup x).map V.str := by
  generalize forms = l
  induction l with
  | nil => rfl
  | cons p r ih =>
    obtain ⟨a, b⟩ := p
    simp only [List.map_cons, List.lookup_cons]
    cases x == a with
    | true => rfl
    | false => exact ih
theorem cut1 (v : V) (r : List V) : cutV (v :: r) (some 1) none = r := by
  unfold cutV
  rw [HT.sIx_none, show (1 : Int) = ((1 : Nat) : Int) from rfl, HT.sIx_nat, List.length_cons, show min 1 (r.length + 1) = 1 by omega]
  show r.take (r.length + 1 - 1) = r
  rw [List.take_of_length_le (by omega)]
theorem cut1n (v : V) (r : List V) : ¬ (HT.sIx (v :: r).length 0 (some 1) = 0 ∧ HT.sIx (v :: r).length (v :: r).length none = (v :: r).length) := by
  rw [show (1 : Int) = ((1 : Nat) : Int) from rfl, HT.sIx_nat, List.length_cons]
  omega
theorem forms_ok {k f : Str} (h : forms.lookup k = some f) : f.length ≤ 4 ∧ ∀ c ∈ f.cps.toList, c = 119 ∨ c = 110 := by
  have key : ∀ (l : List (Str × Str)) (kind sh : Str), l.all (fun p => decide (p.2.length ≤ 4) && p.2.cps.toList.all fun c => decide (c = 119 ∨ c = 110)) = true → l.lookup kind = some sh → sh.length ≤ 4 ∧ ∀ c ∈ sh.cps.toList, c = 119 ∨ c = 110 := by
    intro l
    induction l with
    | nil => intro kind sh _ h; cases h
    | cons p r ih =>
      intro kind sh ha h
      obtain ⟨a, b⟩ := p
      obtain ⟨h1, h2⟩ := Bool.and_eq_true_iff.mp ha
      rw [List.lookup_cons] at h
      cases q : kind == a with
      | true =>
        rw [q] at h
        obtain rfl := Option.some.inj h
        obtain ⟨h3, h4⟩ := Bool.and_eq_true_iff.mp h1
        exact ⟨of_decide_eq_true h3, fun c hc => of_decide_eq_true (List.all_eq_true.mp h4 c hc)⟩
      | false =>
        rw [q] at h
        exact ih kind sh h2 h
  exact key forms k f (by decide +kernel) h
/-- the parts of a tuple are not too long -/
def Short (d : PyData) : Prop := ∀ k ps, d = .tuple (k :: ps) → ∀ x, PyData.str x ∈ ps → x.length ≤ 100000
theorem parts_of : ∀ {cs : List Nat} {ds : List PyData}, cs.length = ds.length → (∀ c ∈ cs, c = 119 ∨ c = 110) → (cs.zip ds).all (fun p => codeFits p.1 p.2) = true → ∀ (nw : cs = [119] ∨ cs = [110, 119] ∨ cs = [110] ∨ cs = [119, 119] ∨ cs = []), ∃ (n : Option Nat) (ws : List Str), ds = (n.toList.map fun n : Nat => PyData.int (n : Int)) ++ ws.map .str ∧ cs = (n.toList.map fun _ => 110) ++ ws.map (fun _ => 119) ∧ ∀ w ∈ ws, isWordS w = true := by
  have word : ∀ d, codeFits 119 d = true → ∃ w, d = .str w ∧ isWordS w = true := fun d h => by
    unfold codeFits at h
    rw [if_pos rfl] at h
    cases d with
    | str w => exact ⟨w, rfl, h⟩
    | _ => cases h
  have num : ∀ d, codeFits 110 d = true → ∃ n : Nat, d = .int (n : Int) := fun d h => by
    unfold codeFits at h
    rw [if_neg (by decide)] at h
    cases d with
    | int i => exact ⟨i.toNat, by have := of_decide_eq_true h; congr 1; omega⟩
    | _ => cases h
  intro cs ds hl _ ha nw
  rcases nw with rfl | rfl | rfl | rfl | rfl
  · obtain ⟨d, rfl⟩ := List.length_eq_one_iff.mp hl.symm
    simp only [List.zip_cons_cons, List.zip_nil_left, List.all_cons, List.all_nil, Bool.and_true] at ha
    obtain ⟨w, rfl, hw⟩ := word d ha
    exact ⟨none, [w], rfl, rfl, fun x hx => by rw [List.mem_singleton.mp hx]; exact hw⟩
  · match ds, hl with
    | [d, e], _ =>
    simp only [List.zip_cons_cons, List.zip_nil_left, List.all_cons, List.all_nil, Bool.and_true, Bool.and_eq_true] at ha
    obtain ⟨n, rfl⟩ := num d ha.1
    obtain ⟨w, rfl, hw⟩ := word e ha.2
    exact ⟨some n, [w], rfl, rfl, fun x hx => by rw [List.mem_singleton.mp hx]; exact hw⟩
  · obtain ⟨d, rfl⟩ := List.length_eq_one_iff.mp hl.symm
    simp only [List.zip_cons_cons, List.zip_nil_left, List.all_cons, List.all_nil, Bool.and_true] at ha
    obtain ⟨n, rfl⟩ := num d ha
    exact ⟨some n, [], rfl, rfl, fun x hx => (List.not_mem_nil hx).elim⟩
  · match ds, hl with
    | [d, e], _ =>
    simp only [List.zip_cons_cons, List.zip_nil_left, List.all_cons, List.all_nil, Bool.and_true, Bool.and_eq_true] at ha
    obtain ⟨v, rfl, hv⟩ := word d ha.1
    obtain ⟨w, rfl, hw⟩ := word e ha.2
    refine ⟨none, [v, w], rfl, rfl, fun x hx => ?_⟩
    rcases List.mem_cons.mp hx with rfl | hx
    · exact hv
    · rw [List.mem_singleton.mp hx]; exact hw
  · obtain rfl : ds = [] := List.length_eq_zero_iff.mp hl.symm
    exact ⟨none, [], rfl, rfl, fun x hx => (List.not_mem_nil hx).elim⟩
theorem sig_forms {k f : Str} (h : forms.lookup k = some f) : f.cps.toList = [119] ∨ f.cps.toList = [110, 119] ∨ f.cps.toList = [110] ∨ f.cps.toList = [119, 119] ∨ f.cps.toList = [] := by
  have hm := look_mem h
  have key : forms.all (fun p => decide (p.2.cps.toList = [119] ∨ p.2.cps.toList = [110, 119] ∨ p.2.cps.toList = [110] ∨ p.2.cps.toList = [119, 119] ∨ p.2.cps.toList = [])) = true := by decide +kernel
  exact of_decide_eq_true (List.all_eq_true.mp key _ hm)
theorem hform {k f : Str} {parts : List PyData} (h : forms.lookup k = some f) (hl : parts.length = f.length) (ha : (f.cps.toList.zip parts).all (fun p => codeFits p.1 p.2) = true) : hasForm (.tuple (.str k :: parts)) = true := by
  unfold hasForm
  dsimp only
  rw [h]
  dsimp only
  rw [decide_eq_true hl, ha]
  rfl
theorem fit_w {w : Str} (h : isWordS w = true) : codeFits 119 (.str w) = true := by
  unfold codeFits
  rw [if_pos rfl]
  exact h
theorem fit_n (n : Nat) : codeFits 110 (.int (n : Int)) = true := by
  unfold codeFits
  rw [if_neg (by decide)]
  exact decide_eq_true (by omega)
theorem hform_w {k w : Str} (h : forms.lookup k = some "w") (hw : isWordS w = true) : hasForm (Tk.d ⟨k, none, [w]⟩) = true :=
  hform h rfl (by show (codeFits 119 (.str w) && true) = true; rw [fit_w hw]; rfl)
theorem hform_n {k : Str} {n : Nat} (h : forms.lookup k = some "n") : hasForm (Tk.d ⟨k, some n, []⟩) = true :=
  hform h rfl (by show (codeFits 110 (.int (n : Int)) && true) = true; rw [fit_n]; rfl)
/-- what has a form is a token -/
theorem hasForm_iff (d : PyData) : hasForm d = true ↔ ∃ t, Okt t ∧ d = t.d := by
  constructor
  · intro h
    unfold hasForm at h
    split at h
    · rename_i k parts
      split at h
      · cases h
      · rename_i f hf
        obtain ⟨h1, h2⟩ := Bool.and_eq_true_iff.mp h
        have h1 := of_decide_eq_true h1
        obtain ⟨n, ws, h3, h4, h5⟩ := parts_of (cs := f.cps.toList) (ds := parts) (h1.symm) (forms_ok hf).2 h2 (sig_forms hf)
        exact ⟨⟨k, n, ws⟩, ⟨f, hf, h4, h5⟩, by unfold Tk.d Tk.parts; rw [← h3]⟩
    · cases h
  · rintro ⟨t, ok, rfl⟩
    cases ok.c with
    | begin hw => exact hform_w (by decide +kernel) hw
    | answer hw => exact hform (show forms.lookup ("answer" : Str) = some ("nw" : Str) by decide +kernel) rfl (by show (codeFits 110 _ && (codeFits 119 _ && true)) = true; rw [fit_n, fit_w hw]; rfl)
    | rang => exact hform_n (by decide +kernel)
    | signal ha hb => exact hform (show forms.lookup ("signal" : Str) = some ("ww" : Str) by decide +kernel) rfl (by show (codeFits 119 _ && (codeFits 119 _ && true)) = true; rw [fit_w ha, fit_w hb]; rfl)
    | asked hw => exact hform_w (by decide +kernel) hw
    | set => exact hform (show forms.lookup ("set" : Str) = some ("" : Str) by decide +kernel) rfl rfl
    | dropped => exact hform_n (by decide +kernel)
    | noted hw => exact hform_w (by decide +kernel) hw
    | marked hw => exact hform_w (by decide +kernel) hw
    | ended hw => exact hform_w (by decide +kernel) hw
    | anew hw => exact hform_w (by decide +kernel) hw
section
variable {P : Program} {w : World} {K : PySem.W.Frag} {mg : Str → Option Value} {base : Heap} {pF pO pN pL CH CA : Addr}
def spForm (K : PySem.W.Frag) : Sp := fun vs H Q _ => ∃ (v : V) (d : PyData), vs = [v] ∧ Dp K H v d ∧ Short d ∧ ∀ H', Same H H' → Q (.bl (hasForm d)) H'
theorem sc_has_form : FnScope ["token", "code", "part"] ["token"] (defScope s_has_form) := ⟨rfl, rfl, rfl, by decide +kernel, rfl, by decide +kernel, by decide +kernel⟩
theorem ok_has_form {f : Addr} {fd : FuncData} (F : Fun K "has_form" "has_form" s_has_form f fd) (T : TxtH P w K mg pF pO pN pL CH CA) (c_is_word : Cal P w K mg base CX0 1 "is_word" ["value"] (spWord K)) (c_is_integer : Cal P w K mg base CX0 1 "is_integer" ["value"] (spInt K)) : FnOk P w K mg base CX0 2 f fd ["token"] (spForm K) := by
  refine F.ok sc_has_form (fun vs H Q E h => ?_) (fun cdv A outer s H vs Q E hr h => ?_)
  · obtain ⟨v, d, rfl, _⟩ := h
    rfl
  · obtain ⟨v, d, rfl, hd, hsh, k⟩ := h
    refine ⟨_, (pss_cons (ps_if (PW.pt (pw_or (pt_not (pt_val (pe_callB call_isi (by rfl) T.b_isinstance (by decide +kernel) (pa_cons (pv 0) (pa_cons (pe_bltn (v := .ty "tuple") (by rfl) T.b_tuple (by decide +kernel) rfl) pa_nil))))) (pw_or (pt_cmpR op_eq (pe_callB call_len_seq (by rfl) T.b_len (by decide +kernel) (pa_cons (pv 0) pa_nil)) pe_int (nomark _)) (pw_or1 (pt_not (pt_val (pe_callB call_isi (by rfl) T.b_isinstance (by decide +kernel) (pa_cons (pe_ix ix_tup (pv 0) pe_int (fun _ _ => rfl)) (pa_cons (pe_bltn (v := .ty "str") (by rfl) T.b_str (by decide +kernel) rfl) pa_nil))))))))) (pss_one (ps_ret pe_bl)) pss_nil)
      (pss_cons (ps_if (PW.pt (pw_or (pt_cmpR op_notIn_wtab (pe_ix ix_tup (pv 0) pe_int (fun _ _ => rfl)) (pe_gref rfl T.g_FORMS) (by rfl)) (pw_or1 (pt_cmpR op_ne (pe_callB call_len_seq (by rfl) T.b_len (by decide +kernel) (pa_cons (pv 0) pa_nil)) (pe_op op_add pe_int (pe_callB call_len_str (by rfl) T.b_len (by decide +kernel) (pa_cons (pe_ix ix_wtab (pe_gref rfl T.g_FORMS) (pe_ix ix_tup (pv 0) pe_int (fun _ _ => rfl)) (fun _ _ => rfl)) pa_nil))) (nomark _))))) (pss_one (ps_ret pe_bl)) pss_nil)
      (pss_cons (ps_for PassesOwn.never rfl (pi_zipS (by rfl) T.b_zip (pa_cons (pe_ix ix_wtab (pe_gref rfl T.g_FORMS) (pe_ix ix_tup (pv 0) pe_int (fun _ _ => rfl)) (fun _ _ => rfl)) (pa_cons (pe_slice sl_tupA (pv 0) (po_some pe_int) po_none) pa_nil))) (pg_tup rfl (pgs_cons (pg_name (i := 1) sc_has_form.nd rfl (.inl rfl)) (pgs_cons (pg_name (i := 2) sc_has_form.nd rfl (.inl rfl)) pgs_nil))) (pss_cons (ps_if (PW.pt (pw_and (pt_cmpR op_eq (pv 1) pe_str (nomark _)) (pw_and1 (pt_not (pt_val (pe_cal c_is_word (hr.mono (by omega)) rfl pass0 (pa_cons (pv 2) pa_nil))))))) (pss_one (ps_ret pe_bl)) pss_nil)
      (pss_one (ps_if (PW.pt (pw_and (pt_cmpR op_eq (pv 1) pe_str (nomark _)) (pw_and1 (PW.pt (pw_or (pt_not (pt_val (pe_cal c_is_integer (hr.mono (by omega)) rfl pass0 (pa_cons (pv 2) pa_nil)))) (pw_or1 (pt_cmpR op_lt (pv 2) pe_int (nomark _)))))))) (pss_one (ps_ret pe_bl)) pss_nil))))
      (pss_one (ps_ret pe_bl))))), ?_⟩
    refine ⟨_, rfl, v, _, _, _, _, rfl, .ty _, ty_dp hd, kit_tuple d, _, rfl, ?_⟩
    cases hd with
    | @tup t xs ds hq ha =>
      refine ifF rfl ⟨_, rfl, t, xs, rfl, .inr hq, rfl, _, rfl, ?_⟩
      cases ha with
      | nil => exact ifT rfl (ifT rfl (k _ (Same.refl _)))
      | @cons v0 vr d0 dr h0 hr0 =>
      refine ifF (decide_eq_false (by intro z; injection z with z; rw [List.length_cons] at z; omega)) ?_
      refine ⟨_, rfl, t, _, 0, _, rfl, rfl, hq, atI_zero _ _, v0, _, _, _, _, rfl, .ty _, ty_dp h0, kit_str d0, _, rfl, ?_⟩
      cases h0 with
      | str kind =>
        refine ifF rfl ?_
        refine ⟨_, rfl, t, _, 0, _, rfl, rfl, hq, atI_zero _ _, pF, kind, _, rfl, rfl, T.w_FORMS, _, rfl, ?_⟩
        rw [forms_look]
        unfold hasForm at k
        dsimp only at k
        cases hf : forms.lookup kind with
        | none =>
          rw [hf] at k
          exact ifT rfl (ifT rfl (k _ (Same.refl _)))
        | some sh =>
        rw [hf] at k
        dsimp only at k
        have hsl := (forms_ok hf).1
        have hvl := hr0.len
        refine ifF rfl ⟨_, rfl, t, _, rfl, .inr hq, _, rfl, t, _, 0, _, rfl, rfl, hq, atI_zero _ _, pF, kind, _, .str sh, rfl, rfl, T.w_FORMS, by rw [forms_look, hf]; rfl, sh, rfl, sz_lit (by omega), _, _, rfl, rfl, rfl, _, rfl, ?_⟩
        have el : decide (V.int ((V.str kind :: vr).length : Nat) = V.int (1 + (sh.length : Nat))) = decide (dr.length = sh.length) := by
          rw [Bool.eq_iff_iff, decide_eq_true_iff, decide_eq_true_iff, List.length_cons]
          constructor
          · intro z; injection z with z; omega
          · intro z; congr 1; omega
        rw [el]
        by_cases e3 : ¬ dr.length = sh.length
        · rw [decide_eq_false e3, Bool.false_and] at k
          rw [decide_eq_false e3]
          exact ifT rfl (k _ (Same.refl _))
        have e3 : dr.length = sh.length := Decidable.byContradiction e3
        rw [decide_eq_true e3, Bool.true_and] at k
        rw [decide_eq_true e3]
        refine ifF rfl ⟨_, rfl, t, _, 0, _, rfl, rfl, hq, atI_zero _ _, pF, kind, _, .str sh, rfl, rfl, T.w_FORMS, by rw [forms_look, hf]; rfl, _, rfl, 1, rfl, t, _, rfl, hq, fun z => absurd z (cut1n _ _), fun _ p hp => ?_⟩
        rw [cut1]
        have sm : Same H (upd H p (.tup vr)) := Same.new hp
        refine ⟨sh, p, vr, rfl, .inl (.inl upd_same), ?_⟩
        have hlen : sh.cps.size = dr.length := e3.symm
        refine for_zipS (by omega) (fun i σ H' => (∃ y1 y2 : Option V, σ = [some (.ref t), y1, y2]) ∧ Same H H' ∧ SqT K H' p vr ∧ ((sh.cps.toList.zip dr).take i).all (fun p => codeFits p.1 p.2) = true) ⟨⟨_, _, rfl⟩, sm, .inl (.inl upd_same), rfl⟩ (fun i σ H' q => q.2.2.1) ?_ ?_
        · rintro i ch y T0 σ H' h1 h2 ⟨⟨y1, y2, rfl⟩, s1, hp1, hall⟩ hT0
          obtain ⟨d, h3, hdy⟩ := hr0.get h2
          have sm1 : Same H' (upd H' T0 (.tup [.str ⟨#[ch]⟩, y])) := Same.new hT0
          have hz : (sh.cps.toList.zip dr)[i]? = some (ch, d) := by
            rw [List.getElem?_zip_eq_some]
            exact ⟨by rw [Array.getElem?_toList]; exact h1, h3⟩
          refine ⟨T0, _, rfl, .inl (.inl upd_same), rfl, _, _, rfl, _, _, rfl, rfl, ?_⟩
          have s2 := s1.trans sm1
          have hp2 := hp1.mono sm1
          revert s2 hp2
          generalize upd H' T0 (.tup [.str ⟨#[ch]⟩, y]) = H2
          intro s2 hp2
          have hdy2 := hdy.mono s2
          have hch := (forms_ok hf).2 ch (by rw [Array.mem_toList_iff]; exact Array.mem_of_getElem? h1)
          have go : ∀ b, codeFits ch d = b → (if b = true then ((sh.cps.toList.zip dr).take (i + 1)).all (fun p => codeFits p.1 p.2) = true else (sh.cps.toList.zip dr).all (fun p => codeFits p.1 p.2) = false) := fun b hb => by
            cases b with
            | true =>
              rw [if_pos rfl, TS.take_one hz, List.all_append, hall]
              simp [hb]
            | false =>
              rw [if_neg Bool.false_ne_true]
              refine Bool.eq_false_iff.mpr fun z => ?_
              have := List.all_eq_true.mp z (ch, d) (List.mem_of_getElem? hz)
              dsimp only at this
              rw [hb] at this
              cases this
          refine ⟨_, rfl, rfl, _, rfl, ?_⟩
          rcases hch with rfl | rfl
          · refine ifT (by decide +kernel) ⟨_, rfl, y, d, rfl, hdy2, fun x e => hsh _ _ rfl x (e ▸ List.mem_of_getElem? h3), _, rfl, ?_⟩
            have g := go _ (show codeFits 119 d = isWord d by unfold codeFits; rw [if_pos rfl])
            revert g
            cases isWord d with
            | true =>
              intro g
              rw [if_pos rfl] at g
              exact ifF rfl ⟨_, rfl, rfl, _, rfl, ifF (by decide +kernel) ⟨⟨_, _, rfl⟩, s2, hp2, g⟩⟩
            | false =>
              intro g
              rw [if_neg Bool.false_ne_true] at g
              rw [g] at k
              exact ifT rfl (k _ s2)
          · refine ifF (by decide +kernel) ⟨_, rfl, rfl, _, rfl, ifT (by decide +kernel) ⟨_, rfl, y, d, rfl, hdy2, _, rfl, ?_⟩⟩
            have yes : isInt d = false ∨ (∃ n : Int, d = .int n ∧ n < 0) → Q (.bl false) H2 := fun h => by
              have g := go false (by
                unfold codeFits
                rw [if_neg (by decide)]
                rcases h with h | ⟨n, rfl, h⟩
                · cases d <;> first | rfl | cases h
                · exact decide_eq_false (by omega))
              rw [if_neg Bool.false_ne_true] at g
              rw [g] at k
              exact k _ s2
            cases hdy2 with
            | int n =>
              refine ifF rfl ⟨_, rfl, _, _, rfl, rfl, _, rfl, ?_⟩
              by_cases hn : n < 0
              · exact ifT (decide_eq_true hn) (yes (.inr ⟨n, rfl, hn⟩))
              · have g := go true (by unfold codeFits; rw [if_neg (by decide)]; exact decide_eq_true (by omega))
                rw [if_pos rfl] at g
                exact ifF (decide_eq_false hn) ⟨⟨_, _, rfl⟩, s2, hp2, g⟩
            | _ => exact ifT rfl (ifT rfl (yes (.inl rfl)))
        · rintro σ H' ⟨⟨y1, y2, rfl⟩, s1, _, hall⟩
          rw [List.take_of_length_le (by rw [List.length_zip, Array.length_toList]; omega)] at hall
          rw [hall] at k
          exact k _ s1
      | _ => exact ifT rfl (k _ (Same.refl _))
    | _ => exact ifT rfl (ifT rfl (k _ (Same.refl _)))
end
end Op
set_option pp.maxSteps 500
namespace Op
open PySem L2 PyProof.Rows
theorem sqt_updL {K : PySem.W.Frag} {H : Hp} {a D : Addr} {xs ys : List V} {o : HO} (h : SqT K H a xs) (hD : H D = some (.lst ys)) : SqT K (upd H D o) a xs := by
  rcases h with (h | ⟨u, h⟩) | h
  · exact .inl (.inl (by rw [L2.upd_ne fun q => by rw [q, hD] at h; cases h]; exact h))
  · exact .inl (.inr ⟨u, by rw [L2.upd_ne fun q => by rw [q, hD] at h; cases h]; exact h⟩)
  · exact .inr h
/-- tokens at a list of values -/
def Tks (K : PySem.W.Frag) (H : Hp) (vs : List V) (ts : List Tk) : Prop := DpAll K H vs (ts.map Tk.d)
theorem Tks.mono {K : PySem.W.Frag} {H H' : Hp} {vs : List V} {ts : List Tk} (h : Tks K H vs ts) (s : Same H H') : Tks K H' vs ts := DpAll.mono s h
theorem tk_updL {K : PySem.W.Frag} {H : Hp} {D : Addr} {ys : List V} {o : HO} {v : V} {t : Tk} (h : Dp K H v t.d) (hD : H D = some (.lst ys)) : Dp K (upd H D o) v t.d := by
  obtain ⟨a, rfl, hq⟩ := tk_at h
  exact tk_dp (sqt_updL hq hD)
theorem Tks.updL {K : PySem.W.Frag} {H : Hp} {D : Addr} {ys : List V} {o : HO} (hD : H D = some (.lst ys)) : ∀ {vs : List V} {ts : List Tk}, Tks K H vs ts → Tks K (upd H D o) vs ts
  | _, [], .nil => .nil
  | _, t :: r, .cons h1 h2 => .cons (tk_updL h1 hD) (Tks.updL hD (ts := r) h2)
theorem Tks.app {K : PySem.W.Frag} {H : Hp} : ∀ {vs us : List V} {ts rs : List Tk}, Tks K H vs ts → Tks K H us rs → Tks K H (vs ++ us) (ts ++ rs)
  | _, _, [], _, .nil, h => h
  | _, _, t :: r, _, .cons h1 h2, h => .cons h1 (Tks.app (ts := r) h2 h)
theorem Tks.one {K : PySem.W.Frag} {H : Hp} {v : V} {t : Tk} (h : Dp K H v t.d) : Tks K H [v] [t] := .cons h .nil
theorem Tks.len {K : PySem.W.Frag} {H : Hp} {vs : List V} {ts : List Tk} (h : Tks K H vs ts) : vs.length = ts.length := by
  have := DpAll.len h
  rw [List.length_map] at this
  exact this
theorem Tks.get {K : PySem.W.Frag} {H : Hp} {vs : List V} {ts : List Tk} {i : Nat} {v : V} (h : Tks K H vs ts) (hv : vs[i]? = some v) : ∃ t, ts[i]? = some t ∧ Dp K H v t.d := by
  obtain ⟨d, h1, h2⟩ := DpAll.get h hv
  rw [List.getElem?_map] at h1
  cases q : ts[i]? with
  | none => rw [q] at h1; cases h1
  | some t =>
    rw [q] at h1
    obtain rfl := Option.some.inj h1
    exact ⟨t, rfl, h2⟩
/-- turns at a list -/
def TR (K : PySem.W.Frag) (H : Hp) (q : Addr) (tss : List (List Tk)) : Prop := ∃ ps : List Addr, H q = some (.lst (ps.map V.ref)) ∧ ps.length = tss.length ∧ ∀ (i : Nat) (p : Addr) (ts : List Tk), ps[i]? = some p → tss[i]? = some ts → ∃ vs, H p = some (.lst vs) ∧ Tks K H vs ts
theorem TR.mono {K : PySem.W.Frag} {H H' : Hp} {q : Addr} {tss : List (List Tk)} (h : TR K H q tss) (s : Same H H') : TR K H' q tss := by
  obtain ⟨ps, h1, h2, h3⟩ := h
  refine ⟨ps, s _ _ h1, h2, fun i p ts e1 e2 => ?_⟩
  obtain ⟨vs, h4, h5⟩ := h3 i p ts e1 e2
  exact ⟨vs, s _ _ h4, h5.mono s⟩
/-- new turns at a new list -/
def TT (K : PySem.W.Frag) (H0 H : Hp) (q : Addr) (tss : List (List Tk)) : Prop := ∃ ps : List Addr, H q = some (.lst (ps.map V.ref)) ∧ H0 q = none ∧ ps.Nodup ∧ q ∉ ps ∧ (∀ p ∈ ps, H0 p = none) ∧ ps.length = tss.length ∧
  ∀ (i : Nat) (p : Addr) (ts : List Tk), ps[i]? = some p → tss[i]? = some ts → ∃ vs, H p = some (.lst vs) ∧ Tks K H vs ts
theorem TT.r {K : PySem.W.Frag} {H0 H : Hp} {q : Addr} {tss : List (List Tk)} (h : TT K H0 H q tss) : TR K H q tss :=
  let ⟨ps, h1, _, _, _, _, h2, h3⟩ := h
  ⟨ps, h1, h2, h3⟩
theorem Same.updN {H H' : Hp} {a : Addr} {o : HO} (s : Same H H') (h : H a = none) : Same H (upd H' a o) := fun b u e => by
  rw [L2.upd_ne (ne_of_none e h)]
  exact s b u e
theorem TT.nil {K : PySem.W.Frag} {H0 H : Hp} {q : Addr} (h : H q = some (.lst [])) (h0 : H0 q = none) : TT K H0 H q [] :=
  ⟨[], h, h0, List.nodup_nil, List.not_mem_nil, fun p hp => (List.not_mem_nil hp).elim, rfl, fun i p ts e => by cases e⟩
/-- a new turn of its own behind the turns -/
theorem TT.push {K : PySem.W.Frag} {H0 H : Hp} {q p : Addr} {tss : List (List Tk)} {ps : List Addr} {vs : List V} {ts : List Tk} (h : TT K H0 H q tss) (hq : H q = some (.lst (ps.map V.ref))) (hp : H p = some (.lst vs)) (hn : p ∉ ps) (hpq : p ≠ q) (h0 : H0 p = none) (ht : Tks K H vs ts) :
    TT K H0 (upd H q (.lst (ps.map V.ref ++ [.ref p]))) q (tss ++ [ts]) := by
  obtain ⟨ps', h1, h2, h3, h4, h5, h6, h7⟩ := h
  obtain rfl : ps' = ps := by
    rw [hq] at h1
    injection h1 with h1
    injection h1 with h1
    exact (List.map_inj_right (fun a b e => by injection e)).mp h1.symm
  refine ⟨ps' ++ [p], by rw [upd_same, List.map_append]; rfl, h2, List.nodup_append.mpr ⟨h3, List.pairwise_singleton _ _, fun a ha b hb => by rw [List.mem_singleton.mp hb]; exact fun e => hn (e ▸ ha)⟩, fun z => ?_, fun b hb => ?_, by rw [List.length_append, List.length_append, h6]; rfl, fun i b us e1 e2 => ?_⟩
  · rcases List.mem_append.mp z with z | z
    · exact h4 z
    · exact hpq (List.mem_singleton.mp z).symm
  · rcases List.mem_append.mp hb with z | z
    · exact h5 b z
    · rw [List.mem_singleton.mp z]; exact h0
  · by_cases hi : i < ps'.length
    · rw [List.getElem?_append_left hi] at e1
      rw [List.getElem?_append_left (by omega)] at e2
      obtain ⟨ws, h8, h9⟩ := h7 i b us e1 e2
      have hb : b ≠ q := fun e => h4 (e ▸ List.mem_of_getElem? e1)
      exact ⟨ws, by rw [L2.upd_ne hb]; exact h8, h9.updL hq⟩
    · rw [List.getElem?_append_right (by omega)] at e1
      rw [List.getElem?_append_right (by omega)] at e2
      obtain ⟨z1, z2⟩ : b = p ∧ us = ts := by
        rw [← h6] at e2
        cases hz : i - ps'.length with
        | zero =>
          rw [hz] at e1 e2
          exact ⟨(Option.some.inj e1).symm, (Option.some.inj e2).symm⟩
        | succ n => rw [hz] at e1; cases e1
      subst z1 z2
      exact ⟨vs, by rw [L2.upd_ne hpq]; exact hp, ht.updL hq⟩
/-- a token behind the last turn -/
theorem TT.last {K : PySem.W.Frag} {H0 H : Hp} {q p : Addr} {tss : List (List Tk)} {ps : List Addr} {v : V} {t : Tk} (h : TT K H0 H q tss) (hq : H q = some (.lst (ps.map V.ref))) (hp : ps.getLast? = some p) (ht : Dp K H v t.d) :
    ∃ vs, H p = some (.lst vs) ∧ H0 p = none ∧ Tks K H vs (tss.getLastD []) ∧ TT K H0 (upd H p (.lst (vs ++ [v]))) q (tss.dropLast ++ [tss.getLastD [] ++ [t]]) := by
  obtain ⟨ps', h1, h2, h3, h4, h5, h6, h7⟩ := h
  obtain rfl : ps' = ps := by
    rw [hq] at h1
    injection h1 with h1
    injection h1 with h1
    exact (List.map_inj_right (fun a b e => by injection e)).mp h1.symm
  rw [List.getLast?_eq_getElem?] at hp
  have hpl : ps'.length - 1 < ps'.length := (List.getElem?_eq_some_iff.mp hp).1
  have hx : tss[ps'.length - 1]? = some (tss.getLastD []) := by
    rw [h6, List.getLastD_eq_getLast?, List.getLast?_eq_getElem?, List.getElem?_eq_getElem (by omega)]
    rfl
  obtain ⟨vs, h8, h9⟩ := h7 _ _ _ hp hx
  have hmem := List.mem_of_getElem? hp
  have hpq : p ≠ q := fun e => h4 (e ▸ hmem)
  refine ⟨vs, h8, h5 p hmem, h9, ps', by rw [L2.upd_ne (Ne.symm hpq)]; exact hq, h2, h3, h4, h5, by rw [List.length_append, List.length_dropLast, List.length_singleton]; omega, fun i b us e1 e2 => ?_⟩
  by_cases hi : i = ps'.length - 1
  · subst hi
    obtain rfl : p = b := Option.some.inj (hp.symm.trans e1)
    rw [List.getElem?_append_right (by rw [List.length_dropLast]; omega), List.length_dropLast, show ps'.length - 1 - (tss.length - 1) = 0 by omega] at e2
    obtain rfl := Option.some.inj e2
    exact ⟨_, upd_same, Tks.app (h9.updL h8) (Tks.one (tk_updL ht h8))⟩
  · have hil : i < ps'.length := (List.getElem?_eq_some_iff.mp e1).1
    rw [List.getElem?_append_left (by rw [List.length_dropLast]; omega), List.getElem?_dropLast, if_pos (by omega)] at e2
    obtain ⟨ws, h10, h11⟩ := h7 i b us e1 e2
    have hb : b ≠ p := fun e => hi ((List.getElem?_inj hil h3).mp (by rw [e1, hp, e]))
    exact ⟨ws, by rw [L2.upd_ne hb]; exact h10, h11.updL h8⟩
theorem atI_last {α : Type} {xs : List α} {v : α} (h : xs.getLast? = some v) : atI xs (-1) = some v := by
  rw [List.getLast?_eq_getElem?] at h
  have hl := (List.getElem?_eq_some_iff.mp h).1
  unfold atI
  have e : ixN xs.length (-1) = some (xs.length - 1) := by
    unfold ixN
    rw [if_neg (by decide), if_pos (by omega)]
    congr 1
    omega
  rw [e]
  exact h
theorem split_ne : ∀ {ts : List Tk}, ts ≠ [] → (∀ t, ts[0]? = some t → isOut t = true) → split ts ≠ [] := by
  have key : ∀ (ts : List Tk) (acc : List (List Tk)), acc ≠ [] → ts.foldl splitA acc ≠ [] := by
    intro ts
    induction ts with
    | nil => exact fun acc h => h
    | cons t r ih =>
      intro acc h
      refine ih _ ?_
      unfold splitA
      split
      · exact List.append_ne_nil_of_right_ne_nil _ (List.cons_ne_nil _ _)
      · exact List.append_ne_nil_of_right_ne_nil _ (List.cons_ne_nil _ _)
  intro ts h h0
  cases ts with
  | nil => exact absurd rfl h
  | cons t r =>
    refine key r _ ?_
    unfold splitA
    rw [if_pos (h0 t rfl)]
    exact List.append_ne_nil_of_right_ne_nil _ (List.cons_ne_nil _ _)
theorem split_len : ∀ (ts : List Tk) (acc : List (List Tk)), (ts.foldl splitA acc).length ≤ acc.length + ts.length
  | [], acc => Nat.le_refl _
  | t :: r, acc => by
    have ih := split_len r (splitA acc t)
    have : (splitA acc t).length ≤ acc.length + 1 := by
      unfold splitA
      split
      · rw [List.length_append]; exact Nat.le_refl _
      · rw [List.length_append, List.length_dropLast, List.length_singleton]; omega
    rw [List.foldl_cons, List.length_cons]
    omega
theorem flat_last {acc : List (List Tk)} (h : acc ≠ []) (t : Tk) : (acc.dropLast ++ [acc.getLastD [] ++ [t]]).flatten = acc.flatten ++ [t] := by
  have e : acc = acc.dropLast ++ [acc.getLastD []] := by
    rw [List.getLastD_eq_getLast?, List.getLast?_eq_some_getLast h]
    exact (List.dropLast_concat_getLast h).symm
  conv => rhs; rw [e]
  rw [List.flatten_append, List.flatten_append, List.flatten_singleton, List.flatten_singleton, List.append_assoc]
theorem split_flatA : ∀ (ts : List Tk) (acc : List (List Tk)), acc ≠ [] → (ts.foldl splitA acc).flatten = acc.flatten ++ ts
  | [], acc, _ => (List.append_nil _).symm
  | t :: r, acc, h => by
    have h2 : splitA acc t ≠ [] := by
      unfold splitA
      split <;> exact List.append_ne_nil_of_right_ne_nil _ (List.cons_ne_nil _ _)
    rw [List.foldl_cons, split_flatA r _ h2]
    have : (splitA acc t).flatten = acc.flatten ++ [t] := by
      unfold splitA
      split
      · rw [List.flatten_append, List.flatten_singleton]
      · exact flat_last h t
    rw [this, List.append_assoc]
    rfl
theorem split_flat {ts : List Tk} (h0 : ∀ t, ts[0]? = some t → isOut t = true) : (split ts).flatten = ts := by
  cases ts with
  | nil => rfl
  | cons t r =>
    have e : splitA [] t = [[t]] := by unfold splitA; rw [if_pos (h0 t rfl)]; rfl
    show (r.foldl splitA (splitA [] t)).flatten = _
    rw [e, split_flatA r _ (List.cons_ne_nil _ _)]
    rfl
section
variable {P : Program} {w : World} {K : PySem.W.Frag} {mg : Str → Option Value} {base : Heap} {pF pO pN pL CH CA : Addr}
def spSplit (K : PySem.W.Frag) : Sp := fun vs H Q _ => ∃ (l : Addr) (us : List V) (ts : List Tk), vs = [.ref l] ∧ H l = some (.lst us) ∧ Tks K H us ts ∧ ts.length ≤ 1000 ∧ (∀ t, ts[0]? = some t → isOut t = true) ∧ ∀ q H', Same H H' → TT K H H' q (split ts) → Q (.ref q) H'
theorem sc_split_turns : FnScope ["history", "turns", "token"] ["history"] (defScope s_split_turns) := ⟨rfl, rfl, rfl, by decide +kernel, rfl, by decide +kernel, by decide +kernel⟩
theorem ok_split {f : Addr} {fd : FuncData} (F : Fun K "split_turns" "split_turns" s_split_turns f fd) (T : TxtH P w K mg pF pO pN pL CH CA) (c_is_outer : Cal P w K mg base CX0 1 "is_outer" ["token"] (spIsOut K)) : FnOk P w K mg base CX0 2 f fd ["history"] (spSplit K) := by
  refine F.ok sc_split_turns (fun vs H Q E h => ?_) (fun cdv A outer s H vs Q E hr h => ?_)
  · obtain ⟨l, us, ts, rfl, _⟩ := h
    rfl
  · obtain ⟨l, us, ts, rfl, hl, ht, hn, h0, k⟩ := h
    have hul := ht.len
    refine ⟨_, (pss_cons (ps_set (i := 1) sc_split_turns.nd rfl (.inl rfl) (pe_lst pa_nil))
      (pss_cons (ps_for PassesOwn.never rfl (pi_list (pv 0)) (pg_name (i := 2) sc_split_turns.nd rfl (.inl rfl)) (pss_one (ps_if (pt_val (pe_cal c_is_outer (hr.mono (by omega)) rfl pass0 (pa_cons (pv 2) pa_nil))) (pss_one (ps_expr (pe_bm PySem.F.plainAttrs_list PySem.F.slot_list_append PySem.F.type_list_append mt_append (pv 1) (pa_cons (pe_lst (pa_cons (pv 2) pa_nil)) pa_nil)))) (pss_one (ps_expr (pe_bm PySem.F.plainAttrs_list PySem.F.slot_list_append PySem.F.type_list_append mt_append (pe_ix ix_list (pv 1) (pe_un un_neg pe_int) (fun _ _ => rfl)) (pa_cons (pv 2) pa_nil)))))))
      (pss_one (ps_ret (pv 1))))), ?_⟩
    refine ⟨sz_lit (by show 0 ≤ 100000; decide), fun q hq => ?_⟩
    have s1 : Same H (upd H q (.lst [])) := Same.new hq
    have q1 : upd H q (.lst []) q = some (.lst []) := upd_same
    revert s1 q1
    generalize upd H q (.lst []) = H1
    intro s1 q1
    refine ⟨_, rfl, l, rfl, ⟨_, .inl (.inl (s1 _ _ hl))⟩, ?_⟩
    refine for_it (walk_list (xs := us)) (fun i σ H' => (∃ y2 : Option V, σ = [some (.ref l), some (.ref q), y2]) ∧ Same H H' ∧ TT K H H' q (split (ts.take i))) ⟨⟨_, rfl⟩, s1, TT.nil q1 hq⟩ (fun i σ H' _ z => .inl (.inl (z.2.1 _ _ hl))) ?_ ?_
    · rintro i x σ H'' H' hi ⟨⟨y2, rfl⟩, s2, t2⟩ ⟨rfl, hx⟩
      obtain ⟨t, h1, hd⟩ := ht.get hx
      have hst : split (ts.take (i + 1)) = splitA (split (ts.take i)) t := by
        unfold split
        rw [TS.take_one h1, List.foldl_append]
        rfl
      refine ⟨_, rfl, _, t, rfl, hd.mono s2, _, rfl, ?_⟩
      by_cases ho : isOut t = true
      · rw [ho]
        obtain ⟨ps, p1, p2, p3, p4, p5, p6, p7⟩ := id t2
        refine ifT rfl ⟨_, rfl, .inl ⟨rfl, _, .inl (.inl p1)⟩, _, rfl, sz1 _, fun p hp => ?_⟩
        have sp : Same H' (upd H' p (.lst [x])) := Same.new hp
        have hpq : p ≠ q := fun e => by rw [e, p1] at hp; cases hp
        have hp0 : H p = none := by
          cases z : H p with
          | none => rfl
          | some o => rw [s2 _ _ z] at hp; cases hp
        have hpn : p ∉ ps := fun hm => by
          obtain ⟨j, hj⟩ := List.getElem?_of_mem hm
          have hjl := (List.getElem?_eq_some_iff.mp hj).1
          obtain ⟨ws, h3, _⟩ := p7 j p _ hj (List.getElem?_eq_getElem (by omega))
          rw [h3] at hp
          cases hp
        have t3 : TT K H (upd H' p (.lst [x])) q (split (ts.take i)) := ⟨ps, sp _ _ p1, p2, p3, p4, p5, p6, fun j b us e1 e2 => by
          obtain ⟨ws, h3, h4⟩ := p7 j b us e1 e2
          exact ⟨ws, sp _ _ h3, h4.mono sp⟩⟩
        refine ⟨q, _, _, rfl, rfl, sp _ _ p1, lt_sz ?_, ⟨_, rfl⟩, Same.updN (s2.trans sp) hq, ?_⟩
        · have := split_len (ts.take i) []
          rw [List.length_take] at this
          have e : (split (ts.take i)).length ≤ 0 + min i ts.length := this
          rw [List.length_map]
          omega
        · rw [hst, show splitA (split (ts.take i)) t = split (ts.take i) ++ [[t]] by unfold splitA; rw [if_pos ho]]
          exact t3.push (sp _ _ p1) upd_same hpn hpq hp0 (Tks.one (hd.mono (s2.trans sp)))
      · have hi0 : i ≠ 0 := fun e => ho (h0 t (e ▸ h1))
        rw [Bool.eq_false_iff.mpr ho]
        obtain ⟨ps, p1, p2, p3, p4, p5, p6, p7⟩ := id t2
        have hne : split (ts.take i) ≠ [] := split_ne (fun e => by
          have := congrArg List.length e
          rw [List.length_take, List.length_nil] at this
          omega) fun t' e => h0 t' (by rw [List.getElem?_take, if_pos (by omega)] at e; exact e)
        obtain ⟨p, hp⟩ : ∃ p, ps.getLast? = some p := by
          cases z : ps.getLast? with
          | some p => exact ⟨p, rfl⟩
          | none =>
            rw [List.getLast?_eq_none_iff] at z
            rw [z] at p6
            exact absurd (List.length_eq_zero_iff.mp p6.symm) hne
        obtain ⟨ws, w1, w2, w3, w4⟩ := t2.last p1 hp (hd.mono s2)
        refine ifF rfl ⟨_, rfl, 1, rfl, q, _, -1, _, rfl, rfl, .inl (.inl p1), atI_last (by rw [List.getLast?_map, hp]; rfl), ?_⟩
        refine ⟨.inl ⟨rfl, _, .inl (.inl w1)⟩, _, rfl, p, _, _, rfl, rfl, w1, lt_sz ?_, ⟨_, rfl⟩, Same.updN s2 w2, ?_⟩
        · have e1 : (split (ts.take i)).flatten = ts.take i := split_flat fun t' e => h0 t' (by rw [List.getElem?_take, if_pos (by omega)] at e; exact e)
          have e2 : (split (ts.take i)).getLastD [] ∈ split (ts.take i) := by
            rw [List.getLastD_eq_getLast?, List.getLast?_eq_some_getLast hne]
            exact List.getLast_mem hne
          have e3 := (List.sublist_flatten_of_mem e2).length_le
          rw [e1, List.length_take] at e3
          rw [w3.len]
          omega
        · rw [hst, show splitA (split (ts.take i)) t = (split (ts.take i)).dropLast ++ [(split (ts.take i)).getLastD [] ++ [t]] by unfold splitA; rw [if_neg ho]]
          exact w4
    · rintro σ H' ⟨⟨y2, rfl⟩, s2, t2⟩
      rw [List.take_of_length_le (by omega)] at t2
      exact ⟨_, rfl, k _ _ s2 t2⟩
end
end Op
set_option pp.maxSteps 500
namespace Op
open PySem L2 PyProof.Rows
theorem drop_one {α : Type} : ∀ {l : List α} {i : Nat} {x : α}, l[i]? = some x → l.drop i = x :: l.drop (i + 1)
  | a :: r, 0, x, h => by obtain rfl := Option.some.inj h; rfl
  | a :: r, i + 1, x, h => drop_one (l := r) (i := i) h
/-- numbers as values -/
def natsV (ns : List Nat) : List V := ns.map fun n : Nat => V.int (n : Int)
theorem natsV_len (ns : List Nat) : (natsV ns).length = ns.length := List.length_map _
theorem natsV_app (ns ms : List Nat) : natsV (ns ++ ms) = natsV ns ++ natsV ms := List.map_append
theorem natsV_int (ns : List Nat) : natsV ns = (ns.map fun n : Nat => (n : Int)).map V.int := by unfold natsV; rw [List.map_map]; rfl
theorem natsV_flat (ns : List Nat) : (natsV ns).all flatV = true := List.all_eq_true.mpr fun v hv => by
  obtain ⟨n, _, rfl⟩ := List.mem_map.mp hv
  rfl
theorem idx_at : ∀ {ns : List Nat} {n : Nat}, n ∈ ns → ns[ns.idxOf n]? = some n ∧ (∀ m < ns.idxOf n, ∀ k, ns[m]? = some k → k ≠ n) ∧ ns.eraseIdx (ns.idxOf n) = ns.erase n
  | a :: r, n, h => by
    by_cases e : a = n
    · subst e
      rw [List.idxOf_cons_self, List.erase_cons_head]
      exact ⟨rfl, fun m hm => by omega, rfl⟩
    · have hr : n ∈ r := by
        rcases List.mem_cons.mp h with h | h
        · exact absurd h.symm e
        · exact h
      obtain ⟨h1, h2, h3⟩ := idx_at hr
      have eb : (a == n) = false := by simpa using e
      rw [List.idxOf_cons, eb, cond_false, List.erase_cons_tail (by simpa using e)]
      refine ⟨h1, fun m hm k hk => ?_, by rw [← h3]; rfl⟩
      cases m with
      | zero => obtain rfl := Option.some.inj hk; exact e
      | succ m => exact h2 m (by omega) k hk
theorem eraseIdx_mapI {α β : Type} (f : α → β) : ∀ (l : List α) (i : Nat), (l.map f).eraseIdx i = (l.eraseIdx i).map f
  | [], _ => rfl
  | _ :: _, 0 => rfl
  | a :: r, i + 1 => by
    have ih := eraseIdx_mapI f r i
    show f a :: _ = _
    rw [ih]
    rfl
theorem eqV_nat {m n : Nat} : eqV (.int (m : Int)) (.int (n : Int)) = decide (m = n) := by
  show decide ((m : Int) = (n : Int)) = _
  exact decide_eq_decide.mpr ⟨fun h => by omega, fun h => by omega⟩
theorem inV_nats (n : Nat) : ∀ ns : List Nat, inV (.int (n : Int)) (natsV ns) = decide (n ∈ ns)
  | [] => rfl
  | x :: r => by
    have ih := inV_nats n r
    unfold inV natsV at ih ⊢
    rw [List.map_cons, List.any_cons, ih, eqV_nat]
    by_cases e : x = n
    · subst e
      rw [decide_eq_true rfl, decide_eq_true List.mem_cons_self]
      rfl
    · rw [decide_eq_false e, Bool.false_or]
      exact decide_eq_decide.mpr ⟨List.mem_cons_of_mem _, fun h => by
        rcases List.mem_cons.mp h with h | h
        · exact absurd h.symm e
        · exact h⟩
/-- every numbered token names an open number -/
def AgeAll : List Tk → Ag → Prop
  | [], _ => True
  | t :: r, s => (∀ n, t.n = some n → n ∈ s.lf ∧ n ∈ s.th) ∧ AgeAll r (ageT s t)
theorem isNew_iff (t : Tk) : isNew t = decide (t.k ∈ (["asked", "set"] : List Str)) := rfl
section
variable {P : Program} {w : World} {K : PySem.W.Frag} {mg : Str → Option Value} {base : Heap} {pF pO pN pL CH CA : Addr}
def spJoin (K : PySem.W.Frag) : Sp := fun vs H Q _ => ∃ (l : Addr) (tss : List (List Tk)), vs = [.ref l] ∧ TR K H l tss ∧ tss.flatten.length ≤ 1000 ∧ ∀ q us H', Same H H' → H q = none → H' q = some (.lst us) → Tks K H' us tss.flatten → Q (.ref q) H'
theorem sc_joined : FnScope ["turns", "history", "turn"] ["turns"] (defScope s_joined) := ⟨rfl, rfl, rfl, by decide +kernel, rfl, by decide +kernel, by decide +kernel⟩
theorem ok_joined {f : Addr} {fd : FuncData} (F : Fun K "joined" "joined" s_joined f fd) : FnOk P w K mg base CX0 1 f fd ["turns"] (spJoin K) := by
  refine F.ok sc_joined (fun vs H Q E h => ?_) (fun cdv A outer s H vs Q E hr h => ?_)
  · obtain ⟨l, tss, rfl, _⟩ := h
    rfl
  · obtain ⟨l, tss, rfl, ⟨ps, hl, hpl, hps⟩, hn, k⟩ := h
    refine ⟨_, (pss_cons (ps_set (i := 1) sc_joined.nd rfl (.inl rfl) (pe_lst pa_nil))
      (pss_cons (ps_for PassesOwn.never rfl (pi_list (pv 0)) (pg_name (i := 2) sc_joined.nd rfl (.inl rfl)) (pss_one (ps_expr (pe_bm PySem.F.plainAttrs_list PySem.F.slot_list_extend PySem.F.type_list_extend mt_extend (pv 1) (pa_cons (pv 2) pa_nil)))))
      (pss_one (ps_ret (pv 1))))), ?_⟩
    refine ⟨sz_lit (by show 0 ≤ 100000; decide), fun q hq => ?_⟩
    have s1 : Same H (upd H q (.lst [])) := Same.new hq
    have q1 : upd H q (.lst []) q = some (.lst []) := upd_same
    revert s1 q1
    generalize upd H q (.lst []) = H1
    intro s1 q1
    refine ⟨_, rfl, l, rfl, ⟨_, .inl (.inl (s1 _ _ hl))⟩, ?_⟩
    refine for_it (walk_list (xs := ps.map V.ref)) (fun i σ H' => (∃ y2 : Option V, σ = [some (.ref l), some (.ref q), y2]) ∧ Same H H' ∧ ∃ us, H' q = some (.lst us) ∧ Tks K H' us (tss.take i).flatten) ⟨⟨_, rfl⟩, s1, [], q1, .nil⟩ (fun i σ H' _ z => .inl (.inl (z.2.1 _ _ hl))) ?_ ?_
    · rintro i x σ H'' H' hi ⟨⟨y2, rfl⟩, s2, us, h1, h2⟩ ⟨rfl, hx⟩
      rw [List.length_map] at hi
      rw [List.getElem?_map, List.getElem?_eq_getElem hi] at hx
      obtain rfl := Option.some.inj hx
      have ht : tss[i]? = some tss[i] := List.getElem?_eq_getElem (by omega)
      obtain ⟨ws, h3, h4⟩ := hps i _ _ (List.getElem?_eq_getElem hi) ht
      have hlen : ((tss.take (i + 1)).flatten).length ≤ tss.flatten.length := by
        conv => rhs; rw [← List.take_append_drop (i + 1) tss]
        rw [List.flatten_append, List.length_append]
        omega
      have e1 : (tss.take (i + 1)).flatten = (tss.take i).flatten ++ tss[i] := by
        rw [TS.take_one ht, List.flatten_append, List.flatten_singleton]
      have l1 := h2.len
      have l2 := h4.len
      rw [e1, List.length_append] at hlen
      have h6 : Tks K H' (us ++ ws) (tss.take (i + 1)).flatten := by
        rw [e1]
        exact Tks.app h2 (h4.mono s2)
      exact ⟨_, rfl, .inl ⟨rfl, _, .inl (.inl h1)⟩, _, rfl, q, ps[i], us, ws, rfl, rfl, h1, s2 _ _ h3, sz_lit (by omega), ⟨_, rfl⟩, Same.updN s2 hq, _, upd_same, h6.updL h1⟩
    · rintro σ H' ⟨⟨y2, rfl⟩, s2, us, h1, h2⟩
      rw [List.length_map, List.take_of_length_le (by omega)] at h2
      exact ⟨_, rfl, k _ _ _ s2 hq h1 h2⟩
def spAge (K : PySem.W.Frag) : Sp := fun vs H Q _ => ∃ (l ln : Addr) (us : List V) (ts : List Tk) (ns : List Nat) (st : Nat), vs = [.ref l, .ref ln, .int (st : Int)] ∧ H l = some (.lst us) ∧ Tks K H us ts ∧ (∀ t ∈ ts, Okt t) ∧ ts.length ≤ 1000 ∧ H ln = some (.lst (natsV ns)) ∧ ns.length ≤ 2000 ∧ AgeAll ts ⟨ns, ns, [], st⟩ ∧
  ∀ p a5 a4 ws H', Same H H' → H' p = some (.tup [.ref a5, .ref a4, .int ((ageTurn ts ns st).st : Int)]) → H a5 = none → H a4 = none → a5 ≠ a4 → H' a5 = some (.lst ws) → Tks K H' ws (ageTurn ts ns st).tk → H' a4 = some (.lst (natsV (ageTurn ts ns st).lf)) → Q (.ref p) H'
theorem sc_turn_by_age : FnScope ["turn", "numbers", "started", "things", "left", "tokens", "token"] ["turn", "numbers", "started"] (defScope s_turn_by_age) := ⟨rfl, rfl, rfl, by decide +kernel, rfl, by decide +kernel, by decide +kernel⟩
theorem ok_turn_by_age {f : Addr} {fd : FuncData} (F : Fun K "turn_by_age" "turn_by_age" s_turn_by_age f fd) (T : TxtH P w K mg pF pO pN pL CH CA) (c_renamed : Cal P w K mg base CX0 1 "renamed" ["token", "number"] (spRen K)) : FnOk P w K mg base CX0 2 f fd ["turn", "numbers", "started"] (spAge K) := by
  refine F.ok sc_turn_by_age (fun vs H Q E h => ?_) (fun cdv A outer s H vs Q E hr h => ?_)
  · obtain ⟨l, ln, us, ts, ns, st, rfl, _⟩ := h
    rfl
  · obtain ⟨l, ln, us, ts, ns, st, rfl, hl, ht, hok, hn, hln, hnn, hage, k⟩ := h
    have hul := ht.len
    refine ⟨_, (pss_cons (ps_set (i := 3) sc_turn_by_age.nd rfl (.inl rfl) (pe_callTy call_list_of (by rfl) T.b_list (by decide +kernel) (pa_cons (pv 1) pa_nil)))
      (pss_cons (ps_set (i := 4) sc_turn_by_age.nd rfl (.inl rfl) (pe_callTy call_list_of (by rfl) T.b_list (by decide +kernel) (pa_cons (pv 1) pa_nil)))
      (pss_cons (ps_set (i := 5) sc_turn_by_age.nd rfl (.inl rfl) (pe_lst pa_nil))
      (pss_cons (ps_for PassesOwn.never rfl (pi_list (pv 0)) (pg_name (i := 6) sc_turn_by_age.nd rfl (.inl rfl)) (pss_cons (ps_if (pt_cmpR op_in_seq (pe_ix ix_tup (pv 6) pe_int (fun _ _ => rfl)) (pe_gref rfl T.g_NUMBERED) (by rfl)) (pss_cons (ps_expr (pe_bm PySem.F.plainAttrs_list PySem.F.slot_list_remove PySem.F.type_list_remove mt_remove (pv 4) (pa_cons (pe_ix ix_tup (pv 6) pe_int (fun _ _ => rfl)) pa_nil)))
      (pss_one (ps_set (i := 6) sc_turn_by_age.nd rfl (.inl rfl) (pe_cal c_renamed (hr.mono (by omega)) rfl pass0 (pa_cons (pv 6) (pa_cons (pe_bm PySem.F.plainAttrs_list PySem.F.slot_list_index PySem.F.type_list_index mt_index (pv 3) (pa_cons (pe_ix ix_tup (pv 6) pe_int (fun _ _ => rfl)) pa_nil)) pa_nil)))))) (pss_one (ps_if (pt_cmpR op_in_seq (pe_ix ix_tup (pv 6) pe_int (fun _ _ => rfl)) (pe_tup (pa_cons pe_str (pa_cons pe_str pa_nil))) (by rfl)) (pss_cons (ps_expr (pe_bm PySem.F.plainAttrs_list PySem.F.slot_list_append PySem.F.type_list_append mt_append (pv 3) (pa_cons (pv 2) pa_nil)))
      (pss_cons (ps_expr (pe_bm PySem.F.plainAttrs_list PySem.F.slot_list_append PySem.F.type_list_append mt_append (pv 4) (pa_cons (pv 2) pa_nil)))
      (pss_one (ps_aug (i := 2) sc_turn_by_age.nd rfl (.inl rfl) pe_int ip_add)))) pss_nil)))
      (pss_one (ps_expr (pe_bm PySem.F.plainAttrs_list PySem.F.slot_list_append PySem.F.type_list_append mt_append (pv 5) (pa_cons (pv 6) pa_nil))))))
      (pss_one (ps_ret (pe_tup (pa_cons (pv 5) (pa_cons (pv 4) (pa_cons (pv 2) pa_nil)))))))))), ?_⟩
    refine ⟨_, rfl, ln, _, rfl, .inl (.inl (.inl hln)), fun a3 ha3 => ?_⟩
    have s1 : Same H (upd H a3 (.lst (natsV ns))) := Same.new ha3
    have c3 : upd H a3 (.lst (natsV ns)) a3 = some (.lst (natsV ns)) := upd_same
    revert s1 c3
    generalize upd H a3 (.lst (natsV ns)) = H1
    intro s1 c3
    refine ⟨_, rfl, ln, _, rfl, .inl (.inl (.inl (s1 _ _ hln))), fun a4 ha4 => ?_⟩
    have s2 : Same H1 (upd H1 a4 (.lst (natsV ns))) := Same.new ha4
    have c4 : upd H1 a4 (.lst (natsV ns)) a4 = some (.lst (natsV ns)) := upd_same
    have n34 : a3 ≠ a4 := fun e => by rw [← e, c3] at ha4; cases ha4
    have ha40 : H a4 = none := by
      cases z : H a4 with
      | none => rfl
      | some o => rw [s1 _ _ z] at ha4; cases ha4
    have d3 := s2 _ _ c3
    have s12 := s1.trans s2
    revert s2 c4 d3 s12
    generalize upd H1 a4 (.lst (natsV ns)) = H2
    intro s2 c4 d3 s12
    refine ⟨sz_lit (by show 0 ≤ 100000; decide), fun a5 ha5 => ?_⟩
    have s3 : Same H2 (upd H2 a5 (.lst [])) := Same.new ha5
    have c5 : upd H2 a5 (.lst []) a5 = some (.lst []) := upd_same
    have n35 : a3 ≠ a5 := fun e => by rw [← e, d3] at ha5; cases ha5
    have n45 : a4 ≠ a5 := fun e => by rw [← e, c4] at ha5; cases ha5
    have ha50 : H a5 = none := by
      cases z : H a5 with
      | none => rfl
      | some o => rw [s12 _ _ z] at ha5; cases ha5
    have e3 := s3 _ _ d3
    have e4 := s3 _ _ c4
    have s13 := s12.trans s3
    revert s3 c5 e3 e4 s13
    generalize upd H2 a5 (.lst []) = H3
    intro s3 c5 e3 e4 s13
    refine ⟨_, rfl, l, rfl, ⟨_, .inl (.inl (s13 _ _ hl))⟩, ?_⟩
    refine for_it (walk_list (xs := us)) (fun i σ H' => ∃ (sg : Ag) (ws : List V) (y6 : Option V), σ = [some (.ref l), some (.ref ln), some (.int (sg.st : Int)), some (.ref a3), some (.ref a4), some (.ref a5), y6] ∧ sg = (ts.take i).foldl ageT ⟨ns, ns, [], st⟩ ∧ AgeAll (ts.drop i) sg ∧ Same H H' ∧ H' a3 = some (.lst (natsV sg.th)) ∧ H' a4 = some (.lst (natsV sg.lf)) ∧ H' a5 = some (.lst ws) ∧ Tks K H' ws sg.tk ∧ sg.th.length ≤ ns.length + i ∧ sg.lf.length ≤ ns.length + i ∧ sg.tk.length = i) ⟨_, [], _, rfl, rfl, hage, s13, e3, e4, c5, .nil, Nat.le_refl _, Nat.le_refl _, rfl⟩ (fun i σ H' _ ⟨_, _, _, _, _, _, z, _⟩ => .inl (.inl (z _ _ hl))) ?_ ?_
    · rintro i x σ H'' H' hi ⟨sg, ws, y6, rfl, hsg, hall, s2, h3, h4, h5, h6, z3, z4, z5⟩ ⟨rfl, hx⟩
      obtain ⟨t, h1, hd⟩ := ht.get hx
      have hst : (ts.take (i + 1)).foldl ageT ⟨ns, ns, [], st⟩ = ageT sg t := by
        rw [TS.take_one h1, List.foldl_append, ← hsg]
        rfl
      rw [drop_one h1] at hall
      obtain ⟨hin, hall⟩ := hall
      have hd2 := hd.mono s2
      obtain ⟨a, rfl, hq⟩ := tk_at hd2
      have hkt := hok t (List.mem_of_getElem? h1)
      have hnu := num_iff hkt.c
      refine ⟨_, rfl, a, _, 0, _, rfl, rfl, hq, atI_zero _ _, pN, _, rfl, .inr (T.s_NUMBERED _), rfl, flat_strs _, _, rfl, ?_⟩
      rw [inV_st, show decide (t.k ∈ sNum) = t.n.isSome from hnu]
      cases hc : t.n with
      | some n =>
        obtain ⟨i1, i2⟩ := hin n hc
        obtain ⟨j1, j2, j3⟩ := idx_at i1
        obtain ⟨g1, g2, g3⟩ := idx_at i2
        have hN := numQ hq hc
        refine ifT rfl ⟨_, rfl, .inl ⟨rfl, _, .inl (.inl h4)⟩, _, rfl, a, _, 1, _, rfl, rfl, hN, atI_one _ _ _, a4, sg.lf.map (fun n : Nat => (n : Int)), (n : Int), sg.lf.idxOf n, rfl, rfl, by rw [h4, natsV_int], by rw [List.getElem?_map, j1]; rfl, fun m hm e => ?_, ?_⟩
        · rw [List.getElem?_map] at e
          cases z : sg.lf[m]? with
          | none => rw [z] at e; cases e
          | some q =>
            rw [z] at e
            have e : (q : Int) = (n : Int) := Option.some.inj e
            exact j2 m hm q z (by omega)
        rw [eraseIdx_mapI, j3, ← natsV_int]
        have s4 : Same H (upd H' a4 (.lst (natsV (sg.lf.erase n)))) := Same.updN s2 ha40
        have k3 : upd H' a4 (.lst (natsV (sg.lf.erase n))) a3 = some (.lst (natsV sg.th)) := by rw [L2.upd_ne n34]; exact h3
        have k4 : upd H' a4 (.lst (natsV (sg.lf.erase n))) a4 = some (.lst (natsV (sg.lf.erase n))) := upd_same
        have k5 : upd H' a4 (.lst (natsV (sg.lf.erase n))) a5 = some (.lst ws) := by rw [L2.upd_ne (Ne.symm n45)]; exact h5
        have k6 : Tks K (upd H' a4 (.lst (natsV (sg.lf.erase n)))) ws sg.tk := h6.updL h4
        have kd : SqT K (upd H' a4 (.lst (natsV (sg.lf.erase n)))) a t.vs := sqt_updL hq h4
        revert s4 k3 k4 k5 k6 kd
        generalize upd H' a4 (.lst (natsV (sg.lf.erase n))) = H5
        intro s4 k3 k4 k5 k6 kd
        have hN := numQ kd hc
        refine ⟨_, rfl, _, rfl, .inl ⟨rfl, _, .inl (.inl k3)⟩, _, rfl, a, _, 1, _, rfl, rfl, hN, atI_one _ _ _, a3, _, _, sg.th.idxOf n, .int (n : Int), rfl, rfl, .inl (.inl k3), rfl, natsV_flat _, by unfold natsV; rw [List.getElem?_map, g1]; rfl, by rw [eqV_nat]; exact decide_eq_true rfl, fun m z hm e => ?_, ?_⟩
        · unfold natsV at e
          rw [List.getElem?_map] at e
          cases q : sg.th[m]? with
          | none => rw [q] at e; cases e
          | some r =>
            rw [q] at e
            obtain rfl := Option.some.inj e
            rw [eqV_nat]
            exact decide_eq_false (g2 m hm r q)
        refine ⟨_, t, sg.th.idxOf n, rfl, tk_dp kd, hkt, by rw [hc]; rfl, fun v6 H6 s6 d6 => ?_⟩
        have l5 := (k6.mono s6).len
        refine ⟨_, rfl, .inl ⟨rfl, _, .inl (.inl (s6 _ _ k5))⟩, _, rfl, a5, _, _, rfl, rfl, s6 _ _ k5, lt_sz (by omega), ?_⟩
        refine ⟨ageT sg t, _, some v6, ?_, hst.symm, hall, Same.updN (s4.trans s6) ha50, ?_, ?_, upd_same, ?_, ?_, ?_, ?_⟩
        · rw [show (ageT sg t).st = sg.st by unfold ageT; rw [hc]]; rfl
        · rw [L2.upd_ne n35, show (ageT sg t).th = sg.th by unfold ageT; rw [hc]]; exact s6 _ _ k3
        · rw [L2.upd_ne n45, show (ageT sg t).lf = sg.lf.erase n by unfold ageT; rw [hc]]; exact s6 _ _ k4
        · rw [show (ageT sg t).tk = sg.tk ++ [ren t (sg.th.idxOf n)] by unfold ageT; rw [hc]]
          exact Tks.updL (s6 _ _ k5) (Tks.app (k6.mono s6) (Tks.one d6))
        · rw [show (ageT sg t).th = sg.th by unfold ageT; rw [hc]]; omega
        · rw [show (ageT sg t).lf = sg.lf.erase n by unfold ageT; rw [hc]]
          have := (List.erase_sublist (a := n) (l := sg.lf)).length_le
          omega
        · rw [show (ageT sg t).tk = sg.tk ++ [ren t (sg.th.idxOf n)] by unfold ageT; rw [hc], List.length_append, z5]; rfl
      | none =>
        refine ifF rfl ⟨_, rfl, a, _, 0, _, rfl, rfl, hq, atI_zero _ _, sz2 _ _, fun p hp => ⟨p, _, rfl, .inr (.inl (.inl upd_same)), rfl, flat_strs ["asked", "set"], _, rfl, ?_⟩⟩
        have sp : Same H' (upd H' p (.tup [.str "asked", .str "set"])) := Same.new hp
        have s4 := s2.trans sp
        have k3 := sp _ _ h3
        have k4 := sp _ _ h4
        have k5 := sp _ _ h5
        have k6 := h6.mono sp
        have kd := hd2.mono sp
        revert s4 k3 k4 k5 k6 kd
        generalize upd H' p (.tup [.str "asked", .str "set"]) = H5
        intro s4 k3 k4 k5 k6 kd
        rw [show inV (.str t.k) [.str "asked", .str "set"] = isNew t from inV_st t.k ["asked", "set"]]
        by_cases hw : isNew t = true
        · rw [hw]
          have e6 : ageT sg t = ⟨sg.th ++ [sg.st], sg.lf ++ [sg.st], sg.tk ++ [t], sg.st + 1⟩ := by unfold ageT; rw [hc]; dsimp only; rw [if_pos hw]
          have l3 := natsV_len sg.th
          have l4 := natsV_len sg.lf
          have l5 := k6.len
          have w4 : upd H5 a3 (.lst (natsV sg.th ++ [.int (sg.st : Int)])) a4 = some (.lst (natsV sg.lf)) := by rw [L2.upd_ne (Ne.symm n34)]; exact k4
          have w5 : upd (upd H5 a3 (.lst (natsV sg.th ++ [.int (sg.st : Int)]))) a4 (.lst (natsV sg.lf ++ [.int (sg.st : Int)])) a5 = some (.lst ws) := by rw [L2.upd_ne (Ne.symm n45), L2.upd_ne (Ne.symm n35)]; exact k5
          refine ifT rfl ⟨_, rfl, .inl ⟨rfl, _, .inl (.inl k3)⟩, _, rfl, a3, _, _, rfl, rfl, k3, lt_sz (by omega), ?_⟩
          refine ⟨_, rfl, .inl ⟨rfl, _, .inl (.inl w4)⟩, _, rfl, a4, _, _, rfl, rfl, w4, lt_sz (by omega), ?_⟩
          refine ⟨_, rfl, _, _, rfl, rfl, ?_⟩
          refine ⟨_, rfl, .inl ⟨rfl, _, .inl (.inl w5)⟩, _, rfl, a5, _, _, rfl, rfl, w5, lt_sz (by omega), ?_⟩
          refine ⟨ageT sg t, _, some (.ref a), ?_, hst.symm, hall, Same.updN (Same.updN (Same.updN s4 ha3) ha40) ha50, ?_, ?_, upd_same, ?_, ?_, ?_, ?_⟩
          · rw [e6]; rfl
          · rw [e6, natsV_app, L2.upd_ne n35, L2.upd_ne n34, upd_same]; rfl
          · rw [e6, natsV_app, L2.upd_ne n45, upd_same]; rfl
          · rw [e6]
            exact Tks.updL w5 (Tks.updL w4 (Tks.updL k3 (Tks.app k6 (Tks.one kd))))
          · rw [e6, List.length_append, List.length_singleton]; omega
          · rw [e6, List.length_append, List.length_singleton]; omega
          · rw [e6, List.length_append, List.length_singleton]; omega
        · rw [Bool.eq_false_iff.mpr hw]
          have e6 : ageT sg t = ⟨sg.th, sg.lf, sg.tk ++ [t], sg.st⟩ := by unfold ageT; rw [hc]; dsimp only; rw [if_neg hw]
          have l5 := k6.len
          refine ifF rfl ⟨_, rfl, .inl ⟨rfl, _, .inl (.inl k5)⟩, _, rfl, a5, _, _, rfl, rfl, k5, lt_sz (by omega), ?_⟩
          refine ⟨ageT sg t, _, some (.ref a), ?_, hst.symm, hall, Same.updN s4 ha50, ?_, ?_, upd_same, ?_, ?_, ?_, ?_⟩
          · rw [e6]; rfl
          · rw [e6, L2.upd_ne n35]; exact k3
          · rw [e6, L2.upd_ne n45]; exact k4
          · rw [e6]
            exact Tks.updL k5 (Tks.app k6 (Tks.one kd))
          · rw [e6]; show sg.th.length ≤ _; omega
          · rw [e6]; show sg.lf.length ≤ _; omega
          · rw [e6]; show (sg.tk ++ [t]).length = _; rw [List.length_append, List.length_singleton]; omega
    · rintro σ H' ⟨sg, ws, y6, rfl, hsg, _, s2, h3, h4, h5, h6, z3, z4, z5⟩
      rw [List.take_of_length_le (by omega)] at hsg
      subst hsg
      refine ⟨_, rfl, _, rfl, _, rfl, sz_lit (by show 3 ≤ 100000; decide), fun p hp => ?_⟩
      have sp : Same H' (upd H' p (.tup [.ref a5, .ref a4, .int ((ageTurn ts ns st).st : Int)])) := Same.new hp
      exact k p a5 a4 ws _ (s2.trans sp) upd_same ha50 ha40 (Ne.symm n45) (sp _ _ h5) (h6.mono sp) (sp _ _ h4)
end
end Op
set_option pp.maxSteps 500
namespace Op
open PySem L2 PyProof.Rows
section
variable {P : Program} {w : World} {K : PySem.W.Frag} {mg : Str → Option Value} {base : Heap} {pF pO pN pL CH CA : Addr}
def spNum (K : PySem.W.Frag) : Sp := fun vs H Q _ => ∃ (l ln : Addr) (us : List V) (ts : List Tk) (ns : List Nat) (st : Nat), vs = [.ref l, .ref ln, .int (st : Int)] ∧ H l = some (.lst us) ∧ Tks K H us ts ∧ (∀ t ∈ ts, Okt t) ∧ ts.length ≤ 1000 ∧ H ln = some (.lst (natsV ns)) ∧ ns.length ≤ 2000 ∧
  (numTurn ts ns st = none → ∀ H', Same H H' → Q .non H') ∧
  ∀ sg, numTurn ts ns st = some sg → ∀ p a5 a4 ws H', Same H H' → H' p = some (.tup [.ref a5, .ref a4, .int (sg.st : Int)]) → H a5 = none → H a4 = none → a5 ≠ a4 → H' a5 = some (.lst ws) → Tks K H' ws sg.tk → H' a4 = some (.lst (natsV sg.lf)) → Q (.ref p) H'
theorem sc_turn_by_number : FnScope ["turn", "numbers", "started", "things", "left", "tokens", "token", "number"] ["turn", "numbers", "started"] (defScope s_turn_by_number) := ⟨rfl, rfl, rfl, by decide +kernel, rfl, by decide +kernel, by decide +kernel⟩
theorem ok_turn_by_number {f : Addr} {fd : FuncData} (F : Fun K "turn_by_number" "turn_by_number" s_turn_by_number f fd) (T : TxtH P w K mg pF pO pN pL CH CA) (c_renamed : Cal P w K mg base CX0 1 "renamed" ["token", "number"] (spRen K)) : FnOk P w K mg base CX0 2 f fd ["turn", "numbers", "started"] (spNum K) := by
  refine F.ok sc_turn_by_number (fun vs H Q E h => ?_) (fun cdv A outer s H vs Q E hr h => ?_)
  · obtain ⟨l, ln, us, ts, ns, st, rfl, _⟩ := h
    rfl
  · obtain ⟨l, ln, us, ts, ns, st, rfl, hl, ht, hok, hn, hln, hnn, kn, k⟩ := h
    have hul := ht.len
    refine ⟨_, (pss_cons (ps_set (i := 3) sc_turn_by_number.nd rfl (.inl rfl) (pe_callTy call_list_of (by rfl) T.b_list (by decide +kernel) (pa_cons (pv 1) pa_nil)))
      (pss_cons (ps_set (i := 4) sc_turn_by_number.nd rfl (.inl rfl) (pe_callTy call_list_of (by rfl) T.b_list (by decide +kernel) (pa_cons (pv 1) pa_nil)))
      (pss_cons (ps_set (i := 5) sc_turn_by_number.nd rfl (.inl rfl) (pe_lst pa_nil))
      (pss_cons (ps_for PassesOwn.never rfl (pi_list (pv 0)) (pg_name (i := 6) sc_turn_by_number.nd rfl (.inl rfl)) (pss_cons (ps_if (pt_cmpR op_in_seq (pe_ix ix_tup (pv 6) pe_int (fun _ _ => rfl)) (pe_gref rfl T.g_NUMBERED) (by rfl)) (pss_cons (ps_if (PW.pt (pw_or (pt_cmpR op_ge (pe_ix ix_tup (pv 6) pe_int (fun _ _ => rfl)) (pe_callB call_len_seq (by rfl) T.b_len (by decide +kernel) (pa_cons (pv 3) pa_nil)) (nomark _)) (pw_or1 (pt_cmpR op_notIn_seq (pe_ix ix_list (pv 3) (pe_ix ix_tup (pv 6) pe_int (fun _ _ => rfl)) (fun _ _ => rfl)) (pv 4) (by rfl))))) (pss_one (ps_ret pe_non)) pss_nil)
      (pss_cons (ps_set (i := 7) sc_turn_by_number.nd rfl (.inl rfl) (pe_ix ix_list (pv 3) (pe_ix ix_tup (pv 6) pe_int (fun _ _ => rfl)) (fun _ _ => rfl)))
      (pss_cons (ps_expr (pe_bm PySem.F.plainAttrs_list PySem.F.slot_list_remove PySem.F.type_list_remove mt_remove (pv 4) (pa_cons (pv 7) pa_nil)))
      (pss_one (ps_set (i := 6) sc_turn_by_number.nd rfl (.inl rfl) (pe_cal c_renamed (hr.mono (by omega)) rfl pass0 (pa_cons (pv 6) (pa_cons (pv 7) pa_nil)))))))) (pss_one (ps_if (pt_cmpR op_in_seq (pe_ix ix_tup (pv 6) pe_int (fun _ _ => rfl)) (pe_tup (pa_cons pe_str (pa_cons pe_str pa_nil))) (by rfl)) (pss_cons (ps_expr (pe_bm PySem.F.plainAttrs_list PySem.F.slot_list_append PySem.F.type_list_append mt_append (pv 3) (pa_cons (pv 2) pa_nil)))
      (pss_cons (ps_expr (pe_bm PySem.F.plainAttrs_list PySem.F.slot_list_append PySem.F.type_list_append mt_append (pv 4) (pa_cons (pv 2) pa_nil)))
      (pss_one (ps_aug (i := 2) sc_turn_by_number.nd rfl (.inl rfl) pe_int ip_add)))) pss_nil)))
      (pss_one (ps_expr (pe_bm PySem.F.plainAttrs_list PySem.F.slot_list_append PySem.F.type_list_append mt_append (pv 5) (pa_cons (pv 6) pa_nil))))))
      (pss_one (ps_ret (pe_tup (pa_cons (pv 5) (pa_cons (pv 4) (pa_cons (pv 2) pa_nil)))))))))), ?_⟩
    refine ⟨_, rfl, ln, _, rfl, .inl (.inl (.inl hln)), fun a3 ha3 => ?_⟩
    have s1 : Same H (upd H a3 (.lst (natsV ns))) := Same.new ha3
    have c3 : upd H a3 (.lst (natsV ns)) a3 = some (.lst (natsV ns)) := upd_same
    revert s1 c3
    generalize upd H a3 (.lst (natsV ns)) = H1
    intro s1 c3
    refine ⟨_, rfl, ln, _, rfl, .inl (.inl (.inl (s1 _ _ hln))), fun a4 ha4 => ?_⟩
    have s2 : Same H1 (upd H1 a4 (.lst (natsV ns))) := Same.new ha4
    have c4 : upd H1 a4 (.lst (natsV ns)) a4 = some (.lst (natsV ns)) := upd_same
    have n34 : a3 ≠ a4 := fun e => by rw [← e, c3] at ha4; cases ha4
    have ha40 : H a4 = none := by
      cases z : H a4 with
      | none => rfl
      | some o => rw [s1 _ _ z] at ha4; cases ha4
    have d3 := s2 _ _ c3
    have s12 := s1.trans s2
    revert s2 c4 d3 s12
    generalize upd H1 a4 (.lst (natsV ns)) = H2
    intro s2 c4 d3 s12
    refine ⟨sz_lit (by show 0 ≤ 100000; decide), fun a5 ha5 => ?_⟩
    have s3 : Same H2 (upd H2 a5 (.lst [])) := Same.new ha5
    have c5 : upd H2 a5 (.lst []) a5 = some (.lst []) := upd_same
    have n35 : a3 ≠ a5 := fun e => by rw [← e, d3] at ha5; cases ha5
    have n45 : a4 ≠ a5 := fun e => by rw [← e, c4] at ha5; cases ha5
    have ha50 : H a5 = none := by
      cases z : H a5 with
      | none => rfl
      | some o => rw [s12 _ _ z] at ha5; cases ha5
    have e3 := s3 _ _ d3
    have e4 := s3 _ _ c4
    have s13 := s12.trans s3
    revert s3 c5 e3 e4 s13
    generalize upd H2 a5 (.lst []) = H3
    intro s3 c5 e3 e4 s13
    refine ⟨_, rfl, l, rfl, ⟨_, .inl (.inl (s13 _ _ hl))⟩, ?_⟩
    refine for_it (walk_list (xs := us)) (fun i σ H' => ∃ (sg : Ag) (ws : List V) (y6 y7 : Option V), σ = [some (.ref l), some (.ref ln), some (.int (sg.st : Int)), some (.ref a3), some (.ref a4), some (.ref a5), y6, y7] ∧ numTurn ts ns st = numTurnA (ts.drop i) sg ∧ Same H H' ∧ H' a3 = some (.lst (natsV sg.th)) ∧ H' a4 = some (.lst (natsV sg.lf)) ∧ H' a5 = some (.lst ws) ∧ Tks K H' ws sg.tk ∧ sg.th.length ≤ ns.length + i ∧ sg.lf.length ≤ ns.length + i ∧ sg.tk.length = i) ⟨_, [], _, _, rfl, rfl, s13, e3, e4, c5, .nil, Nat.le_refl _, Nat.le_refl _, rfl⟩ (fun i σ H' _ ⟨_, _, _, _, _, _, z, _⟩ => .inl (.inl (z _ _ hl))) ?_ ?_
    · rintro i x σ H'' H' hi ⟨sg, ws, y6, y7, rfl, hsg, s2, h3, h4, h5, h6, z3, z4, z5⟩ ⟨rfl, hx⟩
      obtain ⟨t, h1, hd⟩ := ht.get hx
      rw [drop_one h1] at hsg
      have hd2 := hd.mono s2
      obtain ⟨a, rfl, hq⟩ := tk_at hd2
      have hkt := hok t (List.mem_of_getElem? h1)
      have hnu := num_iff hkt.c
      refine ⟨_, rfl, a, _, 0, _, rfl, rfl, hq, atI_zero _ _, pN, _, rfl, .inr (T.s_NUMBERED _), rfl, flat_strs _, _, rfl, ?_⟩
      rw [inV_st, show decide (t.k ∈ sNum) = t.n.isSome from hnu]
      cases hc : t.n with
      | some n =>
        have hN := numQ hq hc
        refine ifT rfl ⟨_, rfl, a, _, 1, _, rfl, rfl, hN, atI_one _ _ _, _, rfl, a3, _, rfl, .inl (.inl (.inl h3)), _, _, rfl, rfl, _, rfl, ?_⟩
        rw [natsV_len]
        by_cases hx : sg.th.length ≤ n
        · have e1 : sg.th[n]? = none := List.getElem?_eq_none hx
          have e2 : numTurn ts ns st = none := by
            rw [hsg]
            unfold numTurnA numT
            rw [hc]
            dsimp only
            rw [e1]
          exact ifT (decide_eq_true (by omega)) (ifT rfl (kn e2 _ s2))
        obtain ⟨x, hx'⟩ : ∃ x, sg.th[n]? = some x := ⟨_, List.getElem?_eq_getElem (by omega)⟩
        have hat : atI (natsV sg.th) (n : Int) = some (.int (x : Int)) := atI_nat (by unfold natsV; rw [List.getElem?_map, hx']; rfl)
        refine ifF (decide_eq_false (by omega)) ⟨_, rfl, _, rfl, a, _, 1, _, rfl, rfl, hN, atI_one _ _ _, a3, _, _, .int (x : Int), rfl, rfl, .inl (.inl h3), hat, _, rfl, a4, _, rfl, .inl (.inl (.inl h4)), rfl, natsV_flat _, _, rfl, ?_⟩
        rw [inV_nats]
        by_cases hxl : x ∉ sg.lf
        · have e2 : numTurn ts ns st = none := by
            rw [hsg]
            unfold numTurnA numT
            rw [hc]
            dsimp only
            rw [hx']
            dsimp only
            rw [if_neg hxl]
          rw [decide_eq_false hxl]
          exact ifT rfl (kn e2 _ s2)
        have hxl : x ∈ sg.lf := Decidable.byContradiction hxl
        have e6 : numT sg t = some { sg with lf := sg.lf.erase x, tk := sg.tk ++ [ren t x] } := by
          unfold numT
          rw [hc]
          dsimp only
          rw [hx']
          dsimp only
          rw [if_pos hxl]
        obtain ⟨j1, j2, j3⟩ := idx_at hxl
        rw [decide_eq_true hxl]
        refine ifF rfl ⟨_, rfl, _, rfl, a, _, 1, _, rfl, rfl, hN, atI_one _ _ _, a3, _, _, .int (x : Int), rfl, rfl, .inl (.inl h3), hat, ?_⟩
        refine ⟨_, rfl, .inl ⟨rfl, _, .inl (.inl h4)⟩, _, rfl, a4, sg.lf.map (fun n : Nat => (n : Int)), (x : Int), sg.lf.idxOf x, rfl, rfl, by rw [h4, natsV_int], by rw [List.getElem?_map, j1]; rfl, fun m hm e => ?_, ?_⟩
        · rw [List.getElem?_map] at e
          cases z : sg.lf[m]? with
          | none => rw [z] at e; cases e
          | some q =>
            rw [z] at e
            have e : (q : Int) = (x : Int) := Option.some.inj e
            exact j2 m hm q z (by omega)
        rw [eraseIdx_mapI, j3, ← natsV_int]
        have s4 : Same H (upd H' a4 (.lst (natsV (sg.lf.erase x)))) := Same.updN s2 ha40
        have k3 : upd H' a4 (.lst (natsV (sg.lf.erase x))) a3 = some (.lst (natsV sg.th)) := by rw [L2.upd_ne n34]; exact h3
        have k4 : upd H' a4 (.lst (natsV (sg.lf.erase x))) a4 = some (.lst (natsV (sg.lf.erase x))) := upd_same
        have k5 : upd H' a4 (.lst (natsV (sg.lf.erase x))) a5 = some (.lst ws) := by rw [L2.upd_ne (Ne.symm n45)]; exact h5
        have k6 : Tks K (upd H' a4 (.lst (natsV (sg.lf.erase x)))) ws sg.tk := h6.updL h4
        have kd : SqT K (upd H' a4 (.lst (natsV (sg.lf.erase x)))) a t.vs := sqt_updL hq h4
        revert s4 k3 k4 k5 k6 kd
        generalize upd H' a4 (.lst (natsV (sg.lf.erase x))) = H5
        intro s4 k3 k4 k5 k6 kd
        refine ⟨_, rfl, _, rfl, _, t, x, rfl, tk_dp kd, hkt, by rw [hc]; rfl, fun v6 H6 s6 d6 => ?_⟩
        have l5 := (k6.mono s6).len
        refine ⟨_, rfl, .inl ⟨rfl, _, .inl (.inl (s6 _ _ k5))⟩, _, rfl, a5, _, _, rfl, rfl, s6 _ _ k5, lt_sz (by omega), ?_⟩
        have e7 : numTurn ts ns st = numTurnA (ts.drop (i + 1)) { sg with lf := sg.lf.erase x, tk := sg.tk ++ [ren t x] } := by
          rw [hsg, numTurnA, e6]
        refine ⟨_, _, some v6, some (.int (x : Int)), ?_, e7, Same.updN (s4.trans s6) ha50, ?_, ?_, upd_same, ?_, ?_, ?_, ?_⟩
        · rfl
        · rw [L2.upd_ne n35]; exact s6 _ _ k3
        · rw [L2.upd_ne n45]; exact s6 _ _ k4
        · exact Tks.updL (s6 _ _ k5) (Tks.app (k6.mono s6) (Tks.one d6))
        · show sg.th.length ≤ _; omega
        · have := (List.erase_sublist (a := x) (l := sg.lf)).length_le
          show (sg.lf.erase x).length ≤ _
          omega
        · show (sg.tk ++ [ren t x]).length = _; rw [List.length_append, z5]; rfl
      | none =>
        refine ifF rfl ⟨_, rfl, a, _, 0, _, rfl, rfl, hq, atI_zero _ _, sz2 _ _, fun p hp => ⟨p, _, rfl, .inr (.inl (.inl upd_same)), rfl, flat_strs ["asked", "set"], _, rfl, ?_⟩⟩
        have sp : Same H' (upd H' p (.tup [.str "asked", .str "set"])) := Same.new hp
        have s4 := s2.trans sp
        have k3 := sp _ _ h3
        have k4 := sp _ _ h4
        have k5 := sp _ _ h5
        have k6 := h6.mono sp
        have kd := hd2.mono sp
        revert s4 k3 k4 k5 k6 kd
        generalize upd H' p (.tup [.str "asked", .str "set"]) = H5
        intro s4 k3 k4 k5 k6 kd
        rw [show inV (.str t.k) [.str "asked", .str "set"] = isNew t from inV_st t.k ["asked", "set"]]
        by_cases hw : isNew t = true
        · rw [hw]
          have e7 : numTurn ts ns st = numTurnA (ts.drop (i + 1)) ⟨sg.th ++ [sg.st], sg.lf ++ [sg.st], sg.tk ++ [t], sg.st + 1⟩ := by
            rw [hsg, numTurnA, show numT sg t = some ⟨sg.th ++ [sg.st], sg.lf ++ [sg.st], sg.tk ++ [t], sg.st + 1⟩ by unfold numT; rw [hc]; dsimp only; rw [if_pos hw]]
          have l3 := natsV_len sg.th
          have l4 := natsV_len sg.lf
          have l5 := k6.len
          have w4 : upd H5 a3 (.lst (natsV sg.th ++ [.int (sg.st : Int)])) a4 = some (.lst (natsV sg.lf)) := by rw [L2.upd_ne (Ne.symm n34)]; exact k4
          have w5 : upd (upd H5 a3 (.lst (natsV sg.th ++ [.int (sg.st : Int)]))) a4 (.lst (natsV sg.lf ++ [.int (sg.st : Int)])) a5 = some (.lst ws) := by rw [L2.upd_ne (Ne.symm n45), L2.upd_ne (Ne.symm n35)]; exact k5
          refine ifT rfl ⟨_, rfl, .inl ⟨rfl, _, .inl (.inl k3)⟩, _, rfl, a3, _, _, rfl, rfl, k3, lt_sz (by omega), ?_⟩
          refine ⟨_, rfl, .inl ⟨rfl, _, .inl (.inl w4)⟩, _, rfl, a4, _, _, rfl, rfl, w4, lt_sz (by omega), ?_⟩
          refine ⟨_, rfl, _, _, rfl, rfl, ?_⟩
          refine ⟨_, rfl, .inl ⟨rfl, _, .inl (.inl w5)⟩, _, rfl, a5, _, _, rfl, rfl, w5, lt_sz (by omega), ?_⟩
          refine ⟨_, _, some (.ref a), y7, ?_, e7, Same.updN (Same.updN (Same.updN s4 ha3) ha40) ha50, ?_, ?_, upd_same, ?_, ?_, ?_, ?_⟩
          · rfl
          · rw [natsV_app, L2.upd_ne n35, L2.upd_ne n34, upd_same]; rfl
          · rw [natsV_app, L2.upd_ne n45, upd_same]; rfl
          · exact Tks.updL w5 (Tks.updL w4 (Tks.updL k3 (Tks.app k6 (Tks.one kd))))
          · show (sg.th ++ [sg.st]).length ≤ _; rw [List.length_append, List.length_singleton]; omega
          · show (sg.lf ++ [sg.st]).length ≤ _; rw [List.length_append, List.length_singleton]; omega
          · show (sg.tk ++ [t]).length = _; rw [List.length_append, List.length_singleton]; omega
        · rw [Bool.eq_false_iff.mpr hw]
          have e7 : numTurn ts ns st = numTurnA (ts.drop (i + 1)) ⟨sg.th, sg.lf, sg.tk ++ [t], sg.st⟩ := by
            rw [hsg, numTurnA, show numT sg t = some ⟨sg.th, sg.lf, sg.tk ++ [t], sg.st⟩ by unfold numT; rw [hc]; dsimp only; rw [if_neg hw]]
          have l5 := k6.len
          refine ifF rfl ⟨_, rfl, .inl ⟨rfl, _, .inl (.inl k5)⟩, _, rfl, a5, _, _, rfl, rfl, k5, lt_sz (by omega), ?_⟩
          refine ⟨_, _, some (.ref a), y7, ?_, e7, Same.updN s4 ha50, ?_, ?_, upd_same, ?_, ?_, ?_, ?_⟩
          · rfl
          · rw [L2.upd_ne n35]; exact k3
          · rw [L2.upd_ne n45]; exact k4
          · exact Tks.updL k5 (Tks.app k6 (Tks.one kd))
          · show sg.th.length ≤ _; omega
          · show sg.lf.length ≤ _; omega
          · show (sg.tk ++ [t]).length = _; rw [List.length_append, List.length_singleton]; omega
    · rintro σ H' ⟨sg, ws, y6, y7, rfl, hsg, s2, h3, h4, h5, h6, z3, z4, z5⟩
      rw [List.drop_of_length_le (by omega)] at hsg
      refine ⟨_, rfl, _, rfl, _, rfl, sz_lit (by show 3 ≤ 100000; decide), fun p hp => ?_⟩
      have sp : Same H' (upd H' p (.tup [.ref a5, .ref a4, .int (sg.st : Int)])) := Same.new hp
      exact k sg hsg p a5 a4 ws _ (s2.trans sp) upd_same ha50 ha40 (Ne.symm n45) (sp _ _ h5) (h6.mono sp) (sp _ _ h4)
end
end Op
set_option pp.maxSteps 500
namespace Op
open PySem L2 PyProof.Rows
theorem ageT_lf (s : Ag) (t : Tk) : (ageT s t).lf.length ≤ s.lf.length + 1 := by
  unfold ageT
  split
  · have := (List.erase_sublist (a := ‹Nat›) (l := s.lf)).length_le
    show (s.lf.erase _).length ≤ _
    exact Nat.le_succ_of_le (List.erase_sublist).length_le
  · split
    · show (s.lf ++ [s.st]).length ≤ _
      rw [List.length_append]
      exact Nat.le_refl _
    · exact Nat.le_succ _
theorem age_lf : ∀ (ts : List Tk) (s : Ag), (ts.foldl ageT s).lf.length ≤ s.lf.length + ts.length
  | [], s => Nat.le_refl _
  | t :: r, s => by
    have h1 := age_lf r (ageT s t)
    have h2 := ageT_lf s t
    rw [List.foldl_cons, List.length_cons]
    omega
theorem numT_lf {s s' : Ag} {t : Tk} (h : numT s t = some s') : s'.lf.length ≤ s.lf.length + 1 := by
  unfold numT at h
  split at h
  · split at h
    · cases h
    · split at h
      · obtain rfl := Option.some.inj h
        exact Nat.le_succ_of_le (List.erase_sublist).length_le
      · cases h
  · split at h
    · obtain rfl := Option.some.inj h
      show (s.lf ++ [s.st]).length ≤ _
      rw [List.length_append]
      exact Nat.le_refl _
    · obtain rfl := Option.some.inj h
      exact Nat.le_succ _
theorem num_lf : ∀ (ts : List Tk) (s s' : Ag), numTurnA ts s = some s' → s'.lf.length ≤ s.lf.length + ts.length
  | [], s, s', h => by obtain rfl := Option.some.inj h; exact Nat.le_refl _
  | t :: r, s, s', h => by
    unfold numTurnA at h
    split at h
    · cases h
    · rename_i s1 e
      have h1 := num_lf r s1 s' h
      have h2 := numT_lf e
      rw [List.length_cons]
      omega
/-- every turn by age names open numbers -/
def AgeAlls : List (List Tk) → List Nat → Nat → Prop
  | [], _, _ => True
  | ts :: r, ns, st => AgeAll ts ⟨ns, ns, [], st⟩ ∧ AgeAlls r (ageTurn ts ns st).lf (ageTurn ts ns st).st
theorem flat_take {α : Type} {l : List (List α)} {i : Nat} {x : List α} (h : l[i]? = some x) : (l.take (i + 1)).flatten.length = (l.take i).flatten.length + x.length ∧ (l.take (i + 1)).flatten.length ≤ l.flatten.length := by
  constructor
  · rw [TS.take_one h, List.flatten_append, List.flatten_singleton, List.length_append]
  · conv => rhs; rw [← List.take_append_drop (i + 1) l]
    rw [List.flatten_append, List.length_append]
    omega
theorem new_of {H H' : Hp} {a : Addr} (s : Same H H') (h : H' a = none) : H a = none := by
  cases z : H a with
  | none => rfl
  | some o => rw [s _ _ z] at h; cases h
theorem TT.mono {K : PySem.W.Frag} {H0 H H' : Hp} {q : Addr} {tss : List (List Tk)} (h : TT K H0 H q tss) (s : Same H H') : TT K H0 H' q tss := by
  obtain ⟨ps, h1, h2, h3, h4, h5, h6, h7⟩ := h
  refine ⟨ps, s _ _ h1, h2, h3, h4, h5, h6, fun i p ts e1 e2 => ?_⟩
  obtain ⟨vs, h8, h9⟩ := h7 i p ts e1 e2
  exact ⟨vs, s _ _ h8, h9.mono s⟩
section
variable {P : Program} {w : World} {K : PySem.W.Frag} {mg : Str → Option Value} {base : Heap} {pF pO pN pL CH CA : Addr}
def spAges (K : PySem.W.Frag) : Sp := fun vs H Q _ => ∃ (l : Addr) (tss : List (List Tk)), vs = [.ref l] ∧ TR K H l tss ∧ (∀ ts ∈ tss, ∀ t ∈ ts, Okt t) ∧ tss.flatten.length ≤ 1000 ∧ tss.length ≤ 1000 ∧ AgeAlls tss [] 0 ∧ ∀ q H', Same H H' → TT K H H' q (ageTurns tss [] 0) → Q (.ref q) H'
theorem sc_turns_by_age : FnScope ["turns", "numbers", "started", "told", "turn", "tokens"] ["turns"] (defScope s_turns_by_age) := ⟨rfl, rfl, rfl, by decide +kernel, rfl, by decide +kernel, by decide +kernel⟩
theorem ok_turns_by_age {f : Addr} {fd : FuncData} (F : Fun K "turns_by_age" "turns_by_age" s_turns_by_age f fd) (c_turn_by_age : Cal P w K mg base CX0 2 "turn_by_age" ["turn", "numbers", "started"] (spAge K)) : FnOk P w K mg base CX0 3 f fd ["turns"] (spAges K) := by
  refine F.ok sc_turns_by_age (fun vs H Q E h => ?_) (fun cdv A outer s H vs Q E hr h => ?_)
  · obtain ⟨l, tss, rfl, _⟩ := h
    rfl
  · obtain ⟨l, tss, rfl, ⟨ps, hl, hpl, hps⟩, hok, hn, hnl, hage, k⟩ := h
    refine ⟨_, (pss_cons (ps_set (i := 1) sc_turns_by_age.nd rfl (.inl rfl) (pe_lst pa_nil))
      (pss_cons (ps_set (i := 2) sc_turns_by_age.nd rfl (.inl rfl) pe_int)
      (pss_cons (ps_set (i := 3) sc_turns_by_age.nd rfl (.inl rfl) (pe_lst pa_nil))
      (pss_cons (ps_for PassesOwn.never rfl (pi_list (pv 0)) (pg_name (i := 4) sc_turns_by_age.nd rfl (.inl rfl)) (pss_cons (ps_asg (pe_cal c_turn_by_age (hr.mono (by omega)) rfl pass0 (pa_cons (pv 4) (pa_cons (pv 1) (pa_cons (pv 2) pa_nil)))) (pg_tup rfl (pgs_cons (pg_name (i := 5) sc_turns_by_age.nd rfl (.inl rfl)) (pgs_cons (pg_name (i := 1) sc_turns_by_age.nd rfl (.inl rfl)) (pgs_cons (pg_name (i := 2) sc_turns_by_age.nd rfl (.inl rfl)) pgs_nil)))))
      (pss_one (ps_expr (pe_bm PySem.F.plainAttrs_list PySem.F.slot_list_append PySem.F.type_list_append mt_append (pv 3) (pa_cons (pv 5) pa_nil))))))
      (pss_one (ps_ret (pv 3))))))), ?_⟩
    refine ⟨sz_lit (by show 0 ≤ 100000; decide), fun a1 ha1 => ?_⟩
    have s1 : Same H (upd H a1 (.lst [])) := Same.new ha1
    have c1 : upd H a1 (.lst []) a1 = some (.lst []) := upd_same
    revert s1 c1
    generalize upd H a1 (.lst []) = H1
    intro s1 c1
    refine ⟨sz_lit (by show 0 ≤ 100000; decide), fun q hq => ?_⟩
    have s2 : Same H1 (upd H1 q (.lst [])) := Same.new hq
    have c2 : upd H1 q (.lst []) q = some (.lst []) := upd_same
    have d1 := s2 _ _ c1
    have hq0 := new_of s1 hq
    have s12 := s1.trans s2
    revert s2 c2 d1 s12
    generalize upd H1 q (.lst []) = H2
    intro s2 c2 d1 s12
    refine ⟨_, rfl, l, rfl, ⟨_, .inl (.inl (s12 _ _ hl))⟩, ?_⟩
    refine for_it (walk_list (xs := ps.map V.ref)) (fun i σ H' => ∃ (ln : Addr) (ns : List Nat) (st : Nat) (y4 y5 : Option V) (done : List (List Tk)), σ = [some (.ref l), some (.ref ln), some (.int (st : Int)), some (.ref q), y4, y5] ∧ ageTurns tss [] 0 = done ++ ageTurns (tss.drop i) ns st ∧ AgeAlls (tss.drop i) ns st ∧ Same H H' ∧ H' ln = some (.lst (natsV ns)) ∧ TT K H H' q done ∧ done.length = i ∧ ns.length ≤ (tss.take i).flatten.length ∧ ln ≠ q) ⟨a1, [], 0, _, _, [], rfl, rfl, hage, s12, d1, TT.nil c2 hq0, rfl, Nat.le_refl _, fun e => by rw [← e, c1] at hq; cases hq⟩ (fun i σ H' _ ⟨_, _, _, _, _, _, _, _, _, z, _⟩ => .inl (.inl (z _ _ hl))) ?_ ?_
    · rintro i x σ H'' H' hi ⟨ln, ns, st, y4, y5, done, rfl, h1, h2, s3, h3, h4, h5, h6, h7⟩ ⟨rfl, hx⟩
      rw [List.length_map] at hi
      rw [List.getElem?_map, List.getElem?_eq_getElem hi] at hx
      obtain rfl := Option.some.inj hx
      have ht : tss[i]? = some tss[i] := List.getElem?_eq_getElem (by omega)
      have hm : tss[i] ∈ tss := List.mem_of_getElem? ht
      obtain ⟨ws, w1, w2⟩ := hps i _ _ (List.getElem?_eq_getElem hi) ht
      obtain ⟨f1, f2⟩ := flat_take ht
      revert ht hm w2 f1 f2
      generalize tss[i]'(by omega) = ts
      intro ht hm w2 f1 f2
      rw [drop_one ht] at h1 h2
      obtain ⟨b1, b2⟩ := h2
      refine ⟨_, rfl, _, rfl, _, rfl, _, ln, ws, ts, ns, st, rfl, s3 _ _ w1, w2.mono s3, hok ts hm, by omega, h3, by omega, b1, fun p a5 a4 us H5 s5 p5 n5 n4 n54 q5 q6 q7 => ?_⟩
      obtain ⟨ps5, g1, g2⟩ : ∃ ps5 : List Addr, H' q = some (.lst (ps5.map V.ref)) ∧ a5 ∉ ps5 := by
        obtain ⟨ps5, g1, _, _, _, _, g6, g7⟩ := h4
        refine ⟨ps5, g1, fun hm => ?_⟩
        obtain ⟨j, hj⟩ := List.getElem?_of_mem hm
        have hjl := (List.getElem?_eq_some_iff.mp hj).1
        obtain ⟨ws, z, _⟩ := g7 j a5 _ hj (List.getElem?_eq_getElem (by omega))
        rw [z] at n5
        cases n5
      have n5q : a5 ≠ q := fun e => by rw [e, g1] at n5; cases n5
      have n4q : a4 ≠ q := fun e => by rw [e, g1] at n4; cases n4
      have tt := TT.push (h4.mono s5) (s5 _ _ g1) q5 g2 n5q (new_of s3 n5) q6
      refine ⟨p, _, rfl, .inl (.inl p5), rfl, _, _, rfl, _, _, rfl, _, _, rfl, rfl, ?_⟩
      refine ⟨_, rfl, .inl ⟨rfl, _, .inl (.inl (s5 _ _ g1))⟩, _, rfl, q, _, _, rfl, rfl, s5 _ _ g1, lt_sz ?_, ?_⟩
      · obtain ⟨ps6, g6, _, _, _, _, g7, _⟩ := h4
        have : ps6.map V.ref = ps5.map V.ref := by
          rw [g1] at g6
          injection g6 with g6
          injection g6 with g6
          exact g6.symm
        rw [← this, List.length_map, g7, h5]
        omega
      refine ⟨a4, (ageTurn ts ns st).lf, (ageTurn ts ns st).st, _, _, done ++ [(ageTurn ts ns st).tk], rfl, ?_, b2, Same.updN (s3.trans s5) hq0, ?_, tt, ?_, ?_, n4q⟩
      · rw [h1, List.append_assoc]; rfl
      · rw [L2.upd_ne n4q]; exact q7
      · rw [List.length_append, h5]; rfl
      · have := age_lf ts ⟨ns, ns, [], st⟩
        have e : (ageTurn ts ns st).lf.length ≤ ns.length + ts.length := this
        omega
    · rintro σ H' ⟨ln, ns, st, y4, y5, done, rfl, h1, h2, s3, h3, h4, h5, h6, h7⟩
      rw [List.length_map, List.drop_of_length_le (by omega)] at h1
      rw [show ageTurns tss [] 0 = done from h1.trans (List.append_nil _)] at k
      exact ⟨_, rfl, k _ _ s3 h4⟩
end
end Op
set_option pp.maxSteps 500
namespace Op
open PySem L2 PyProof.Rows
theorem opt_map {α : Type} (o : Option (List α)) : o.map (([] : List α) ++ ·) = o := by cases o <;> rfl
section
variable {P : Program} {w : World} {K : PySem.W.Frag} {mg : Str → Option Value} {base : Heap} {pF pO pN pL CH CA : Addr}
def spNums (K : PySem.W.Frag) : Sp := fun vs H Q _ => ∃ (l : Addr) (tss : List (List Tk)), vs = [.ref l] ∧ TR K H l tss ∧ (∀ ts ∈ tss, ∀ t ∈ ts, Okt t) ∧ tss.flatten.length ≤ 1000 ∧ tss.length ≤ 1000 ∧ (numTurns tss [] 0 = none → ∀ H', Same H H' → Q .non H') ∧
  ∀ told, numTurns tss [] 0 = some told → ∀ q H', Same H H' → TT K H H' q told → Q (.ref q) H'
theorem sc_turns_by_number : FnScope ["turns", "numbers", "started", "told", "turn", "found", "tokens"] ["turns"] (defScope s_turns_by_number) := ⟨rfl, rfl, rfl, by decide +kernel, rfl, by decide +kernel, by decide +kernel⟩
theorem ok_turns_by_number {f : Addr} {fd : FuncData} (F : Fun K "turns_by_number" "turns_by_number" s_turns_by_number f fd) (c_turn_by_number : Cal P w K mg base CX0 2 "turn_by_number" ["turn", "numbers", "started"] (spNum K)) : FnOk P w K mg base CX0 3 f fd ["turns"] (spNums K) := by
  refine F.ok sc_turns_by_number (fun vs H Q E h => ?_) (fun cdv A outer s H vs Q E hr h => ?_)
  · obtain ⟨l, tss, rfl, _⟩ := h
    rfl
  · obtain ⟨l, tss, rfl, ⟨ps, hl, hpl, hps⟩, hok, hn, hnl, kn, k⟩ := h
    refine ⟨_, (pss_cons (ps_set (i := 1) sc_turns_by_number.nd rfl (.inl rfl) (pe_lst pa_nil))
      (pss_cons (ps_set (i := 2) sc_turns_by_number.nd rfl (.inl rfl) pe_int)
      (pss_cons (ps_set (i := 3) sc_turns_by_number.nd rfl (.inl rfl) (pe_lst pa_nil))
      (pss_cons (ps_for PassesOwn.never rfl (pi_list (pv 0)) (pg_name (i := 4) sc_turns_by_number.nd rfl (.inl rfl)) (pss_cons (ps_set (i := 5) sc_turns_by_number.nd rfl (.inl rfl) (pe_cal c_turn_by_number (hr.mono (by omega)) rfl pass0 (pa_cons (pv 4) (pa_cons (pv 1) (pa_cons (pv 2) pa_nil)))))
      (pss_cons (ps_if (pt_cmpR op_isN (pv 5) pe_non (nomark _)) (pss_one (ps_ret pe_non)) pss_nil)
      (pss_cons (ps_asg (pv 5) (pg_tup rfl (pgs_cons (pg_name (i := 6) sc_turns_by_number.nd rfl (.inl rfl)) (pgs_cons (pg_name (i := 1) sc_turns_by_number.nd rfl (.inl rfl)) (pgs_cons (pg_name (i := 2) sc_turns_by_number.nd rfl (.inl rfl)) pgs_nil)))))
      (pss_one (ps_expr (pe_bm PySem.F.plainAttrs_list PySem.F.slot_list_append PySem.F.type_list_append mt_append (pv 3) (pa_cons (pv 6) pa_nil))))))))
      (pss_one (ps_ret (pv 3))))))), ?_⟩
    refine ⟨sz_lit (by show 0 ≤ 100000; decide), fun a1 ha1 => ?_⟩
    have s1 : Same H (upd H a1 (.lst [])) := Same.new ha1
    have c1 : upd H a1 (.lst []) a1 = some (.lst []) := upd_same
    revert s1 c1
    generalize upd H a1 (.lst []) = H1
    intro s1 c1
    refine ⟨sz_lit (by show 0 ≤ 100000; decide), fun q hq => ?_⟩
    have s2 : Same H1 (upd H1 q (.lst [])) := Same.new hq
    have c2 : upd H1 q (.lst []) q = some (.lst []) := upd_same
    have d1 := s2 _ _ c1
    have hq0 := new_of s1 hq
    have s12 := s1.trans s2
    revert s2 c2 d1 s12
    generalize upd H1 q (.lst []) = H2
    intro s2 c2 d1 s12
    refine ⟨_, rfl, l, rfl, ⟨_, .inl (.inl (s12 _ _ hl))⟩, ?_⟩
    refine for_it (walk_list (xs := ps.map V.ref)) (fun i σ H' => ∃ (ln : Addr) (ns : List Nat) (st : Nat) (y4 y5 y6 : Option V) (done : List (List Tk)), σ = [some (.ref l), some (.ref ln), some (.int (st : Int)), some (.ref q), y4, y5, y6] ∧ numTurns tss [] 0 = (numTurns (tss.drop i) ns st).map (done ++ ·) ∧ Same H H' ∧ H' ln = some (.lst (natsV ns)) ∧ TT K H H' q done ∧ done.length = i ∧ ns.length ≤ (tss.take i).flatten.length ∧ ln ≠ q) ⟨a1, [], 0, _, _, _, [], rfl, (opt_map _).symm, s12, d1, TT.nil c2 hq0, rfl, Nat.le_refl _, fun e => by rw [← e, c1] at hq; cases hq⟩ (fun i σ H' _ ⟨_, _, _, _, _, _, _, _, _, z, _⟩ => .inl (.inl (z _ _ hl))) ?_ ?_
    · rintro i x σ H'' H' hi ⟨ln, ns, st, y4, y5, y6, done, rfl, h1, s3, h3, h4, h5, h6, h7⟩ ⟨rfl, hx⟩
      rw [List.length_map] at hi
      rw [List.getElem?_map, List.getElem?_eq_getElem hi] at hx
      obtain rfl := Option.some.inj hx
      have ht : tss[i]? = some tss[i] := List.getElem?_eq_getElem (by omega)
      have hm : tss[i] ∈ tss := List.mem_of_getElem? ht
      obtain ⟨ws, w1, w2⟩ := hps i _ _ (List.getElem?_eq_getElem hi) ht
      obtain ⟨f1, f2⟩ := flat_take ht
      revert ht hm w2 f1 f2
      generalize tss[i]'(by omega) = ts
      intro ht hm w2 f1 f2
      rw [drop_one ht] at h1
      refine ⟨_, rfl, _, rfl, _, rfl, _, ln, ws, ts, ns, st, rfl, s3 _ _ w1, w2.mono s3, hok ts hm, by omega, h3, by omega, fun e H5 s5 => ?_, fun sg e p a5 a4 us H5 s5 p5 n5 n4 n54 q5 q6 q7 => ?_⟩
      · have e2 : numTurns tss [] 0 = none := by
          rw [h1]
          unfold numTurns
          rw [e]
          rfl
        exact ⟨_, rfl, rfl, _, rfl, ifT rfl (kn e2 _ (s3.trans s5))⟩
      obtain ⟨ps5, g1, g2⟩ : ∃ ps5 : List Addr, H' q = some (.lst (ps5.map V.ref)) ∧ a5 ∉ ps5 := by
        obtain ⟨ps5, g1, _, _, _, _, g6, g7⟩ := h4
        refine ⟨ps5, g1, fun hm => ?_⟩
        obtain ⟨j, hj⟩ := List.getElem?_of_mem hm
        have hjl := (List.getElem?_eq_some_iff.mp hj).1
        obtain ⟨ws, z, _⟩ := g7 j a5 _ hj (List.getElem?_eq_getElem (by omega))
        rw [z] at n5
        cases n5
      have n5q : a5 ≠ q := fun e => by rw [e, g1] at n5; cases n5
      have n4q : a4 ≠ q := fun e => by rw [e, g1] at n4; cases n4
      have tt := TT.push (h4.mono s5) (s5 _ _ g1) q5 g2 n5q (new_of s3 n5) q6
      refine ⟨_, rfl, rfl, _, rfl, ifF rfl ⟨_, rfl, p, _, rfl, .inl (.inl p5), rfl, _, _, rfl, _, _, rfl, _, _, rfl, rfl, ?_⟩⟩
      refine ⟨_, rfl, .inl ⟨rfl, _, .inl (.inl (s5 _ _ g1))⟩, _, rfl, q, _, _, rfl, rfl, s5 _ _ g1, lt_sz ?_, ?_⟩
      · obtain ⟨ps6, g6, _, _, _, _, g7, _⟩ := h4
        have : ps6.map V.ref = ps5.map V.ref := by
          rw [g1] at g6
          injection g6 with g6
          injection g6 with g6
          exact g6.symm
        rw [← this, List.length_map, g7, h5]
        omega
      refine ⟨a4, sg.lf, sg.st, _, _, _, done ++ [sg.tk], rfl, ?_, Same.updN (s3.trans s5) hq0, ?_, tt, ?_, ?_, n4q⟩
      · rw [h1]
        conv => lhs; unfold numTurns
        rw [e]
        dsimp only
        rw [Option.map_map]
        congr 1
        funext z
        rw [List.append_assoc]
        rfl
      · rw [L2.upd_ne n4q]; exact q7
      · rw [List.length_append, h5]; rfl
      · have := num_lf ts ⟨ns, ns, [], st⟩ sg e
        have e : sg.lf.length ≤ ns.length + ts.length := this
        omega
    · rintro σ H' ⟨ln, ns, st, y4, y5, y6, done, rfl, h1, s3, h3, h4, h5, h6, h7⟩
      rw [List.length_map, List.drop_of_length_le (by omega)] at h1
      exact ⟨_, rfl, k done (h1.trans (congrArg some (List.append_nil _))) _ _ s3 h4⟩
end
end Op
set_option pp.maxSteps 500
namespace Op
open PySem L2 PyProof.Rows
theorem okt_short {t : Tk} (h : Okt t) : Short t.d := by
  intro k ps e x hx
  obtain ⟨_, _, _, hw⟩ := h
  unfold Tk.d at e
  injection e with e
  injection e with _ e
  rw [← e] at hx
  unfold Tk.parts at hx
  rcases List.mem_append.mp hx with hx | hx
  · obtain ⟨n, _, e⟩ := List.mem_map.mp hx
    cases e
  · obtain ⟨z, hz, e⟩ := List.mem_map.mp hx
    injection e with e
    subst e
    have h1 := (Bool.and_eq_true_iff.mp (hw z hz)).1
    have h2 := of_decide_eq_true h1
    omega
/-- the first fault of a history -/
def chkH (ts : List Tk) : Option Nat := if ts = [] then some 0 else chk ts 0 [] false
theorem enter_len (t : Tk) (th : List Str) : (enter t th).length ≤ th.length + 1 := by
  unfold enter
  split
  · rw [List.length_append]; exact Nat.le_refl _
  · split
    · rw [List.length_append]; exact Nat.le_refl _
    · split
      · exact Nat.le_succ _
      · rw [List.length_set]; exact Nat.le_succ _
section
variable {P : Program} {w : World} {K : PySem.W.Frag} {mg : Str → Option Value} {base : Heap} {pF pO pN pL CH CA : Addr}
def spCheckT (K : PySem.W.Frag) (CH : Addr) : Sp := fun vs H Q X => ∃ (l : Addr) (us : List V) (ts : List Tk), vs = [.ref l] ∧ H l = some (.lst us) ∧ Tks K H us ts ∧ (∀ t ∈ ts, Okt t) ∧ ts.length ≤ 1000 ∧ (chkH ts = none → ∀ H', Same H H' → Q .non H') ∧ (chkH ts ≠ none → ∀ H' d, Same H H' → X (.ref CH) (some d) H')
theorem sc_check_tokens : FnScope ["history", "things", "is_over", "at", "token"] ["history"] (defScope s_check_tokens) := ⟨rfl, rfl, rfl, by decide +kernel, rfl, by decide +kernel, by decide +kernel⟩
theorem ok_check_tokens {f : Addr} {fd : FuncData} (F : Fun K "check_tokens" "check_tokens" s_check_tokens f fd) (T : TxtH P w K mg pF pO pN pL CH CA) (c_has_form : Cal P w K mg base CX0 2 "has_form" ["token"] (spForm K)) (c_suits_things : Cal P w K mg base CX0 1 "suits_things" ["token", "things"] (spSuits K)) (c_enter_token : Cal P w K mg base CX0 1 "enter_token" ["token", "things"] (spEnter K)) :
    FnOk P w K mg base (L2.CX P w) 3 f fd ["history"] (spCheckT K CH) := by
  refine F.okX sc_check_tokens (fun vs H Q E h => ?_) (fun cdv A outer s H vs Q E hr h => ?_)
  · obtain ⟨l, us, ts, rfl, _⟩ := h
    rfl
  · obtain ⟨l, us, ts, rfl, hl, ht, hok, hn, k1, k2⟩ := h
    have hul := ht.len
    refine ⟨_, (pss_cons (ps_if (pt_not (pt_val (pe_callB call_isi (by rfl) T.b_isinstance (by decide +kernel) (pa_cons (pv 0) (pa_cons (pe_bltn (v := .ty "list") (by rfl) T.b_list (by decide +kernel) rfl) pa_nil))))) (pss_one (ps_raise rfl (takes_of rfl rfl rfl rfl) (pmk_x T.mk_InvalidHistory hr rfl T.g_InvalidHistory T.k_InvalidHistory T.r_InvalidHistory (pa_cons (pe_un un_neg pe_int) pa_nil)))) pss_nil)
      (pss_cons (ps_if (pt_cmpR op_eq (pe_callB call_len_seq (by rfl) T.b_len (by decide +kernel) (pa_cons (pv 0) pa_nil)) pe_int (nomark _)) (pss_one (ps_raise rfl (takes_of rfl rfl rfl rfl) (pmk_x T.mk_InvalidHistory hr rfl T.g_InvalidHistory T.k_InvalidHistory T.r_InvalidHistory (pa_cons pe_int pa_nil)))) pss_nil)
      (pss_cons (ps_set (i := 1) sc_check_tokens.nd rfl (.inl rfl) (pe_lst pa_nil))
      (pss_cons (ps_set (i := 2) sc_check_tokens.nd rfl (.inl rfl) pe_bl)
      (pss_one (ps_for (passes_of rfl) rfl (pi_enum (by rfl) T.b_enumerate (pa_cons (pv 0) pa_nil)) (pg_tup rfl (pgs_cons (pg_name (i := 3) sc_check_tokens.nd rfl (.inl rfl)) (pgs_cons (pg_name (i := 4) sc_check_tokens.nd rfl (.inl rfl)) pgs_nil))) (pss_cons (ps_if (PW.pt (pw_or (pt_val (pv 2)) (pw_or (pt_not (pt_val (pe_cal c_has_form (hr.mono (by omega)) rfl pass0 (pa_cons (pv 4) pa_nil)))) (pw_or1 (pt_cmpR op_ne (pe_cmpR op_eq (pe_ix ix_tup (pv 4) pe_int (fun _ _ => rfl)) pe_str (nomark _)) (pe_cmpR op_eq (pv 3) pe_int (nomark _)) (nomark _)))))) (pss_one (ps_raise rfl (takes_of rfl rfl rfl rfl) (pmk_x T.mk_InvalidHistory hr rfl T.g_InvalidHistory T.k_InvalidHistory T.r_InvalidHistory (pa_cons (pv 3) pa_nil)))) pss_nil)
      (pss_cons (ps_if (pt_not (pt_val (pe_cal c_suits_things (hr.mono (by omega)) rfl pass0 (pa_cons (pv 4) (pa_cons (pv 1) pa_nil))))) (pss_one (ps_raise rfl (takes_of rfl rfl rfl rfl) (pmk_x T.mk_InvalidHistory hr rfl T.g_InvalidHistory T.k_InvalidHistory T.r_InvalidHistory (pa_cons (pv 3) pa_nil)))) pss_nil)
      (pss_cons (ps_expr (pe_cal c_enter_token (hr.mono (by omega)) rfl pass0 (pa_cons (pv 4) (pa_cons (pv 1) pa_nil))))
      (pss_one (ps_set (i := 2) sc_check_tokens.nd rfl (.inl rfl) (pe_cmpR op_in_seq (pe_ix ix_tup (pv 4) pe_int (fun _ _ => rfl)) (pe_gref rfl T.g_LAST) (by rfl))))))))))))), ?_⟩
    refine ⟨_, rfl, .ref l, _, _, _, _, rfl, .ty _, ty_dp (.lst (.inl (.inl hl)) ht), kit_list _, _, rfl, ifF rfl ?_⟩
    refine ⟨_, rfl, l, us, rfl, .inl (.inl (.inl hl)), rfl, _, rfl, ?_⟩
    by_cases hts : ts = []
    · subst hts
      obtain rfl : us = [] := List.length_eq_zero_iff.mp hul
      exact ifT rfl ⟨rfl, fun d hd => k2 (by unfold chkH; rw [if_pos rfl]; exact fun h => by cases h) _ d (Same.new hd)⟩
    have hc0 : chkH ts = chk ts 0 [] false := if_neg hts
    rw [hc0] at k1 k2
    have hus : 0 < us.length := by
      rw [hul]
      exact List.length_pos_iff.mpr hts
    refine ifF (decide_eq_false (by intro z; injection z with z; omega)) ⟨sz_lit (by show 0 ≤ 100000; decide), fun q hq => ?_⟩
    have s1 : Same H (upd H q (.lst [])) := Same.new hq
    have c1 : upd H q (.lst []) q = some (.lst []) := upd_same
    revert s1 c1
    generalize upd H q (.lst []) = H1
    intro s1 c1
    refine ⟨_, rfl, l, us, rfl, .inl (.inl (s1 _ _ hl)), ?_⟩
    refine for_it walk_enum (fun i σ H' => ∃ (th : List Str) (ov : Bool) (y3 y4 : Option V), σ = [some (.ref l), some (.ref q), some (.bl ov), y3, y4] ∧ Same H H' ∧ H' q = some (.lst (th.map V.str)) ∧ chk ts 0 [] false = chk (ts.drop i) i th ov ∧ th.length ≤ i) ⟨[], false, _, _, rfl, s1, c1, rfl, Nat.le_refl _⟩ (fun i σ H' _ ⟨_, _, _, _, _, z, _⟩ => .inl (.inl (z _ _ hl))) ?_ ?_
    · rintro i v σ H1 H2 hi ⟨th, ov, y3, y4, rfl, s2, h2, h3, h4⟩ ⟨T0, x0, y, rfl, hT0, rfl, hx0, hy⟩
      obtain rfl : x0 = .int (i : Nat) := (Option.some.inj hx0).symm
      obtain ⟨t, ht1, hd⟩ := ht.get hy
      rw [drop_one ht1] at h3
      have hkt := hok t (List.mem_of_getElem? ht1)
      refine ⟨T0, _, rfl, .inl (.inl upd_same), rfl, _, _, rfl, _, _, rfl, rfl, ?_⟩
      have sm : Same H1 (upd H1 T0 (.tup [.int (i : Nat), y])) := Same.new hT0
      have s3 := s2.trans sm
      have g2 := sm _ _ h2
      revert s3 g2
      generalize upd H1 T0 (.tup [.int (i : Nat), y]) = H3
      intro s3 g2
      have bad : (ov = true ∨ decide (t.k = "begin") ≠ decide (i = 0)) ∨ suits t th = false → chk ts 0 [] false ≠ none := fun h => by
        rw [h3]
        unfold chk
        by_cases h' : ov = true ∨ decide (t.k = "begin") ≠ decide (i = 0)
        · rw [if_pos h']
          exact fun h => by cases h
        · rw [if_neg h', if_neg (by rw [h.resolve_left h']; exact Bool.false_ne_true)]
          exact fun h => by cases h
      refine ⟨_, rfl, _, rfl, ?_⟩
      cases ov with
      | true => exact ifT rfl (ifT rfl ⟨_, rfl, rfl, fun d hd => k2 (bad (.inl (.inl rfl))) _ d (s3.trans (Same.new hd))⟩)
      | false =>
      refine ifF rfl ⟨_, rfl, y, t.d, rfl, hd.mono s3, okt_short hkt, fun H4 s4 => ⟨_, rfl, ?_⟩⟩
      rw [(hasForm_iff t.d).mpr ⟨t, hkt, rfl⟩]
      have s5 := s3.trans s4
      have g3 := s4 _ _ g2
      have d3 := hd.mono s5
      obtain ⟨a, rfl, ha⟩ := tk_at d3
      refine ifF rfl ⟨_, rfl, a, _, 0, _, rfl, rfl, ha, atI_zero _ _, rfl, _, rfl, rfl, rfl, _, rfl, ?_⟩
      rw [dec_strV, show decide (V.int (i : Nat) = V.int 0) = decide (i = 0) from decide_eq_decide.mpr ⟨fun h => by injection h with h; omega, fun h => by rw [h]; rfl⟩]
      by_cases hb : decide (t.k = "begin") ≠ decide (i = 0)
      · exact ifT (by simpa using hb) ⟨_, rfl, rfl, fun d hd => k2 (bad (.inl (.inr hb))) _ d (s5.trans (Same.new hd))⟩
      refine ifF (by simpa using hb) ?_
      refine ⟨_, rfl, _, rfl, _, t, q, th, rfl, d3, hkt, g3, by omega, _, rfl, ?_⟩
      by_cases hs : suits t th = true
      · rw [hs]
        have hin : ∀ n, t.n = some n → n < th.length := fun n hn => by
          unfold suits at hs
          rw [hn] at hs
          dsimp only at hs
          cases z : th[n]? with
          | none => rw [z] at hs; cases hs
          | some x => exact (List.getElem?_eq_some_iff.mp z).1
        refine ifF rfl ⟨_, rfl, _, rfl, _, t, q, th, rfl, d3, hkt, g3, by omega, hin, ?_⟩
        refine ⟨_, rfl, a, _, 0, _, rfl, rfl, sqt_updL ha g3, atI_zero _ _, pL, _, rfl, .inr (T.s_LAST _), rfl, flat_strs _, ?_⟩
        have e1 : inV (.str t.k) (sLast.map V.str) = isLast t := inV_st t.k sLast
        rw [e1]
        have h5 := enter_len t th
        refine ⟨enter t th, isLast t, some (.int (i : Nat)), some (.ref a), rfl, Same.updN s5 hq, upd_same, ?_, by omega⟩
        rw [h3]
        conv => lhs; unfold chk
        rw [if_neg (by rintro (h | h); cases h; exact hb h), if_pos hs]
      · have hs' := Bool.eq_false_iff.mpr hs
        rw [hs']
        exact ifT rfl ⟨_, rfl, rfl, fun d hd => k2 (bad (.inr hs')) _ d (s5.trans (Same.new hd))⟩
    · rintro σ H' ⟨th, ov, y3, y4, rfl, s2, h2, h3, h4⟩
      rw [List.drop_of_length_le (by omega)] at h3
      exact k1 h3 _ s2
end
end Op
set_option pp.maxSteps 500
namespace Op
open PySem L2 PyProof.Rows
theorem TT.from {K : PySem.W.Frag} {H H2 H' : Hp} {q : Addr} {tss : List (List Tk)} (h : TT K H2 H' q tss) (s : Same H H2) : TT K H H' q tss := by
  obtain ⟨ps, h1, h2, h3, h4, h5, h6, h7⟩ := h
  exact ⟨ps, h1, new_of s h2, h3, h4, fun p hp => new_of s (h5 p hp), h6, h7⟩
theorem chk_out {ts : List Tk} (h : chkH ts = none) : ∀ t, ts[0]? = some t → isOut t = true := by
  intro t ht
  cases ts with
  | nil => cases ht
  | cons a r =>
    obtain rfl := Option.some.inj ht
    unfold chkH at h
    rw [if_neg (List.cons_ne_nil _ _)] at h
    unfold chk at h
    by_cases hb : a.k = "begin"
    · unfold isOut
      rw [hb]
      decide +kernel
    · rw [if_pos (.inr (by rw [decide_eq_false hb]; decide))] at h
      cases h
theorem split_count {ts : List Tk} : (split ts).length ≤ ts.length := by
  have := split_len ts []
  rw [List.length_nil, Nat.zero_add] at this
  exact this
def turnOk : PyData → Bool
  | .list es => es.all hasForm
  | _ => false
def areT : PyData → Bool
  | .list ds => ds.all turnOk
  | _ => false
def ShortT (d : PyData) : Prop := ∀ ds, d = .list ds → ∀ es, PyData.list es ∈ ds → ∀ t ∈ es, Short t
section
variable {P : Program} {w : World} {K : PySem.W.Frag} {mg : Str → Option Value} {base : Heap} {pF pO pN pL CH CA : Addr}
def spAged (K : PySem.W.Frag) : Sp := fun vs H Q _ => ∃ (l : Addr) (us : List V) (ts : List Tk), vs = [.ref l] ∧ H l = some (.lst us) ∧ Tks K H us ts ∧ (∀ t ∈ ts, Okt t) ∧ ts.length ≤ 1000 ∧ chkH ts = none ∧ AgeAlls (split ts) [] 0 ∧ ∀ q H', Same H H' → TT K H H' q (ageTurns (split ts) [] 0) → Q (.ref q) H'
theorem sc_aged : FnScope ["history"] ["history"] (defScope s_aged) := ⟨rfl, rfl, rfl, by decide +kernel, rfl, by decide +kernel, by decide +kernel⟩
theorem ok_aged {f : Addr} {fd : FuncData} (F : Fun K "aged" "aged" s_aged f fd) (c_check_tokens : Cal P w K mg base (L2.CX P w) 3 "check_tokens" ["history"] (spCheckT K CH)) (c_split_turns : Cal P w K mg base CX0 2 "split_turns" ["history"] (spSplit K)) (c_turns_by_age : Cal P w K mg base CX0 3 "turns_by_age" ["turns"] (spAges K)) :
    FnOk P w K mg base (L2.CX P w) 4 f fd ["history"] (spAged K) := by
  refine F.okX sc_aged (fun vs H Q E h => ?_) (fun cdv A outer s H vs Q E hr h => ?_)
  · obtain ⟨l, us, ts, rfl, _⟩ := h
    rfl
  · obtain ⟨l, us, ts, rfl, hl, ht, hok, hn, hc, hage, k⟩ := h
    refine ⟨_, (pss_cons (ps_expr (pe_cal c_check_tokens (hr.mono (by omega)) rfl (passes_call (takes_of rfl rfl rfl rfl) (fun _ _ _ _ h => h)) (pa_cons (pv 0) pa_nil)))
      (pss_one (ps_ret (pe_cal c_turns_by_age (hr.mono (by omega)) rfl pass0 (pa_cons (pe_cal c_split_turns (hr.mono (by omega)) rfl pass0 (pa_cons (pv 0) pa_nil)) pa_nil))))), ?_⟩
    refine ⟨_, rfl, l, us, ts, rfl, hl, ht, hok, hn, fun _ H1 s1 => ?_, fun h => absurd hc h⟩
    refine ⟨_, rfl, l, us, ts, rfl, s1 _ _ hl, ht.mono s1, hn, chk_out hc, fun q H2 s2 t2 => ?_⟩
    have fl := split_flat (chk_out hc)
    refine ⟨q, split ts, rfl, t2.r, fun x hx t htx => hok t ?_, by rw [fl]; exact hn, Nat.le_trans split_count hn, hage, fun q' H3 s3 t3 => k _ _ ((s1.trans s2).trans s3) (t3.from (s1.trans s2))⟩
    rw [← fl]
    exact List.mem_flatten.mpr ⟨x, hx, htx⟩
def spAreT (K : PySem.W.Frag) : Sp := fun vs H Q _ => ∃ (v : V), vs = [v] ∧ ((∃ d, Dp K H v d ∧ ShortT d ∧ ∀ H', Same H H' → Q (.bl (areT d)) H') ∨ (∃ p o, v = .ref p ∧ H p = some (.dK o) ∧ Q (.bl false) H))
theorem sc_are_turns : FnScope ["value", "turn", "token"] ["value"] (defScope s_are_turns) := ⟨rfl, rfl, rfl, by decide +kernel, rfl, by decide +kernel, by decide +kernel⟩
theorem ok_are_turns {f : Addr} {fd : FuncData} (F : Fun K "are_turns" "are_turns" s_are_turns f fd) (T : TxtH P w K mg pF pO pN pL CH CA) (c_has_form : Cal P w K mg base CX0 2 "has_form" ["token"] (spForm K)) : FnOk P w K mg base CX0 3 f fd ["value"] (spAreT K) := by
  refine F.ok sc_are_turns (fun vs H Q E h => ?_) (fun cdv A outer s H vs Q E hr h => ?_)
  · obtain ⟨v, rfl, _⟩ := h
    rfl
  · obtain ⟨v, rfl, h⟩ := h
    refine ⟨_, (pss_cons (ps_if (pt_not (pt_val (pe_callB call_isi (by rfl) T.b_isinstance (by decide +kernel) (pa_cons (pv 0) (pa_cons (pe_bltn (v := .ty "list") (by rfl) T.b_list (by decide +kernel) rfl) pa_nil))))) (pss_one (ps_ret pe_bl)) pss_nil)
      (pss_cons (ps_for PassesOwn.never rfl (pi_list (pv 0)) (pg_name (i := 1) sc_are_turns.nd rfl (.inl rfl)) (pss_cons (ps_if (pt_not (pt_val (pe_callB call_isi (by rfl) T.b_isinstance (by decide +kernel) (pa_cons (pv 1) (pa_cons (pe_bltn (v := .ty "list") (by rfl) T.b_list (by decide +kernel) rfl) pa_nil))))) (pss_one (ps_ret pe_bl)) pss_nil)
      (pss_one (ps_for PassesOwn.never rfl (pi_list (pv 1)) (pg_name (i := 2) sc_are_turns.nd rfl (.inl rfl)) (pss_one (ps_if (pt_not (pt_val (pe_cal c_has_form (hr.mono (by omega)) rfl pass0 (pa_cons (pv 2) pa_nil)))) (pss_one (ps_ret pe_bl)) pss_nil))))))
      (pss_one (ps_ret pe_bl)))), ?_⟩
    rcases h with ⟨d, hd, hsh, k⟩ | ⟨p, o, rfl, hp, k⟩
    · refine ⟨_, rfl, v, _, _, _, _, rfl, .ty _, ty_dp hd, kit_list d, _, rfl, ?_⟩
      cases hd with
      | @lst l xs ds hl ha =>
        refine ifF rfl ⟨_, rfl, l, rfl, ⟨_, hl⟩, ?_⟩
        have hxl := ha.len
        unfold areT at k
        dsimp only at k
        refine for_it (walk_list (xs := xs)) (fun i σ H' => (∃ y1 y2 : Option V, σ = [some (.ref l), y1, y2]) ∧ Same H H' ∧ ((ds.take i).all turnOk) = true) ⟨⟨_, _, rfl⟩, Same.refl _, rfl⟩ (fun i σ H' _ z => hl.mono z.2.1) ?_ ?_
        · rintro i x σ H'' H' hi ⟨⟨y1, y2, rfl⟩, s2, hall⟩ ⟨rfl, hx⟩
          obtain ⟨d, hd1, hdx⟩ := ha.get hx
          have hdx := hdx.mono s2
          have bad : turnOk d = false → ds.all turnOk = false := fun e => by
            refine Bool.eq_false_iff.mpr fun z => ?_
            have := List.all_eq_true.mp z d (List.mem_of_getElem? hd1)
            rw [e] at this
            cases this
          refine ⟨_, rfl, x, _, _, _, _, rfl, .ty _, ty_dp hdx, kit_list d, _, rfl, ?_⟩
          cases hdx with
          | @lst l2 xs2 es hl2 ha2 =>
            refine ifF rfl ⟨_, rfl, l2, rfl, ⟨_, hl2⟩, ?_⟩
            have hxl2 := ha2.len
            refine for_it (walk_list (xs := xs2)) (fun j σ H2 => (∃ y2 : Option V, σ = [some (.ref l), some (.ref l2), y2]) ∧ Same H' H2 ∧ ((es.take j).all hasForm) = true) ⟨⟨_, rfl⟩, Same.refl _, rfl⟩ (fun i σ H' _ z => hl2.mono z.2.1) ?_ ?_
            · rintro j y σ H3'' H3 hj ⟨⟨y2, rfl⟩, s3, hall2⟩ ⟨rfl, hy⟩
              obtain ⟨e, he1, hey⟩ := ha2.get hy
              refine ⟨_, rfl, y, e, rfl, hey.mono s3, hsh ds rfl es (List.mem_of_getElem? hd1) e (List.mem_of_getElem? he1), fun H4 s4 => ⟨_, rfl, ?_⟩⟩
              by_cases hf : hasForm e = true
              · rw [hf]
                refine ifF rfl ⟨⟨_, rfl⟩, s3.trans s4, ?_⟩
                rw [TS.take_one he1, List.all_append, hall2, List.all_cons, hf]
                rfl
              · have hf := Bool.eq_false_iff.mpr hf
                rw [hf]
                rw [bad (Bool.eq_false_iff.mpr fun z => by
                  have := List.all_eq_true.mp z e (List.mem_of_getElem? he1)
                  rw [hf] at this
                  cases this)] at k
                exact ifT rfl (k _ ((s2.trans s3).trans s4))
            · rintro σ H3 ⟨⟨y2, rfl⟩, s3, hall2⟩
              rw [List.take_of_length_le (by omega)] at hall2
              refine ⟨⟨_, _, rfl⟩, s2.trans s3, ?_⟩
              rw [TS.take_one hd1, List.all_append, hall, List.all_cons]
              show (true && (es.all hasForm && true)) = true
              rw [hall2]
              rfl
          | _ =>
            rw [bad rfl] at k
            exact ifT rfl (k _ s2)
        · rintro σ H' ⟨⟨y1, y2, rfl⟩, s2, hall⟩
          rw [List.take_of_length_le (by omega)] at hall
          rw [hall] at k
          exact k _ s2
      | _ => exact ifT rfl (k _ (Same.refl _))
    · refine ⟨_, rfl, .ref p, _, _, _, _, rfl, .ty _, TyX.base (.dK hp), kit_ty (show kitB "dict" "list" = some false by decide +kernel), _, rfl, ifT rfl k⟩
end
end Op
set_option pp.maxSteps 500
namespace L2
open PySem PySem.Spec PyProof.Rows
/-- as pmk_xN; the record of the new exception has its six fields -/
theorem pmk_xN5 {X : Cx} {x : Str} {C : Addr} {n k : Nat} {e : Expr} {es : List Expr} {ta : TA} {p pos : Pos} {gV : List V → List V → List (Str × V)} (M : XMk X.prog X.w X.K C n [] gV) (hr : L2H.RoomH k X.A) (hg : Gl X x) (hm : X.mg x = some (.ref C)) (kp : PySem.W.keepIn X.K (.ref C) = true) (rs : Raises X (.ref C)) (ha : PA X (e :: es) ta)
    (hdb : (x == ("__debug__" : Str)) = false := by decide) (he : starEach (e :: es) X.env = (false, eval e X.env) :: starEach es X.env := by rfl) (hpl : (backTo pos (starEach es X.env)).any (·.1) = false := by rfl) :
    L2H.PMk5 X (.Call (.Name x p) (e :: es) [] pos) (tXmk C n gV ta) := by
  intro pins s σ H Q I h
  refine wpAny_Call_Name_kw (ld_glob I hg hm ?_ hdb)
  refine PySem.W.callWith_K (h₀ := X.base) I.ok.mod.kin kp (thn (ha.run pos pins s σ H _ I h) fun us s1 ⟨vs, H1, I1, r1, l1, q1⟩ => ⟨I1.kIn, ?_⟩) he hpl
  show wpAny _ _ (call (.ref C) us) _ _ _
  refine wpAny_call (M _ s1 _ us [] vs [] r1 .nil (r1.length.symm.trans l1) rfl I1.kIn I1.xtop (by have := hr.dp; omega) fun h' tk' e' d mm O rel => ?_)
  obtain ⟨hp, g, dr, tk, os⟩ := s1
  obtain ⟨t1, hoe⟩ := O.obj
  obtain ⟨G', g1, g2⟩ := restrict h' fun b => decide (b ≠ e')
  have gk : ∀ b, b ≠ e' → G'.get? b = h'.get? b := fun b hb => g1 b (decide_eq_true hb)
  have ge : G'.get? e' = none := g2 e' (by simp)
  have old : ∀ b o, hp.get? b = some o → G'.get? b = some o := fun b o q => (gk b (Nat.ne_of_lt (Nat.lt_of_lt_of_le (Heap.lt_size q) O.new))).trans (O.keep b o q)
  have ob : ObjOk X.prog X.w (upd H1 d (.xd (gV vs []))) G' d (.xd (gV vs [])) := ⟨_, O.ns.at (fun o q => (gk d O.dne).trans q), rel⟩
  have J : Inv X pins σ (upd H1 d (.xd (gV vs []))) ⟨G', g, dr, tk', os⟩ := I1.laid (t' := tk') old O.dbig ob
  refine ⟨⟨e', _, _, ⟨G', g, dr, tk', os⟩, _, .ref C, some d, rfl, J, fun b o q => ?_, ge, hoe, ⟨rfl, rfl, fun vs e => by cases e; rfl⟩, rfl, rfl, ?_, rfl, I1.bare, rs, q1 d (I1.hok.fresh O.dbig)⟩, fun a oe vs ea hg hd => ?_⟩
  · by_cases hb : b = e'
    · have q' : G'.get? b = some o := q
      rw [hb, ge] at q'; cases q'
    · exact (gk b hb).symm.trans q
  · rw [upd_ne (Ne.symm O.dne)]
    exact I1.hok.fresh O.new
  · cases ea
    have hg' : h'.get? e' = some oe := hg
    rw [hoe] at hg'
    cases hg'
    cases hd
    show (4 : Nat) < 6
    decide
end L2
set_option pp.maxSteps 500
namespace Op
open PySem L2 PyProof.Rows
section
variable {P : Program} {w : World} {K : PySem.W.Frag} {mg : Str → Option Value} {base : Heap} {pF pO pN pL CH CA : Addr}
theorem ok_check_tokensN {f : Addr} {fd : FuncData} (F : Fun K "check_tokens" "check_tokens" s_check_tokens f fd) (T : TxtH P w K mg pF pO pN pL CH CA) (c_has_form : Cal P w K mg base CX0 2 "has_form" ["token"] (spForm K)) (c_suits_things : Cal P w K mg base CX0 1 "suits_things" ["token", "things"] (spSuits K)) (c_enter_token : Cal P w K mg base CX0 1 "enter_token" ["token", "things"] (spEnter K)) :
    FnOk P w K mg base (L2N.CX P w) 3 f fd ["history"] (spCheckT K CH) := by
  refine F.okN sc_check_tokens (fun vs H Q E h => ?_) (fun cdv A outer s H vs Q E hr h => ?_)
  · obtain ⟨l, us, ts, rfl, _⟩ := h
    rfl
  · obtain ⟨l, us, ts, rfl, hl, ht, hok, hn, k1, k2⟩ := h
    have hul := ht.len
    refine ⟨_, (pss_cons (ps_if (pt_not (pt_val (pe_callB call_isi (by rfl) T.b_isinstance (by decide +kernel) (pa_cons (pv 0) (pa_cons (pe_bltn (v := .ty "list") (by rfl) T.b_list (by decide +kernel) rfl) pa_nil))))) (pss_one (L2N.ps_raise rfl (L2N.takes_of rfl rfl rfl rfl) (pmk_xN T.mk_InvalidHistory hr rfl T.g_InvalidHistory T.k_InvalidHistory T.r_InvalidHistory (pa_cons (pe_un un_neg pe_int) pa_nil)))) pss_nil)
      (pss_cons (ps_if (pt_cmpR op_eq (pe_callB call_len_seq (by rfl) T.b_len (by decide +kernel) (pa_cons (pv 0) pa_nil)) pe_int (nomark _)) (pss_one (L2N.ps_raise rfl (L2N.takes_of rfl rfl rfl rfl) (pmk_xN T.mk_InvalidHistory hr rfl T.g_InvalidHistory T.k_InvalidHistory T.r_InvalidHistory (pa_cons pe_int pa_nil)))) pss_nil)
      (pss_cons (ps_set (i := 1) sc_check_tokens.nd rfl (.inl rfl) (pe_lst pa_nil))
      (pss_cons (ps_set (i := 2) sc_check_tokens.nd rfl (.inl rfl) pe_bl)
      (pss_one (ps_for (passes_of rfl) rfl (pi_enum (by rfl) T.b_enumerate (pa_cons (pv 0) pa_nil)) (pg_tup rfl (pgs_cons (pg_name (i := 3) sc_check_tokens.nd rfl (.inl rfl)) (pgs_cons (pg_name (i := 4) sc_check_tokens.nd rfl (.inl rfl)) pgs_nil))) (pss_cons (ps_if (PW.pt (pw_or (pt_val (pv 2)) (pw_or (pt_not (pt_val (pe_cal c_has_form (hr.mono (by omega)) rfl pass0 (pa_cons (pv 4) pa_nil)))) (pw_or1 (pt_cmpR op_ne (pe_cmpR op_eq (pe_ix ix_tup (pv 4) pe_int (fun _ _ => rfl)) pe_str (nomark _)) (pe_cmpR op_eq (pv 3) pe_int (nomark _)) (nomark _)))))) (pss_one (L2N.ps_raise rfl (L2N.takes_of rfl rfl rfl rfl) (pmk_xN T.mk_InvalidHistory hr rfl T.g_InvalidHistory T.k_InvalidHistory T.r_InvalidHistory (pa_cons (pv 3) pa_nil)))) pss_nil)
      (pss_cons (ps_if (pt_not (pt_val (pe_cal c_suits_things (hr.mono (by omega)) rfl pass0 (pa_cons (pv 4) (pa_cons (pv 1) pa_nil))))) (pss_one (L2N.ps_raise rfl (L2N.takes_of rfl rfl rfl rfl) (pmk_xN T.mk_InvalidHistory hr rfl T.g_InvalidHistory T.k_InvalidHistory T.r_InvalidHistory (pa_cons (pv 3) pa_nil)))) pss_nil)
      (pss_cons (ps_expr (pe_cal c_enter_token (hr.mono (by omega)) rfl pass0 (pa_cons (pv 4) (pa_cons (pv 1) pa_nil))))
      (pss_one (ps_set (i := 2) sc_check_tokens.nd rfl (.inl rfl) (pe_cmpR op_in_seq (pe_ix ix_tup (pv 4) pe_int (fun _ _ => rfl)) (pe_gref rfl T.g_LAST) (by rfl))))))))))))), ?_⟩
    refine ⟨_, rfl, .ref l, _, _, _, _, rfl, .ty _, ty_dp (.lst (.inl (.inl hl)) ht), kit_list _, _, rfl, ifF rfl ?_⟩
    refine ⟨_, rfl, l, us, rfl, .inl (.inl (.inl hl)), rfl, _, rfl, ?_⟩
    by_cases hts : ts = []
    · subst hts
      obtain rfl : us = [] := List.length_eq_zero_iff.mp hul
      exact ifT rfl ⟨rfl, fun d hd => k2 (by unfold chkH; rw [if_pos rfl]; exact fun h => by cases h) _ d (Same.new hd)⟩
    have hc0 : chkH ts = chk ts 0 [] false := if_neg hts
    rw [hc0] at k1 k2
    have hus : 0 < us.length := by
      rw [hul]
      exact List.length_pos_iff.mpr hts
    refine ifF (decide_eq_false (by intro z; injection z with z; omega)) ⟨sz_lit (by show 0 ≤ 100000; decide), fun q hq => ?_⟩
    have s1 : Same H (upd H q (.lst [])) := Same.new hq
    have c1 : upd H q (.lst []) q = some (.lst []) := upd_same
    revert s1 c1
    generalize upd H q (.lst []) = H1
    intro s1 c1
    refine ⟨_, rfl, l, us, rfl, .inl (.inl (s1 _ _ hl)), ?_⟩
    refine for_it walk_enum (fun i σ H' => ∃ (th : List Str) (ov : Bool) (y3 y4 : Option V), σ = [some (.ref l), some (.ref q), some (.bl ov), y3, y4] ∧ Same H H' ∧ H' q = some (.lst (th.map V.str)) ∧ chk ts 0 [] false = chk (ts.drop i) i th ov ∧ th.length ≤ i) ⟨[], false, _, _, rfl, s1, c1, rfl, Nat.le_refl _⟩ (fun i σ H' _ ⟨_, _, _, _, _, z, _⟩ => .inl (.inl (z _ _ hl))) ?_ ?_
    · rintro i v σ H1 H2 hi ⟨th, ov, y3, y4, rfl, s2, h2, h3, h4⟩ ⟨T0, x0, y, rfl, hT0, rfl, hx0, hy⟩
      obtain rfl : x0 = .int (i : Nat) := (Option.some.inj hx0).symm
      obtain ⟨t, ht1, hd⟩ := ht.get hy
      rw [drop_one ht1] at h3
      have hkt := hok t (List.mem_of_getElem? ht1)
      refine ⟨T0, _, rfl, .inl (.inl upd_same), rfl, _, _, rfl, _, _, rfl, rfl, ?_⟩
      have sm : Same H1 (upd H1 T0 (.tup [.int (i : Nat), y])) := Same.new hT0
      have s3 := s2.trans sm
      have g2 := sm _ _ h2
      revert s3 g2
      generalize upd H1 T0 (.tup [.int (i : Nat), y]) = H3
      intro s3 g2
      have bad : (ov = true ∨ decide (t.k = "begin") ≠ decide (i = 0)) ∨ suits t th = false → chk ts 0 [] false ≠ none := fun h => by
        rw [h3]
        unfold chk
        by_cases h' : ov = true ∨ decide (t.k = "begin") ≠ decide (i = 0)
        · rw [if_pos h']
          exact fun h => by cases h
        · rw [if_neg h', if_neg (by rw [h.resolve_left h']; exact Bool.false_ne_true)]
          exact fun h => by cases h
      refine ⟨_, rfl, _, rfl, ?_⟩
      cases ov with
      | true => exact ifT rfl (ifT rfl ⟨_, rfl, rfl, fun d hd => k2 (bad (.inl (.inl rfl))) _ d (s3.trans (Same.new hd))⟩)
      | false =>
      refine ifF rfl ⟨_, rfl, y, t.d, rfl, hd.mono s3, okt_short hkt, fun H4 s4 => ⟨_, rfl, ?_⟩⟩
      rw [(hasForm_iff t.d).mpr ⟨t, hkt, rfl⟩]
      have s5 := s3.trans s4
      have g3 := s4 _ _ g2
      have d3 := hd.mono s5
      obtain ⟨a, rfl, ha⟩ := tk_at d3
      refine ifF rfl ⟨_, rfl, a, _, 0, _, rfl, rfl, ha, atI_zero _ _, rfl, _, rfl, rfl, rfl, _, rfl, ?_⟩
      rw [dec_strV, show decide (V.int (i : Nat) = V.int 0) = decide (i = 0) from decide_eq_decide.mpr ⟨fun h => by injection h with h; omega, fun h => by rw [h]; rfl⟩]
      by_cases hb : decide (t.k = "begin") ≠ decide (i = 0)
      · exact ifT (by simpa using hb) ⟨_, rfl, rfl, fun d hd => k2 (bad (.inl (.inr hb))) _ d (s5.trans (Same.new hd))⟩
      refine ifF (by simpa using hb) ?_
      refine ⟨_, rfl, _, rfl, _, t, q, th, rfl, d3, hkt, g3, by omega, _, rfl, ?_⟩
      by_cases hs : suits t th = true
      · rw [hs]
        have hin : ∀ n, t.n = some n → n < th.length := fun n hn => by
          unfold suits at hs
          rw [hn] at hs
          dsimp only at hs
          cases z : th[n]? with
          | none => rw [z] at hs; cases hs
          | some x => exact (List.getElem?_eq_some_iff.mp z).1
        refine ifF rfl ⟨_, rfl, _, rfl, _, t, q, th, rfl, d3, hkt, g3, by omega, hin, ?_⟩
        refine ⟨_, rfl, a, _, 0, _, rfl, rfl, sqt_updL ha g3, atI_zero _ _, pL, _, rfl, .inr (T.s_LAST _), rfl, flat_strs _, ?_⟩
        have e1 : inV (.str t.k) (sLast.map V.str) = isLast t := inV_st t.k sLast
        rw [e1]
        have h5 := enter_len t th
        refine ⟨enter t th, isLast t, some (.int (i : Nat)), some (.ref a), rfl, Same.updN s5 hq, upd_same, ?_, by omega⟩
        rw [h3]
        conv => lhs; unfold chk
        rw [if_neg (by rintro (h | h); cases h; exact hb h), if_pos hs]
      · have hs' := Bool.eq_false_iff.mpr hs
        rw [hs']
        exact ifT rfl ⟨_, rfl, rfl, fun d hd => k2 (bad (.inr hs')) _ d (s5.trans (Same.new hd))⟩
    · rintro σ H' ⟨th, ov, y3, y4, rfl, s2, h2, h3, h4⟩
      rw [List.drop_of_length_le (by omega)] at h3
      exact k1 h3 _ s2
end
end Op
set_option pp.maxSteps 500
namespace Op
open PySem L2 PyProof.Rows
theorem ren_ok {t : Tk} {m : Nat} (h : Okt t) (hs : t.n.isSome = true) : Okt (ren t m) := by
  obtain ⟨f, h1, h2, h3⟩ := h
  refine ⟨f, h1, ?_, h3⟩
  rw [h2]
  unfold sigOf ren
  cases z : t.n with
  | none => rw [z] at hs; cases hs
  | some k => rfl
theorem numT_tk {s s' : Ag} {t : Tk} (h : numT s t = some s') : ∃ t', s'.tk = s.tk ++ [t'] ∧ t'.k = t.k ∧ t'.ws = t.ws ∧ (Okt t → Okt t') := by
  unfold numT at h
  split at h
  · rename_i n hn
    split at h
    · cases h
    · split at h
      · obtain rfl := Option.some.inj h
        exact ⟨_, rfl, rfl, rfl, fun h => ren_ok h (by rw [hn]; rfl)⟩
      · cases h
  · split at h
    · obtain rfl := Option.some.inj h
      exact ⟨t, rfl, rfl, rfl, id⟩
    · obtain rfl := Option.some.inj h
      exact ⟨t, rfl, rfl, rfl, id⟩
theorem numTurnA_tk : ∀ {ts : List Tk} {s s' : Ag}, numTurnA ts s = some s' → s'.tk.length = s.tk.length + ts.length ∧ ((∀ t ∈ ts, Okt t) → (∀ t ∈ s.tk, Okt t) → ∀ t ∈ s'.tk, Okt t)
  | [], s, s', h => by
    obtain rfl := Option.some.inj h
    exact ⟨rfl, fun _ h => h⟩
  | t :: r, s, s', h => by
    unfold numTurnA at h
    split at h
    · cases h
    · rename_i s1 e
      obtain ⟨t', e1, _, _, e4⟩ := numT_tk e
      obtain ⟨i1, i2⟩ := numTurnA_tk h
      refine ⟨by rw [i1, e1, List.length_append]; show s.tk.length + 1 + r.length = s.tk.length + (r.length + 1); omega, fun h1 h2 => i2 (fun x hx => h1 x (List.mem_cons_of_mem _ hx)) fun x hx => ?_⟩
      rw [e1] at hx
      rcases List.mem_append.mp hx with hx | hx
      · exact h2 x hx
      · rw [List.mem_singleton.mp hx]
        exact e4 (h1 t List.mem_cons_self)
theorem numTurns_tk : ∀ {tss : List (List Tk)} {ns : List Nat} {st : Nat} {told : List (List Tk)}, numTurns tss ns st = some told → told.length = tss.length ∧ told.flatten.length = tss.flatten.length ∧ ((∀ ts ∈ tss, ∀ t ∈ ts, Okt t) → ∀ t ∈ told.flatten, Okt t)
  | [], ns, st, told, h => by
    obtain rfl := Option.some.inj h
    exact ⟨rfl, rfl, fun _ t ht => (List.not_mem_nil ht).elim⟩
  | ts :: r, ns, st, told, h => by
    unfold numTurns at h
    split at h
    · cases h
    · rename_i s e
      cases z : numTurns r s.lf s.st with
      | none => rw [z] at h; cases h
      | some rest =>
        rw [z] at h
        obtain rfl := Option.some.inj h
        obtain ⟨i1, i2, i3⟩ := numTurns_tk z
        obtain ⟨j1, j2⟩ := numTurnA_tk e
        refine ⟨by rw [List.length_cons, List.length_cons, i1], ?_, fun h1 t ht => ?_⟩
        · rw [List.flatten_cons, List.flatten_cons, List.length_append, List.length_append, i2, j1]
          show 0 + ts.length + _ = _
          omega
        · rw [List.flatten_cons] at ht
          rcases List.mem_append.mp ht with ht | ht
          · exact j2 (h1 ts List.mem_cons_self) (fun x hx => (List.not_mem_nil hx).elim) t ht
          · exact i3 (fun us hu => h1 us (List.mem_cons_of_mem _ hu)) t ht
/-- the history whose turns by age are given -/
def numH (tss : List (List Tk)) : Option (List Tk) → Prop
  | none => ∀ told, numTurns tss [] 0 = some told → chkH told.flatten ≠ none ∨ ageTurns (split told.flatten) [] 0 ≠ tss
  | some h => ∃ told, numTurns tss [] 0 = some told ∧ told.flatten = h ∧ chkH h = none ∧ ageTurns (split h) [] 0 = tss
end Op
set_option pp.maxSteps 500
namespace Op
open PySem L2 PyProof.Rows
/-- the open numbers and the list of things agree -/
structure RelA (th : List Str) (lf : List Nat) (st : Nat) : Prop where
  st : st = th.length
  nd : lf.Nodup
  op : ∀ n, n ∈ lf ↔ ∃ x, th[n]? = some x ∧ x ≠ "gone"
theorem suits_open {t : Tk} {th : List Str} {n : Nat} (h : suits t th = true) (hn : t.n = some n) : ∃ x, th[n]? = some x ∧ x ≠ "gone" := by
  unfold suits at h
  rw [hn] at h
  dsimp only at h
  cases z : th[n]? with
  | none => rw [z] at h; cases h
  | some x =>
    rw [z] at h
    refine ⟨x, rfl, ?_⟩
    dsimp only at h
    unfold thingFits at h
    rintro rfl
    split at h
    · cases of_decide_eq_true h
    · split at h
      · cases of_decide_eq_true h
      · rw [decide_eq_true rfl] at h
        cases h
theorem isNew_n {t : Tk} (h : TkC t) {n : Nat} (hn : t.n = some n) : t.k ≠ "asked" ∧ t.k ≠ "set" ∧ isNew t = false := by
  cases h with
  | answer => exact ⟨(show ("answer" : Str) ≠ "asked" by decide +kernel), (show ("answer" : Str) ≠ "set" by decide +kernel), rfl⟩
  | rang => exact ⟨(show ("rang" : Str) ≠ "asked" by decide +kernel), (show ("rang" : Str) ≠ "set" by decide +kernel), rfl⟩
  | dropped => exact ⟨(show ("dropped" : Str) ≠ "asked" by decide +kernel), (show ("dropped" : Str) ≠ "set" by decide +kernel), rfl⟩
  | _ => cases hn
theorem relA_num {th : List Str} {lf : List Nat} {st n : Nat} (R : RelA th lf st) (hn : n ∈ lf) : RelA (th.set n "gone") (lf.erase n) st := by
  refine ⟨by rw [List.length_set]; exact R.st, R.nd.erase n, fun m => ?_⟩
  rw [R.nd.mem_erase_iff, List.getElem?_set]
  by_cases e : n = m
  · subst e
    rw [if_pos rfl]
    constructor
    · exact fun h => absurd rfl h.1
    · rintro ⟨x, hx, hg⟩
      split at hx
      · obtain rfl := Option.some.inj hx
        exact absurd rfl hg
      · cases hx
  · rw [if_neg e]
    exact ⟨fun h => (R.op m).mp h.2, fun h => ⟨fun e' => e e'.symm, (R.op m).mpr h⟩⟩
theorem relA_new {th : List Str} {lf : List Nat} {st : Nat} {z : Str} (R : RelA th lf st) (hz : z ≠ "gone") : RelA (th ++ [z]) (lf ++ [st]) (st + 1) := by
  have hst : st ∉ lf := fun h => by
    obtain ⟨x, hx, _⟩ := (R.op st).mp h
    have := (List.getElem?_eq_some_iff.mp hx).1
    rw [R.st] at this
    omega
  refine ⟨by rw [List.length_append, R.st]; rfl, List.nodup_append.mpr ⟨R.nd, List.pairwise_singleton _ _, fun a ha b hb => by rw [List.mem_singleton.mp hb]; exact fun e => hst (e ▸ ha)⟩, fun m => ?_⟩
  rw [List.mem_append, List.mem_singleton]
  constructor
  · rintro (h | rfl)
    · obtain ⟨x, hx, hg⟩ := (R.op m).mp h
      exact ⟨x, by rw [List.getElem?_append_left (List.getElem?_eq_some_iff.mp hx).1]; exact hx, hg⟩
    · exact ⟨z, by rw [R.st, List.getElem?_concat_length], hz⟩
  · rintro ⟨x, hx, hg⟩
    by_cases hm : m < th.length
    · rw [List.getElem?_append_left hm] at hx
      exact .inl ((R.op m).mpr ⟨x, hx, hg⟩)
    · right
      have := (List.getElem?_eq_some_iff.mp hx).1
      rw [List.length_append] at this
      have h1 : [z].length = 1 := rfl
      rw [R.st]
      omega
/-- a token that suits -/
theorem relA_step {th : List Str} {s : Ag} {t : Tk} (hk : TkC t) (hs : suits t th = true) (R : RelA th s.lf s.st) (hsub : ∀ n ∈ s.lf, n ∈ s.th) :
    (∀ n, t.n = some n → n ∈ s.lf ∧ n ∈ s.th) ∧ RelA (enter t th) (ageT s t).lf (ageT s t).st ∧ ∀ n ∈ (ageT s t).lf, n ∈ (ageT s t).th := by
  cases hn : t.n with
  | some n =>
    have hin : n ∈ s.lf := (R.op n).mpr (suits_open hs hn)
    obtain ⟨n1, n2, n3⟩ := isNew_n hk hn
    have e1 : ageT s t = { s with lf := s.lf.erase n, tk := s.tk ++ [ren t (s.th.idxOf n)] } := by unfold ageT; rw [hn]
    have e2 : enter t th = th.set n "gone" := by unfold enter; rw [if_neg n1, if_neg n2, hn]
    rw [e1, e2]
    exact ⟨fun m hm => by obtain rfl := Option.some.inj hm; exact ⟨hin, hsub n hin⟩, relA_num R hin, fun m hm => hsub m (List.mem_of_mem_erase hm)⟩
  | none =>
    refine ⟨fun m hm => (by cases hm), ?_⟩
    by_cases hw : isNew t = true
    · have e1 : ageT s t = ⟨s.th ++ [s.st], s.lf ++ [s.st], s.tk ++ [t], s.st + 1⟩ := by unfold ageT; rw [hn]; dsimp only; rw [if_pos hw]
      rw [e1]
      refine ⟨?_, fun m hm => ?_⟩
      · unfold isNew at hw
        have hw := of_decide_eq_true hw
        unfold enter
        by_cases h1 : t.k = "asked"
        · rw [if_pos h1]; exact relA_new R (by decide +kernel)
        · have h2 : t.k = "set" := by
            rcases List.mem_cons.mp hw with h | h
            · exact absurd h h1
            · exact List.mem_singleton.mp h
          rw [if_neg h1, if_pos h2]
          exact relA_new R (by decide +kernel)
      · rcases List.mem_append.mp hm with hm | hm
        · exact List.mem_append_left _ (hsub m hm)
        · exact List.mem_append_right _ hm
    · have e1 : ageT s t = ⟨s.th, s.lf, s.tk ++ [t], s.st⟩ := by unfold ageT; rw [hn]; dsimp only; rw [if_neg hw]
      rw [e1]
      have hw : isNew t = false := Bool.eq_false_iff.mpr hw
      have hnm := of_decide_eq_false hw
      have e2 : enter t th = th := by
        unfold enter
        rw [if_neg fun e => hnm (by rw [e]; exact List.mem_cons_self), if_neg fun e => hnm (by rw [e]; exact List.mem_cons_of_mem _ List.mem_cons_self), hn]
      rw [e2]
      exact ⟨R, hsub⟩
theorem chk_step {t : Tk} {r : List Tk} {i : Nat} {th : List Str} {ov : Bool} (h : chk (t :: r) i th ov = none) : ov = false ∧ (t.k = "begin" ↔ i = 0) ∧ suits t th = true ∧ chk r (i + 1) (enter t th) (isLast t) = none := by
  unfold chk at h
  split at h
  · cases h
  · rename_i h1
    split at h
    · rename_i h2
      refine ⟨Bool.eq_false_iff.mpr fun e => h1 (.inl e), ?_, h2, h⟩
      have h3 : decide (t.k = "begin") = decide (i = 0) := Decidable.byContradiction fun e => h1 (.inr e)
      exact decide_eq_decide.mp h3
    · cases h
theorem age_turn : ∀ (ts rest : List Tk) (i : Nat) (th : List Str) (ov : Bool) (s : Ag), (∀ t ∈ ts, Okt t) → chk (ts ++ rest) i th ov = none → RelA th s.lf s.st → (∀ n ∈ s.lf, n ∈ s.th) →
    AgeAll ts s ∧ ∃ i' th' ov', chk rest i' th' ov' = none ∧ RelA th' (ts.foldl ageT s).lf (ts.foldl ageT s).st
  | [], rest, i, th, ov, s, _, h, R, _ => ⟨trivial, i, th, ov, h, R⟩
  | t :: r, rest, i, th, ov, s, hok, h, R, hsub => by
    obtain ⟨_, _, h2, h3⟩ := chk_step h
    obtain ⟨a1, a2, a3⟩ := relA_step (hok t List.mem_cons_self).c h2 R hsub
    obtain ⟨b1, b2⟩ := age_turn r rest _ _ _ (ageT s t) (fun x hx => hok x (List.mem_cons_of_mem _ hx)) h3 a2 a3
    exact ⟨⟨a1, b1⟩, b2⟩
theorem age_turns : ∀ (tss : List (List Tk)) (i : Nat) (th : List Str) (ov : Bool) (ns : List Nat) (st : Nat), (∀ t ∈ tss.flatten, Okt t) → chk tss.flatten i th ov = none → RelA th ns st → AgeAlls tss ns st
  | [], _, _, _, _, _, _, _, _ => trivial
  | ts :: r, i, th, ov, ns, st, hok, h, R => by
    rw [List.flatten_cons] at h hok
    obtain ⟨a1, i', th', ov', a2, a3⟩ := age_turn ts r.flatten i th ov ⟨ns, ns, [], st⟩ (fun t ht => hok t (List.mem_append_left _ ht)) h R (fun _ h => h)
    exact ⟨a1, age_turns r i' th' ov' _ _ (fun t ht => hok t (List.mem_append_right _ ht)) a2 a3⟩
/-- the turns of a valid history may be told by age -/
theorem chk_ages {ts : List Tk} (hok : ∀ t ∈ ts, Okt t) (h : chkH ts = none) : AgeAlls (split ts) [] 0 := by
  have e := split_flat (chk_out h)
  have h2 : chk ts 0 [] false = none := by
    unfold chkH at h
    split at h
    · cases h
    · exact h
  refine age_turns (split ts) 0 [] false [] 0 (by rw [e]; exact hok) (by rw [e]; exact h2) ⟨rfl, List.nodup_nil, fun n => ⟨fun h => (List.not_mem_nil h).elim, fun ⟨x, hx, _⟩ => by cases hx⟩⟩
end Op
set_option pp.maxSteps 500
namespace Op
open PySem L2 PyProof.Rows
/-! ### by age and by number: the one undoes the other -/
theorem ren_self {t : Tk} {n m : Nat} (h : t.n = some n) : ren (ren t m) n = t := by
  obtain ⟨k, o, ws⟩ := t
  dsimp only at h
  subst h
  rfl
theorem nodup_idx {l : List Nat} {i x : Nat} (h : l.Nodup) (hx : l[i]? = some x) : l.idxOf x = i := by
  have hm : x ∈ l := List.mem_of_getElem? hx
  have h1 := (idx_at hm).1
  exact (List.getElem?_inj (List.idxOf_lt_length_of_mem hm) h).mp (h1.trans hx.symm)
structure NdI (s : Ag) : Prop where
  tn : s.th.Nodup
  tb : ∀ n ∈ s.th, n < s.st
  ln : s.lf.Nodup
  lb : ∀ n ∈ s.lf, n < s.st
theorem nodup_snoc {l : List Nat} {m : Nat} (h : l.Nodup) (hb : ∀ n ∈ l, n < m) : (l ++ [m]).Nodup ∧ ∀ n ∈ l ++ [m], n < m + 1 := by
  refine ⟨List.nodup_append.mpr ⟨h, List.pairwise_singleton _ _, fun a ha b hb' => ?_⟩, fun n hn => ?_⟩
  · rw [List.mem_singleton.mp hb']
    exact Nat.ne_of_lt (hb a ha)
  · rcases List.mem_append.mp hn with hn | hn
    · exact Nat.lt_succ_of_lt (hb n hn)
    · rw [List.mem_singleton.mp hn]
      exact Nat.lt_succ_self _
theorem NdI.step {s s' : Ag} {t : Tk} (I : NdI s) (h : numT s t = some s') : NdI s' := by
  unfold numT at h
  split at h
  · split at h
    · cases h
    · split at h
      · obtain rfl := Option.some.inj h
        exact ⟨I.tn, I.tb, I.ln.erase _, fun n hn => I.lb n (List.mem_of_mem_erase hn)⟩
      · cases h
  · split at h
    · obtain rfl := Option.some.inj h
      exact ⟨(nodup_snoc I.tn I.tb).1, (nodup_snoc I.tn I.tb).2, (nodup_snoc I.ln I.lb).1, (nodup_snoc I.ln I.lb).2⟩
    · obtain rfl := Option.some.inj h
      exact ⟨I.tn, I.tb, I.ln, I.lb⟩
theorem age_num : ∀ {ts : List Tk} {s s' : Ag}, numTurnA ts s = some s' → NdI s → NdI s' ∧ ∃ new, s'.tk = s.tk ++ new ∧ ∀ acc, new.foldl ageT ⟨s.th, s.lf, acc, s.st⟩ = ⟨s'.th, s'.lf, acc ++ ts, s'.st⟩
  | [], s, s', h, I => by
    obtain rfl := Option.some.inj h
    exact ⟨I, [], (List.append_nil _).symm, fun acc => by rw [List.append_nil]; rfl⟩
  | t :: r, s, s', h, I => by
    unfold numTurnA at h
    split at h
    · cases h
    · rename_i s1 e
      obtain ⟨J, new, e1, e2⟩ := age_num h (I.step e)
      refine ⟨J, ?_⟩
      unfold numT at e
      split at e
      · rename_i n hn
        split at e
        · cases e
        · rename_i x hx
          split at e
          · obtain rfl := Option.some.inj e
            refine ⟨ren t x :: new, by rw [e1, List.append_assoc]; rfl, fun acc => ?_⟩
            show new.foldl ageT ⟨s.th, s.lf.erase x, acc ++ [ren (ren t x) (s.th.idxOf x)], s.st⟩ = _
            rw [nodup_idx I.tn hx, ren_self hn, e2]
            rw [List.append_assoc]
            rfl
          · cases e
      · rename_i hn
        split at e
        · rename_i hw
          obtain rfl := Option.some.inj e
          refine ⟨t :: new, by rw [e1, List.append_assoc]; rfl, fun acc => ?_⟩
          have e3 : ageT ⟨s.th, s.lf, acc, s.st⟩ t = ⟨s.th ++ [s.st], s.lf ++ [s.st], acc ++ [t], s.st + 1⟩ := by unfold ageT; rw [hn]; dsimp only; rw [if_pos hw]
          rw [List.foldl_cons, e3, e2, List.append_assoc]
          rfl
        · rename_i hw
          obtain rfl := Option.some.inj e
          refine ⟨t :: new, by rw [e1, List.append_assoc]; rfl, fun acc => ?_⟩
          have e3 : ageT ⟨s.th, s.lf, acc, s.st⟩ t = ⟨s.th, s.lf, acc ++ [t], s.st⟩ := by unfold ageT; rw [hn]; dsimp only; rw [if_neg hw]
          rw [List.foldl_cons, e3, e2, List.append_assoc]
          rfl
theorem age_nums : ∀ {tss : List (List Tk)} {ns : List Nat} {st : Nat} {told : List (List Tk)}, numTurns tss ns st = some told → ns.Nodup → (∀ n ∈ ns, n < st) → ageTurns told ns st = tss
  | [], ns, st, told, h, _, _ => by
    obtain rfl := Option.some.inj h
    rfl
  | ts :: r, ns, st, told, h, h1, h2 => by
    unfold numTurns at h
    split at h
    · cases h
    · rename_i s e
      cases z : numTurns r s.lf s.st with
      | none => rw [z] at h; cases h
      | some rest =>
        rw [z] at h
        obtain rfl := Option.some.inj h
        obtain ⟨J, new, e1, e2⟩ := age_num e ⟨h1, h2, h1, h2⟩
        rw [show s.tk = new from e1]
        have e3 : ageTurn new ns st = ⟨s.th, s.lf, ts, s.st⟩ := e2 []
        show (ageTurn new ns st).tk :: ageTurns rest (ageTurn new ns st).lf (ageTurn new ns st).st = _
        rw [e3]
        show ts :: ageTurns rest s.lf s.st = _
        rw [age_nums z J.ln J.lb]
theorem num_age : ∀ {ts : List Tk} {s : Ag}, AgeAll ts s → ∃ new, (ts.foldl ageT s).tk = s.tk ++ new ∧ ∀ acc, numTurnA new ⟨s.th, s.lf, acc, s.st⟩ = some ⟨(ts.foldl ageT s).th, (ts.foldl ageT s).lf, acc ++ ts, (ts.foldl ageT s).st⟩
  | [], s, _ => ⟨[], (List.append_nil _).symm, fun acc => by rw [List.append_nil]; rfl⟩
  | t :: r, s, ⟨h1, h2⟩ => by
    obtain ⟨new, e1, e2⟩ := num_age h2
    rw [List.foldl_cons]
    cases hn : t.n with
    | some n =>
      obtain ⟨i1, i2⟩ := h1 n hn
      have e3 : ageT s t = { s with lf := s.lf.erase n, tk := s.tk ++ [ren t (s.th.idxOf n)] } := by unfold ageT; rw [hn]
      refine ⟨ren t (s.th.idxOf n) :: new, by rw [e1, e3, List.append_assoc]; rfl, fun acc => ?_⟩
      have e4 : numT ⟨s.th, s.lf, acc, s.st⟩ (ren t (s.th.idxOf n)) = some ⟨s.th, s.lf.erase n, acc ++ [t], s.st⟩ := by
        show (match s.th[s.th.idxOf n]? with | none => none | some x => if x ∈ s.lf then some (⟨s.th, s.lf.erase x, acc ++ [ren (ren t (s.th.idxOf n)) x], s.st⟩ : Ag) else none) = _
        rw [(idx_at i2).1]
        dsimp only
        rw [if_pos i1, ren_self hn]
      unfold numTurnA
      rw [e4]
      dsimp only
      have e5 := e2 (acc ++ [t])
      rw [List.append_assoc] at e5
      rw [e3] at e5 ⊢
      exact e5
    | none =>
      by_cases hw : isNew t = true
      · have e3 : ∀ acc, ageT ⟨s.th, s.lf, acc, s.st⟩ t = ⟨s.th ++ [s.st], s.lf ++ [s.st], acc ++ [t], s.st + 1⟩ := fun acc => by unfold ageT; rw [hn]; dsimp only; rw [if_pos hw]
        have e4 : ∀ acc, numT ⟨s.th, s.lf, acc, s.st⟩ t = some ⟨s.th ++ [s.st], s.lf ++ [s.st], acc ++ [t], s.st + 1⟩ := fun acc => by unfold numT; rw [hn]; dsimp only; rw [if_pos hw]
        refine ⟨t :: new, by rw [e1, e3 s.tk, List.append_assoc]; rfl, fun acc => ?_⟩
        unfold numTurnA
        rw [e4]
        dsimp only
        have e5 := e2 (acc ++ [t])
        rw [List.append_assoc] at e5
        have e6 : ageT s t = ⟨s.th ++ [s.st], s.lf ++ [s.st], s.tk ++ [t], s.st + 1⟩ := e3 s.tk
        rw [e6] at e5 ⊢
        exact e5
      · have e3 : ∀ acc, ageT ⟨s.th, s.lf, acc, s.st⟩ t = ⟨s.th, s.lf, acc ++ [t], s.st⟩ := fun acc => by unfold ageT; rw [hn]; dsimp only; rw [if_neg hw]
        have e4 : ∀ acc, numT ⟨s.th, s.lf, acc, s.st⟩ t = some ⟨s.th, s.lf, acc ++ [t], s.st⟩ := fun acc => by unfold numT; rw [hn]; dsimp only; rw [if_neg hw]
        refine ⟨t :: new, by rw [e1, e3 s.tk, List.append_assoc]; rfl, fun acc => ?_⟩
        unfold numTurnA
        rw [e4]
        dsimp only
        have e5 := e2 (acc ++ [t])
        rw [List.append_assoc] at e5
        have e6 : ageT s t = ⟨s.th, s.lf, s.tk ++ [t], s.st⟩ := e3 s.tk
        rw [e6] at e5 ⊢
        exact e5
theorem num_ages : ∀ {tss : List (List Tk)} {ns : List Nat} {st : Nat}, AgeAlls tss ns st → numTurns (ageTurns tss ns st) ns st = some tss
  | [], _, _, _ => rfl
  | ts :: r, ns, st, ⟨h1, h2⟩ => by
    obtain ⟨new, e1, e2⟩ := num_age h1
    have e3 : (ageTurn ts ns st).tk = new := e1
    have e4 : numTurn new ns st = some ⟨(ageTurn ts ns st).th, (ageTurn ts ns st).lf, ts, (ageTurn ts ns st).st⟩ := e2 []
    unfold ageTurns numTurns
    rw [e3, e4]
    dsimp only
    rw [num_ages h2]
    rfl
/-- the turns by age of a valid history are told back -/
theorem numH_of {ts : List Tk} (hok : ∀ t ∈ ts, Okt t) (h : chkH ts = none) : numH (ageTurns (split ts) [] 0) (some ts) :=
  ⟨split ts, num_ages (chk_ages hok h), split_flat (chk_out h), h, rfl⟩
/-! ### the turns as the law makes them -/
def ageE : List (List Tk) → List Nat → Nat → List Nat × Nat
  | [], ns, st => (ns, st)
  | t :: r, ns, st => ageE r (ageTurn t ns st).lf (ageTurn t ns st).st
theorem ageTurns_snoc : ∀ (tss : List (List Tk)) (ts : List Tk) (ns : List Nat) (st : Nat), ageTurns (tss ++ [ts]) ns st = ageTurns tss ns st ++ [(ageTurn ts (ageE tss ns st).1 (ageE tss ns st).2).tk]
  | [], ts, ns, st => rfl
  | t :: r, ts, ns, st => congrArg ((ageTurn t ns st).tk :: ·) (ageTurns_snoc r ts _ _)
theorem ageE_snoc : ∀ (tss : List (List Tk)) (ts : List Tk) (ns : List Nat) (st : Nat), ageE (tss ++ [ts]) ns st = ((ageTurn ts (ageE tss ns st).1 (ageE tss ns st).2).lf, (ageTurn ts (ageE tss ns st).1 (ageE tss ns st).2).st)
  | [], ts, ns, st => rfl
  | t :: r, ts, ns, st => ageE_snoc r ts _ _
theorem split_snoc (p : List Tk) (t : Tk) : split (p ++ [t]) = splitA (split p) t := by
  unfold split
  rw [List.foldl_append]
  rfl
/-- the law's turns behind the first tokens -/
def InvT (p : List Tk) (tss : List (List Tk)) (s : Ag) : Prop :=
  (split p = [] ∧ tss = [] ∧ s.lf = [] ∧ s.st = 0) ∨ ∃ A cur, split p = A ++ [cur] ∧ tss = ageTurns A [] 0 ++ [s.tk] ∧ s = ageTurn cur (ageE A [] 0).1 (ageE A [] 0).2
theorem InvT.told {p : List Tk} {tss : List (List Tk)} {s : Ag} (h : InvT p tss s) : tss = ageTurns (split p) [] 0 := by
  rcases h with ⟨h1, h2, _⟩ | ⟨A, cur, h1, h2, h3⟩
  · rw [h1, h2]
    rfl
  · rw [h1, h2, ageTurns_snoc, ← h3]
theorem InvT.outer {p : List Tk} {tss : List (List Tk)} {s : Ag} {t : Tk} (h : InvT p tss s) (ho : isOut t = true) : InvT (p ++ [t]) (tss ++ [(ageT ⟨s.lf, s.lf, [], s.st⟩ t).tk]) (ageT ⟨s.lf, s.lf, [], s.st⟩ t) := by
  refine .inr ⟨split p, [t], by rw [split_snoc]; exact if_pos ho, by rw [h.told], ?_⟩
  have e : ageE (split p) [] 0 = (s.lf, s.st) := by
    rcases h with ⟨h1, h2, h3, h4⟩ | ⟨A, cur, h1, h2, h3⟩
    · rw [h1, h3, h4]
      rfl
    · rw [h1, ageE_snoc, ← h3]
  rw [e]
  rfl
theorem InvT.inner {p : List Tk} {tss : List (List Tk)} {s : Ag} {t : Tk} (h : InvT p tss s) (ho : isOut t = false) (hp : tss ≠ []) : InvT (p ++ [t]) (tss.dropLast ++ [(ageT s t).tk]) (ageT s t) := by
  rcases h with ⟨_, h2, _⟩ | ⟨A, cur, h1, h2, h3⟩
  · exact absurd h2 hp
  · refine .inr ⟨A, cur ++ [t], ?_, by rw [h2, List.dropLast_concat], ?_⟩
    · rw [split_snoc, h1]
      unfold splitA
      rw [if_neg (by rw [ho]; exact Bool.false_ne_true), List.dropLast_concat, List.getLastD_concat]
    · unfold ageTurn
      rw [List.foldl_append]
      show ageT s t = ageT (ageTurn cur _ _) t
      rw [← h3]
/-- what the law's loop over a valid history knows -/
def TI (ts : List Tk) (i : Nat) (s : Ag) : Prop := ∃ th ov, chk (ts.drop i) i th ov = none ∧ RelA th s.lf s.st ∧ ∀ n ∈ s.lf, n ∈ s.th
theorem TI.start {ts : List Tk} (h : chkH ts = none) : TI ts 0 ⟨[], [], [], 0⟩ := by
  have h2 : chk ts 0 [] false = none := by
    unfold chkH at h
    split at h
    · cases h
    · exact h
  exact ⟨[], false, h2, ⟨rfl, List.nodup_nil, fun n => ⟨fun h => (List.not_mem_nil h).elim, fun ⟨x, hx, _⟩ => by cases hx⟩⟩, fun n hn => hn⟩
theorem TI.outer {ts : List Tk} {i : Nat} {s : Ag} (h : TI ts i s) : TI ts i ⟨s.lf, s.lf, [], s.st⟩ := by
  obtain ⟨th, ov, h1, h2, _⟩ := h
  exact ⟨th, ov, h1, h2, fun n hn => hn⟩
theorem TI.step {ts : List Tk} {i : Nat} {s : Ag} {t : Tk} (h : TI ts i s) (ht : ts[i]? = some t) (hk : Okt t) : (∀ n, t.n = some n → n ∈ s.lf ∧ n ∈ s.th) ∧ TI ts (i + 1) (ageT s t) := by
  obtain ⟨th, ov, h1, h2, h3⟩ := h
  rw [drop_one ht] at h1
  obtain ⟨_, _, h4, h5⟩ := chk_step h1
  obtain ⟨a1, a2, a3⟩ := relA_step hk.c h4 h2 h3
  exact ⟨a1, _, _, h5, a2, a3⟩
/-! ### the history as the law draws it -/
theorem chk_go {t : Tk} {rest : List Tk} {i : Nat} {th : List Str} (h1 : t.k ≠ "begin") (hi : i ≠ 0) (h2 : suits t th = true) (h3 : isLast t = false) : chk (t :: rest) i th false = chk rest (i + 1) (enter t th) false := by
  conv => lhs; unfold chk
  rw [if_neg, if_pos h2, h3]
  rintro (h | h)
  · cases h
  · rw [decide_eq_false h1, decide_eq_false hi] at h
    exact h rfl
structure HI (ts : List Tk) (run : List Nat) (kinds : List Str) : Prop where
  ok : ∀ t ∈ ts, Okt t
  nd : run.Nodup
  ne : ts ≠ []
  ex : ∃ th : List Str, (∀ rest, chk (ts ++ rest) 0 [] false = chk rest ts.length th false) ∧ th.length = kinds.length ∧ ∀ n ∈ run, (kinds[n]? = some "answer" ∧ th[n]? = some "ask") ∨ (kinds[n]? = some "rang" ∧ th[n]? = some "timer")
theorem HI.start {w : Str} (hw : isWordS w = true) : HI [⟨"begin", none, [w]⟩] [] [] := by
  refine ⟨fun t ht => by rw [List.mem_singleton.mp ht]; exact (TkC.begin hw).ok, List.nodup_nil, List.cons_ne_nil _ _, [], fun rest => ?_, rfl, fun n hn => (List.not_mem_nil hn).elim⟩
  rfl
theorem HI.len {ts : List Tk} {run : List Nat} {kinds : List Str} (h : HI ts run kinds) : ts.length ≠ 0 := fun e => h.ne (List.length_eq_zero_iff.mp e)
theorem HI.lt {ts : List Tk} {run : List Nat} {kinds : List Str} (h : HI ts run kinds) {n : Nat} (hn : n ∈ run) : n < kinds.length := by
  obtain ⟨th, _, _, h3⟩ := h.ex
  rcases h3 n hn with h | h
  · exact (List.getElem?_eq_some_iff.mp h.1).1
  · exact (List.getElem?_eq_some_iff.mp h.1).1
theorem okt_snoc {ts : List Tk} {t : Tk} (h : ∀ t ∈ ts, Okt t) (ht : Okt t) : ∀ x ∈ ts ++ [t], Okt x := fun x hx => by
  rcases List.mem_append.mp hx with hx | hx
  · exact h x hx
  · rw [List.mem_singleton.mp hx]
    exact ht
theorem HI.go {ts : List Tk} {run : List Nat} {kinds : List Str} {t : Tk} {run' : List Nat} {kinds' : List Str} (h : HI ts run kinds) (ht : Okt t) (h1 : t.k ≠ "begin") (h3 : isLast t = false) (hr : run'.Nodup)
    (hs : ∀ th : List Str, th.length = kinds.length → (∀ n ∈ run, (kinds[n]? = some "answer" ∧ th[n]? = some "ask") ∨ (kinds[n]? = some "rang" ∧ th[n]? = some "timer")) → suits t th = true ∧ (enter t th).length = kinds'.length ∧ ∀ n ∈ run', (kinds'[n]? = some "answer" ∧ (enter t th)[n]? = some "ask") ∨ (kinds'[n]? = some "rang" ∧ (enter t th)[n]? = some "timer")) : HI (ts ++ [t]) run' kinds' := by
  obtain ⟨th, e1, e2, e3⟩ := h.ex
  obtain ⟨s1, s2, s3⟩ := hs th e2 e3
  refine ⟨okt_snoc h.ok ht, hr, fun e => by simp at e, enter t th, fun rest => ?_, s2, s3⟩
  rw [List.append_assoc, e1, List.length_append]
  exact chk_go h1 h.len s1 h3
theorem get_app {l : List Str} {x z : Str} {n : Nat} (h : l[n]? = some z) : (l ++ [x])[n]? = some z := by
  rw [List.getElem?_append_left (List.getElem?_eq_some_iff.mp h).1]
  exact h
theorem get_snoc {l : List Str} {x : Str} {n : Nat} (h : n = l.length) : (l ++ [x])[n]? = some x := by
  subst h
  exact List.getElem?_concat_length
/-- an ask or a timer more -/
theorem HI.new {ts : List Tk} {run : List Nat} {kinds : List Str} {t : Tk} {z y : Str} (h : HI ts run kinds) (ht : Okt t) (hn : t.n = none) (hz : (t.k = "asked" ∧ z = "answer" ∧ y = "ask") ∨ (t.k = "set" ∧ z = "rang" ∧ y = "timer")) : HI (ts ++ [t]) (run ++ [kinds.length]) (kinds ++ [z]) := by
  have k1 : t.k ≠ "begin" ∧ isLast t = false := by
    unfold isLast
    rcases hz with ⟨e, _⟩ | ⟨e, _⟩
    · rw [e]; exact ⟨by decide +kernel, by decide +kernel⟩
    · rw [e]; exact ⟨by decide +kernel, by decide +kernel⟩
  refine h.go ht k1.1 k1.2 ?_ fun th e2 e3 => ?_
  · exact (nodup_snoc h.nd fun n hn => h.lt hn).1
  · have e4 : enter t th = th ++ [y] := by
      unfold enter
      rcases hz with ⟨e, _, rfl⟩ | ⟨e, _, rfl⟩
      · rw [if_pos e]
      · rw [if_neg (by rw [e]; decide +kernel), if_pos e]
    refine ⟨by unfold suits; rw [hn], by rw [e4, List.length_append, List.length_append, e2]; rfl, fun n hn' => ?_⟩
    rw [e4]
    rcases List.mem_append.mp hn' with hn' | hn'
    · rcases e3 n hn' with ⟨a, b⟩ | ⟨a, b⟩
      · exact .inl ⟨get_app a, get_app b⟩
      · exact .inr ⟨get_app a, get_app b⟩
    · obtain rfl := List.mem_singleton.mp hn'
      rcases hz with ⟨_, rfl, rfl⟩ | ⟨_, rfl, rfl⟩
      · exact .inl ⟨get_snoc rfl, get_snoc e2.symm⟩
      · exact .inr ⟨get_snoc rfl, get_snoc e2.symm⟩
/-- a thing is gone -/
theorem HI.gone {ts : List Tk} {run : List Nat} {kinds : List Str} {t : Tk} {n : Nat} (h : HI ts run kinds) (ht : Okt t) (hn : t.n = some n) (hr : n ∈ run) (hz : t.k = "dropped" ∨ kinds[n]? = some t.k) : HI (ts ++ [t]) (run.erase n) kinds := by
  have k1 : t.k ≠ "begin" ∧ isLast t = false := by
    have := ht.c
    cases this with
    | answer => exact ⟨(show ("answer" : Str) ≠ "begin" by decide +kernel), rfl⟩
    | rang => exact ⟨(show ("rang" : Str) ≠ "begin" by decide +kernel), rfl⟩
    | dropped => exact ⟨(show ("dropped" : Str) ≠ "begin" by decide +kernel), rfl⟩
    | _ => cases hn
  obtain ⟨n1, n2, n3⟩ := isNew_n ht.c hn
  refine h.go ht k1.1 k1.2 (h.nd.erase n) fun th e2 e3 => ?_
  have e4 : enter t th = th.set n "gone" := by unfold enter; rw [if_neg n1, if_neg n2, hn]
  refine ⟨?_, by rw [e4, List.length_set, e2], fun m hm => ?_⟩
  · unfold suits
    rw [hn]
    dsimp only
    unfold thingFits
    rcases e3 n hr with ⟨a, b⟩ | ⟨a, b⟩
    · rw [b]
      show (if t.k = "answer" then _ else _) = _
      rcases hz with e | e
      · rw [e]; decide +kernel
      · rw [a] at e
        rw [← Option.some.inj e]; decide +kernel
    · rw [b]
      show (if t.k = "answer" then _ else _) = _
      rcases hz with e | e
      · rw [e]; decide +kernel
      · rw [a] at e
        rw [← Option.some.inj e]; decide +kernel
  · obtain ⟨m1, m2⟩ := (h.nd.mem_erase_iff).mp hm
    rw [e4, List.getElem?_set, if_neg (Ne.symm m1)]
    exact e3 m m2
/-- a token that touches no thing -/
theorem HI.free {ts : List Tk} {run : List Nat} {kinds : List Str} {t : Tk} (h : HI ts run kinds) (ht : Okt t) (hz : t.k = "signal" ∨ t.k = "noted" ∨ t.k = "marked") : HI (ts ++ [t]) run kinds := by
  have k1 : t.k ≠ "begin" ∧ isLast t = false ∧ t.n = none ∧ t.k ≠ "asked" ∧ t.k ≠ "set" := by
    have := ht.c
    unfold isLast
    refine ⟨?_, ?_, ?_, ?_, ?_⟩
    · rcases hz with e | e | e <;> (rw [e]; decide +kernel)
    · rcases hz with e | e | e <;> (rw [e]; decide +kernel)
    · cases this with
      | answer => exfalso; rcases hz with e | e | e <;> exact absurd e (show ("answer" : Str) ≠ _ by decide +kernel)
      | rang => exfalso; rcases hz with e | e | e <;> exact absurd e (show ("rang" : Str) ≠ _ by decide +kernel)
      | dropped => exfalso; rcases hz with e | e | e <;> exact absurd e (show ("dropped" : Str) ≠ _ by decide +kernel)
      | _ => rfl
    · rcases hz with e | e | e <;> (rw [e]; decide +kernel)
    · rcases hz with e | e | e <;> (rw [e]; decide +kernel)
  obtain ⟨a1, a2, a3, a4, a5⟩ := k1
  refine h.go ht a1 a2 h.nd fun th e2 e3 => ?_
  have e4 : enter t th = th := by unfold enter; rw [if_neg a4, if_neg a5, a3]
  rw [e4]
  exact ⟨by unfold suits; rw [a3], e2, e3⟩
theorem HI.valid {ts : List Tk} {run : List Nat} {kinds : List Str} (h : HI ts run kinds) : chkH ts = none := by
  obtain ⟨th, e1, _⟩ := h.ex
  unfold chkH
  rw [if_neg h.ne]
  have := e1 []
  rw [List.append_nil] at this
  rw [this]
  rfl
theorem HI.ended {ts : List Tk} {run : List Nat} {kinds : List Str} (h : HI ts run kinds) {w : Str} : chkH (ts ++ [⟨"ended", none, [w]⟩]) = none := by
  obtain ⟨th, e1, _⟩ := h.ex
  unfold chkH
  rw [if_neg (by simp), e1]
  have e2 : suits ⟨"ended", none, [w]⟩ th = true := rfl
  unfold chk
  rw [if_neg, if_pos e2]
  · rfl
  · rintro (e | e)
    · cases e
    · rw [decide_eq_false h.len] at e
      exact e (show decide (("ended" : Str) = "begin") = false by decide +kernel)
end Op
set_option pp.maxSteps 500
namespace Op
open PySem L2 PyProof.Rows
/-! ### the law's own way back -/
structure Bk where
  h : List Tk
  s : Ag
  kd : List Str
def lastOv (h : List Tk) : Bool := match h.getLast? with | none => false | some t => isLast t
theorem lastOv_snoc (h : List Tk) (t : Tk) : lastOv (h ++ [t]) = isLast t := by
  unfold lastOv
  rw [List.getLast?_append]
  rfl
def kindOf (t : Tk) : Str := if t.k = "asked" then "answer" else "rang"
def backT (k : Nat) (b : Bk) (t : Tk) : Option Bk :=
  if isOut t ≠ decide (k = 0) then none else if decide (t.k = "begin") ≠ decide (b.h = []) then none else if lastOv b.h = true then none else
  match t.n with
  | some i => match b.s.th[i]? with
    | none => none
    | some x => if x ∈ b.s.lf then if t.k ≠ "dropped" ∧ b.kd[x]? ≠ some t.k then none else some ⟨b.h ++ [ren t x], ⟨b.s.th, b.s.lf.erase x, b.s.tk ++ [ren t x], b.s.st⟩, b.kd⟩ else none
  | none => if isNew t = true then some ⟨b.h ++ [t], ⟨b.s.th ++ [b.s.st], b.s.lf ++ [b.s.st], b.s.tk ++ [t], b.s.st + 1⟩, b.kd ++ [kindOf t]⟩ else some ⟨b.h ++ [t], ⟨b.s.th, b.s.lf, b.s.tk ++ [t], b.s.st⟩, b.kd⟩
def backTurn : List Tk → Nat → Bk → Option Bk
  | [], _, b => some b
  | t :: r, k, b => match backT k b t with | none => none | some b' => backTurn r (k + 1) b'
def backNew (b : Bk) : Bk := ⟨b.h, ⟨b.s.lf, b.s.lf, [], b.s.st⟩, b.kd⟩
def backAll : List (List Tk) → Bk → Option Bk
  | [], b => some b
  | ts :: r, b => match backTurn ts 0 (backNew b) with | none => none | some b' => backAll r b'
def bk0 : Bk := ⟨[], ⟨[], [], [], 0⟩, []⟩
instance decTk : DecidableEq Tk := fun a b => if h : a.k = b.k ∧ a.n = b.n ∧ a.ws = b.ws then .isTrue (by obtain ⟨k, n, ws⟩ := a; obtain ⟨k2, n2, ws2⟩ := b; obtain ⟨h1, h2, h3⟩ := h; dsimp only at h1 h2 h3; rw [h1, h2, h3]) else .isFalse fun e => h (by rw [e]; exact ⟨rfl, rfl, rfl⟩)
def lawBack (tss : List (List Tk)) : Option (List Tk) := match backAll tss bk0 with | none => none | some b => if [] ∈ tss ∨ b.h = [] then none else some b.h
structure RB (h : List Tk) (lf : List Nat) (st : Nat) (kd : List Str) (th : List Str) : Prop where
  sk : st = kd.length
  ra : RelA th lf st
  kk : ∀ (n : Nat) (z : Str), kd[n]? = some z → th[n]? = some ("gone" : Str) ∨ (z = "answer" ∧ th[n]? = some ("ask" : Str)) ∨ (z = "rang" ∧ th[n]? = some ("timer" : Str))
  hi : ∀ rest, chk (h ++ rest) 0 [] false = chk rest h.length th (lastOv h)
theorem chk_next {t : Tk} {rest : List Tk} {i : Nat} {th : List Str} (h1 : t.k = "begin" ↔ i = 0) (h2 : suits t th = true) : chk (t :: rest) i th false = chk rest (i + 1) (enter t th) (isLast t) := by
  conv => lhs; unfold chk
  rw [if_neg, if_pos h2]
  rintro (h | h)
  · cases h
  · exact h (decide_eq_decide.mpr h1)
theorem RB.next {h : List Tk} {lf lf' : List Nat} {st st' : Nat} {kd kd' : List Str} {th : List Str} {t : Tk} (R : RB h lf st kd th) (h0 : lastOv h = false) (h1 : t.k = "begin" ↔ h = []) (h2 : suits t th = true) (e1 : st' = kd'.length) (e2 : RelA (enter t th) lf' st')
    (e3 : ∀ (n : Nat) (z : Str), kd'[n]? = some z → (enter t th)[n]? = some ("gone" : Str) ∨ (z = "answer" ∧ (enter t th)[n]? = some ("ask" : Str)) ∨ (z = "rang" ∧ (enter t th)[n]? = some ("timer" : Str))) : RB (h ++ [t]) lf' st' kd' (enter t th) := by
  refine ⟨e1, e2, e3, fun rest => ?_⟩
  rw [List.append_assoc, R.hi, h0, lastOv_snoc, List.length_append]
  exact chk_next (h1.trans List.length_eq_zero_iff.symm) h2
theorem RB.open {h : List Tk} {lf : List Nat} {st : Nat} {kd : List Str} {th : List Str} (R : RB h lf st kd th) {x : Nat} (hx : x ∈ lf) : ∃ z, kd[x]? = some z ∧ ((z = "answer" ∧ th[x]? = some ("ask" : Str)) ∨ (z = "rang" ∧ th[x]? = some ("timer" : Str))) := by
  obtain ⟨y, h1, h2⟩ := (R.ra.op x).mp hx
  have h3 := (List.getElem?_eq_some_iff.mp h1).1
  have h4 : x < kd.length := by rw [← R.sk, R.ra.st]; exact h3
  refine ⟨kd[x], List.getElem?_eq_getElem h4, ?_⟩
  rcases R.kk x _ (List.getElem?_eq_getElem h4) with h | h
  · rw [h1] at h
    exact absurd (Option.some.inj h) h2
  · exact h
theorem RB.suit {h : List Tk} {lf : List Nat} {st : Nat} {kd : List Str} {th : List Str} (R : RB h lf st kd th) {t : Tk} {i x : Nat} (ht : Okt t) (hn : t.n = some i) (hx : x ∈ lf) : suits (ren t x) th = true ↔ (t.k = "dropped" ∨ kd[x]? = some t.k) := by
  obtain ⟨z, h1, h2⟩ := R.open hx
  have e : suits (ren t x) th = match th[x]? with | none => false | some y => thingFits t.k y := rfl
  rw [e, h1]
  have := ht.c
  rcases h2 with ⟨rfl, h2⟩ | ⟨rfl, h2⟩
  · rw [h2]
    cases this with
    | answer => exact ⟨fun _ => .inr rfl, fun _ => rfl⟩
    | rang => exact ⟨fun h => absurd h (show ¬ (thingFits "rang" "ask" = true) by decide +kernel), fun h => h.elim (fun h => absurd h (show ¬ (("rang" : Str) = "dropped") by decide +kernel)) fun h => absurd (Option.some.inj h) (show ¬ (("answer" : Str) = "rang") by decide +kernel)⟩
    | dropped => exact ⟨fun _ => .inl rfl, fun _ => rfl⟩
    | _ => cases hn
  · rw [h2]
    cases this with
    | answer => exact ⟨fun h => absurd h (show ¬ (thingFits "answer" "timer" = true) by decide +kernel), fun h => h.elim (fun h => absurd h (show ¬ (("answer" : Str) = "dropped") by decide +kernel)) fun h => absurd (Option.some.inj h) (show ¬ (("rang" : Str) = "answer") by decide +kernel)⟩
    | rang => exact ⟨fun _ => .inr rfl, fun _ => rfl⟩
    | dropped => exact ⟨fun _ => .inl rfl, fun _ => rfl⟩
    | _ => cases hn
/-- behind a token -/
theorem RB.num {h : List Tk} {lf : List Nat} {st : Nat} {kd : List Str} {th : List Str} (R : RB h lf st kd th) {t : Tk} {i x : Nat} (ht : Okt t) (hn : t.n = some i) (hx : x ∈ lf) (h0 : lastOv h = false) (h1 : t.k = "begin" ↔ h = []) (h2 : suits (ren t x) th = true) : RB (h ++ [ren t x]) (lf.erase x) st kd (enter (ren t x) th) := by
  obtain ⟨n1, n2, n3⟩ := isNew_n ht.c hn
  have e : enter (ren t x) th = th.set x "gone" := by
    unfold enter
    rw [if_neg (show (ren t x).k ≠ "asked" from n1), if_neg (show (ren t x).k ≠ "set" from n2)]
    rfl
  refine R.next h0 h1 h2 R.sk ?_ ?_
  · rw [e]; exact relA_num R.ra hx
  · rw [e]
    intro n z hz
    rw [List.getElem?_set]
    by_cases hnx : x = n
    · subst hnx
      obtain ⟨y, hy, _⟩ := (R.ra.op x).mp hx
      rw [if_pos rfl, if_pos (List.getElem?_eq_some_iff.mp hy).1]
      exact .inl rfl
    · rw [if_neg hnx]
      exact R.kk n z hz
theorem RB.new {h : List Tk} {lf : List Nat} {st : Nat} {kd : List Str} {th : List Str} (R : RB h lf st kd th) {t : Tk} (hn : t.n = none) (hw : isNew t = true) (h0 : lastOv h = false) (h1 : t.k = "begin" ↔ h = []) : suits t th = true ∧ RB (h ++ [t]) (lf ++ [st]) (st + 1) (kd ++ [kindOf t]) (enter t th) := by
  have h2 : suits t th = true := by unfold suits; rw [hn]
  refine ⟨h2, ?_⟩
  have hk : (t.k = "asked" ∧ enter t th = th ++ [("ask" : Str)] ∧ kindOf t = "answer") ∨ (t.k = "set" ∧ enter t th = th ++ [("timer" : Str)] ∧ kindOf t = "rang") := by
    have hw := of_decide_eq_true hw
    unfold enter kindOf
    rcases List.mem_cons.mp hw with e | e
    · exact .inl ⟨e, if_pos e, if_pos e⟩
    · have e := List.mem_singleton.mp e
      have ne : t.k ≠ "asked" := by rw [e]; decide +kernel
      exact .inr ⟨e, by rw [if_neg ne, if_pos e], if_neg ne⟩
  have hl : th.length = kd.length := R.ra.st.symm.trans R.sk
  have go : ∀ (y z : Str), ((z = "answer" ∧ y = "ask") ∨ (z = "rang" ∧ y = "timer")) → ∀ (n : Nat) (x : Str), (kd ++ [z])[n]? = some x → (th ++ [y])[n]? = some ("gone" : Str) ∨ (x = "answer" ∧ (th ++ [y])[n]? = some ("ask" : Str)) ∨ (x = "rang" ∧ (th ++ [y])[n]? = some ("timer" : Str)) := fun y z hyz n x hx => by
    by_cases hlt : n < kd.length
    · rw [List.getElem?_append_left hlt] at hx
      rcases R.kk n x hx with h | ⟨a, h⟩ | ⟨a, h⟩
      · exact .inl (get_app h)
      · exact .inr (.inl ⟨a, get_app h⟩)
      · exact .inr (.inr ⟨a, get_app h⟩)
    · have hn2 : n = kd.length := by
        have := (List.getElem?_eq_some_iff.mp hx).1
        rw [List.length_append] at this
        have h1 : [z].length = 1 := rfl
        omega
      subst hn2
      rw [get_snoc rfl] at hx
      obtain rfl := Option.some.inj hx
      rw [get_snoc hl.symm]
      rcases hyz with ⟨rfl, rfl⟩ | ⟨rfl, rfl⟩
      · exact .inr (.inl ⟨rfl, rfl⟩)
      · exact .inr (.inr ⟨rfl, rfl⟩)
  rcases hk with ⟨_, e2, e3⟩ | ⟨_, e2, e3⟩
  · refine R.next h0 h1 h2 (by rw [List.length_append, R.sk]; rfl) (by rw [e2]; exact relA_new R.ra (by decide +kernel)) ?_
    rw [e2, e3]
    exact go _ _ (.inl ⟨rfl, rfl⟩)
  · refine R.next h0 h1 h2 (by rw [List.length_append, R.sk]; rfl) (by rw [e2]; exact relA_new R.ra (by decide +kernel)) ?_
    rw [e2, e3]
    exact go _ _ (.inr ⟨rfl, rfl⟩)
theorem RB.free {h : List Tk} {lf : List Nat} {st : Nat} {kd : List Str} {th : List Str} (R : RB h lf st kd th) {t : Tk} (hn : t.n = none) (hw : isNew t = false) (h0 : lastOv h = false) (h1 : t.k = "begin" ↔ h = []) : suits t th = true ∧ RB (h ++ [t]) lf st kd (enter t th) := by
  have h2 : suits t th = true := by unfold suits; rw [hn]
  have hnm := of_decide_eq_false hw
  have e2 : enter t th = th := by
    unfold enter
    rw [if_neg fun e => hnm (by rw [e]; exact List.mem_cons_self), if_neg fun e => hnm (by rw [e]; exact List.mem_cons_of_mem _ List.mem_cons_self), hn]
  refine ⟨h2, R.next h0 h1 h2 R.sk ?_ ?_⟩
  · rw [e2]; exact R.ra
  · rw [e2]; exact R.kk
theorem backT_some {k : Nat} {b b' : Bk} {t : Tk} {th : List Str} (R : RB b.h b.s.lf b.s.st b.kd th) (ht : Okt t) (h : backT k b t = some b') : isOut t = decide (k = 0) ∧ numT b.s t = some b'.s ∧ ∃ t', b'.h = b.h ++ [t'] ∧ b'.s.tk = b.s.tk ++ [t'] ∧ isOut t' = isOut t ∧ ∃ th', RB b'.h b'.s.lf b'.s.st b'.kd th' := by
  unfold backT at h
  split at h
  · cases h
  · rename_i c1
    split at h
    · cases h
    · rename_i c2
      split at h
      · cases h
      · rename_i c3
        have c1 := Decidable.of_not_not c1
        have c2 : t.k = "begin" ↔ b.h = [] := decide_eq_decide.mp (Decidable.of_not_not c2)
        have c3 : lastOv b.h = false := Bool.eq_false_iff.mpr c3
        refine ⟨c1, ?_⟩
        unfold numT
        split at h
        · rename_i i hn
          split at h
          · cases h
          · rename_i x hx
            split at h
            · rename_i hm
              split at h
              · cases h
              · rename_i c4
                obtain rfl := Option.some.inj h
                try rw [hn]
                try dsimp only
                try rw [hx]
                try dsimp only
                rw [if_pos hm]
                have c4 : t.k = "dropped" ∨ b.kd[x]? = some t.k := by
                  by_cases z : t.k = "dropped"
                  · exact .inl z
                  · exact .inr (Decidable.byContradiction fun y => c4 ⟨z, y⟩)
                exact ⟨rfl, _, rfl, rfl, rfl, _, R.num ht hn hm c3 c2 ((R.suit ht hn hm).mpr c4)⟩
            · cases h
        · rename_i hn
          split at h
          · rename_i hw
            obtain rfl := Option.some.inj h
            try rw [hn]
            try dsimp only
            rw [if_pos hw]
            exact ⟨rfl, _, rfl, rfl, rfl, _, (R.new hn hw c3 c2).2⟩
          · rename_i hw
            obtain rfl := Option.some.inj h
            try rw [hn]
            try dsimp only
            rw [if_neg hw]
            exact ⟨rfl, _, rfl, rfl, rfl, _, (R.free hn (Bool.eq_false_iff.mpr hw) c3 c2).2⟩
theorem backT_of {k : Nat} {b : Bk} {t t' : Tk} {s' : Ag} {rest : List Tk} {th : List Str} (R : RB b.h b.s.lf b.s.st b.kd th) (ht : Okt t) (hk : isOut t = decide (k = 0)) (h : numT b.s t = some s') (ht' : s'.tk = b.s.tk ++ [t']) (hc : chk (t' :: rest) b.h.length th (lastOv b.h) = none) :
    ∃ b' th', backT k b t = some b' ∧ b'.s = s' ∧ b'.h = b.h ++ [t'] ∧ RB b'.h b'.s.lf b'.s.st b'.kd th' ∧ chk rest b'.h.length th' (lastOv b'.h) = none := by
  obtain ⟨c3, c2, c4, c5⟩ := chk_step hc
  have c2 : t'.k = "begin" ↔ b.h = [] := c2.trans List.length_eq_zero_iff
  have fin : ∀ (u : Tk), t' = u → chk rest (b.h ++ [u]).length (enter u th) (lastOv (b.h ++ [u])) = none := fun u e => by
    subst e
    rw [lastOv_snoc, List.length_append]
    exact c5
  unfold backT
  rw [if_neg (fun z => z hk)]
  unfold numT at h
  split at h
  · rename_i i hn
    split at h
    · cases h
    · rename_i x hx
      split at h
      · rename_i hm
        obtain rfl := Option.some.inj h
        have et : t' = ren t x := by
          have := List.append_cancel_left ht'
          injection this with this
          exact this.symm
        subst et
        rw [if_neg (fun z => z (decide_eq_decide.mpr c2)), if_neg (by rw [c3]; exact Bool.false_ne_true)]
        try rw [hn]
        try dsimp only
        try rw [hx]
        try dsimp only
        have c6 := (R.suit ht hn hm).mp c4
        rw [if_pos hm, if_neg (by rintro ⟨z, y⟩; rcases c6 with c6 | c6; exact z c6; exact y c6)]
        exact ⟨_, _, rfl, rfl, rfl, R.num ht hn hm c3 c2 c4, fin _ rfl⟩
      · cases h
  · rename_i hn
    split at h
    · rename_i hw
      obtain rfl := Option.some.inj h
      have et : t' = t := by
        have := List.append_cancel_left ht'
        injection this with this
        exact this.symm
      subst et
      rw [if_neg (fun z => z (decide_eq_decide.mpr c2)), if_neg (by rw [c3]; exact Bool.false_ne_true)]
      try rw [hn]
      try dsimp only
      rw [if_pos hw]
      exact ⟨_, _, rfl, rfl, rfl, (R.new hn hw c3 c2).2, fin _ rfl⟩
    · rename_i hw
      obtain rfl := Option.some.inj h
      have et : t' = t := by
        have := List.append_cancel_left ht'
        injection this with this
        exact this.symm
      subst et
      rw [if_neg (fun z => z (decide_eq_decide.mpr c2)), if_neg (by rw [c3]; exact Bool.false_ne_true)]
      try rw [hn]
      try dsimp only
      rw [if_neg hw]
      exact ⟨_, _, rfl, rfl, rfl, (R.free hn (Bool.eq_false_iff.mpr hw) c3 c2).2, fin _ rfl⟩
theorem backTurn_some : ∀ {ts : List Tk} {k : Nat} {b b' : Bk} {th : List Str}, RB b.h b.s.lf b.s.st b.kd th → (∀ t ∈ ts, Okt t) → backTurn ts k b = some b' →
    numTurnA ts b.s = some b'.s ∧ ∃ new, b'.h = b.h ++ new ∧ b'.s.tk = b.s.tk ++ new ∧ new.length = ts.length ∧ (∀ j t, new[j]? = some t → isOut t = decide (k + j = 0)) ∧ ∃ th', RB b'.h b'.s.lf b'.s.st b'.kd th'
  | [], k, b, b', th, R, _, h => by
    obtain rfl := Option.some.inj h
    exact ⟨rfl, [], (List.append_nil _).symm, (List.append_nil _).symm, rfl, fun j t h => (by cases h), th, R⟩
  | t :: r, k, b, b', th, R, hok, h => by
    unfold backTurn at h
    split at h
    · cases h
    · rename_i b1 e
      obtain ⟨c1, c2, t', e1, e2, e3, th1, R1⟩ := backT_some R (hok t List.mem_cons_self) e
      obtain ⟨d1, new, f1, f2, f3, f4, th2, R2⟩ := backTurn_some R1 (fun x hx => hok x (List.mem_cons_of_mem _ hx)) h
      refine ⟨?_, t' :: new, by rw [f1, e1, List.append_assoc]; rfl, by rw [f2, e2, List.append_assoc]; rfl, congrArg (· + 1) f3, fun j u hu => ?_, th2, R2⟩
      · unfold numTurnA
        rw [c2]
        exact d1
      · cases j with
        | zero =>
          obtain rfl := Option.some.inj hu
          rw [e3, c1]
          rfl
        | succ j =>
          have := f4 j u hu
          rw [this]
          exact decide_eq_decide.mpr (by omega)
theorem backAll_some : ∀ {tss : List (List Tk)} {b b' : Bk} {th : List Str}, RB b.h b.s.lf b.s.st b.kd th → (∀ ts ∈ tss, ∀ t ∈ ts, Okt t) → backAll tss b = some b' →
    ∃ told, numTurns tss b.s.lf b.s.st = some told ∧ b'.h = b.h ++ told.flatten ∧ (∀ ts ∈ told, ∀ j t, ts[j]? = some t → isOut t = decide (j = 0)) ∧ ([] ∉ tss → [] ∉ told) ∧ ∃ th', RB b'.h b'.s.lf b'.s.st b'.kd th'
  | [], b, b', th, R, _, h => by
    obtain rfl := Option.some.inj h
    exact ⟨[], rfl, (List.append_nil _).symm, fun ts hts => (List.not_mem_nil hts).elim, fun _ => List.not_mem_nil, th, R⟩
  | ts :: r, b, b', th, R, hok, h => by
    unfold backAll at h
    split at h
    · cases h
    · rename_i b1 e
      obtain ⟨c1, new, e1, e2, e3, e4, th1, R1⟩ := backTurn_some (b := backNew b) R (hok ts List.mem_cons_self) e
      obtain ⟨told, d1, d2, d3, d4, th2, R2⟩ := backAll_some R1 (fun x hx => hok x (List.mem_cons_of_mem _ hx)) h
      refine ⟨new :: told, ?_, by rw [d2, e1, List.flatten_cons, List.append_assoc]; rfl, fun us hus j t ht => ?_, fun hn hm => ?_, th2, R2⟩
      · have c1' : numTurn ts b.s.lf b.s.st = some b1.s := c1
        unfold numTurns
        rw [c1']
        dsimp only
        rw [d1]
        show some (b1.s.tk :: told) = _
        rw [show b1.s.tk = new from e2]
      · rcases List.mem_cons.mp hus with rfl | hus
        · have := e4 j t ht
          rw [Nat.zero_add] at this
          exact this
        · exact d3 us hus j t ht
      · rcases List.mem_cons.mp hm with e | hm
        · rw [← e] at e3
          exact hn (List.mem_cons.mpr (.inl (List.length_eq_zero_iff.mp e3.symm).symm))
        · exact d4 (fun z => hn (List.mem_cons_of_mem _ z)) hm
/-- the turns of a flat list whose turns begin just with outer tokens -/
theorem split_body : ∀ (body : List Tk) (acc : List (List Tk)) (cur : List Tk), (∀ t ∈ body, isOut t = false) → body.foldl splitA (acc ++ [cur]) = acc ++ [cur ++ body]
  | [], acc, cur, _ => by rw [List.append_nil]; rfl
  | t :: r, acc, cur, h => by
    rw [List.foldl_cons]
    have e : splitA (acc ++ [cur]) t = acc ++ [cur ++ [t]] := by
      unfold splitA
      rw [if_neg (by rw [h t List.mem_cons_self]; exact Bool.false_ne_true), List.dropLast_concat, List.getLastD_concat]
    rw [e, split_body r acc _ fun x hx => h x (List.mem_cons_of_mem _ hx), List.append_assoc]
    rfl
theorem split_told : ∀ (told acc : List (List Tk)), (∀ ts ∈ told, ∀ j t, ts[j]? = some t → isOut t = decide (j = 0)) → [] ∉ told → told.flatten.foldl splitA acc = acc ++ told
  | [], acc, _, _ => (List.append_nil _).symm
  | [] :: r, acc, _, hn => absurd List.mem_cons_self hn
  | (t :: body) :: r, acc, h, hn => by
    rw [List.flatten_cons, List.foldl_append, List.foldl_cons]
    have h0 : isOut t = true := h _ List.mem_cons_self 0 t rfl
    have hb : ∀ x ∈ body, isOut x = false := fun x hx => by
      obtain ⟨j, hj⟩ := List.getElem?_of_mem hx
      rw [h _ List.mem_cons_self (j + 1) x hj]
      exact decide_eq_false (Nat.succ_ne_zero j)
    have e : splitA acc t = acc ++ [[t]] := if_pos h0
    rw [e, split_body body acc [t] hb, split_told r _ (fun ts hts => h ts (List.mem_cons_of_mem _ hts)) fun z => hn (List.mem_cons_of_mem _ z), List.append_assoc]
    rfl
theorem rb0 : RB bk0.h bk0.s.lf bk0.s.st bk0.kd [] := ⟨rfl, ⟨rfl, List.nodup_nil, fun n => ⟨fun h => (List.not_mem_nil h).elim, fun ⟨x, hx, _⟩ => by cases hx⟩⟩, fun n z h => (by cases h), fun rest => rfl⟩
theorem back_some {tss : List (List Tk)} {h : List Tk} (hok : ∀ ts ∈ tss, ∀ t ∈ ts, Okt t) (e : lawBack tss = some h) : numH tss (some h) := by
  unfold lawBack at e
  split at e
  · cases e
  · rename_i b eb
    split at e
    · cases e
    · rename_i hn
      obtain rfl := Option.some.inj e
      obtain ⟨told, d1, d2, d3, d4, th, R⟩ := backAll_some rb0 hok eb
      have d2 : b.h = told.flatten := d2
      have hne : ¬ b.h = [] := fun z => hn (.inr z)
      have sp : split told.flatten = told := split_told told [] d3 (d4 fun z => hn (.inl z))
      refine ⟨told, d1, d2.symm, ?_, ?_⟩
      · unfold chkH
        rw [if_neg hne]
        have := R.hi []
        rw [List.append_nil] at this
        rw [this]
        rfl
      · rw [d2, sp]
        exact age_nums d1 List.nodup_nil fun n hn => (List.not_mem_nil hn).elim
/-! the other way -/
theorem split_pat : ∀ (ts : List Tk) (acc : List (List Tk)), acc ≠ [] → (∀ x ∈ acc, x ≠ [] ∧ ∀ j t, x[j]? = some t → isOut t = decide (j = 0)) → ∀ x ∈ ts.foldl splitA acc, x ≠ [] ∧ ∀ j t, x[j]? = some t → isOut t = decide (j = 0)
  | [], acc, _, h => h
  | t :: r, acc, hne, h => by
    rw [List.foldl_cons]
    unfold splitA
    by_cases ho : isOut t = true
    · rw [if_pos ho]
      refine split_pat r _ (by simp) fun x hx => ?_
      rcases List.mem_append.mp hx with hx | hx
      · exact h x hx
      · obtain rfl := List.mem_singleton.mp hx
        refine ⟨List.cons_ne_nil _ _, fun j u hu => ?_⟩
        cases j with
        | zero => obtain rfl := Option.some.inj hu; exact ho
        | succ j => cases hu
    · rw [if_neg ho]
      refine split_pat r _ (by simp) fun x hx => ?_
      obtain ⟨a, l, rfl⟩ : ∃ a l, acc = a ++ [l] := ⟨acc.dropLast, acc.getLast hne, (List.dropLast_concat_getLast hne).symm⟩
      rw [List.dropLast_concat, List.getLastD_concat] at hx
      rcases List.mem_append.mp hx with hx | hx
      · exact h x (List.mem_append_left _ hx)
      · obtain rfl := List.mem_singleton.mp hx
        obtain ⟨h1, h2⟩ := h l (List.mem_append_right _ List.mem_cons_self)
        refine ⟨by simp, fun j u hu => ?_⟩
        by_cases hj : j < l.length
        · rw [List.getElem?_append_left hj] at hu
          exact h2 j u hu
        · have hl : 0 < l.length := List.length_pos_iff.mpr h1
          rw [List.getElem?_append_right (by omega)] at hu
          have hm := List.mem_of_getElem? hu
          obtain rfl := List.mem_singleton.mp hm
          rw [Bool.eq_false_iff.mpr ho]
          exact (decide_eq_false (by omega)).symm
theorem split_patH {ts : List Tk} (h0 : ∀ t, ts[0]? = some t → isOut t = true) : ∀ x ∈ split ts, x ≠ [] ∧ ∀ j t, x[j]? = some t → isOut t = decide (j = 0) := by
  cases ts with
  | nil => exact fun x hx => (List.not_mem_nil hx).elim
  | cons t r =>
    have ho := h0 t rfl
    have e : split (t :: r) = r.foldl splitA [[t]] := by
      unfold split
      rw [List.foldl_cons]
      unfold splitA
      rw [if_pos ho]
      rfl
    rw [e]
    refine split_pat r _ (List.cons_ne_nil _ _) fun x hx => ?_
    obtain rfl := List.mem_singleton.mp hx
    refine ⟨List.cons_ne_nil _ _, fun j u hu => ?_⟩
    cases j with
    | zero => obtain rfl := Option.some.inj hu; exact ho
    | succ j => cases hu
theorem age_out : ∀ (ts : List Tk) (s : Ag), ∃ new, (ts.foldl ageT s).tk = s.tk ++ new ∧ new.map isOut = ts.map isOut
  | [], s => ⟨[], (List.append_nil _).symm, rfl⟩
  | t :: r, s => by
    obtain ⟨new, e1, e2⟩ := age_out r (ageT s t)
    obtain ⟨t', e3, e4⟩ : ∃ t', (ageT s t).tk = s.tk ++ [t'] ∧ isOut t' = isOut t := by
      unfold ageT
      split
      · exact ⟨_, rfl, rfl⟩
      · split
        · exact ⟨_, rfl, rfl⟩
        · exact ⟨_, rfl, rfl⟩
    refine ⟨t' :: new, by rw [List.foldl_cons, e1, e3, List.append_assoc]; rfl, ?_⟩
    rw [List.map_cons, List.map_cons, e2, e4]
theorem ageTurns_out : ∀ (tss : List (List Tk)) (ns : List Nat) (st : Nat), ∀ y ∈ ageTurns tss ns st, ∃ x ∈ tss, y.map isOut = x.map isOut
  | [], _, _, y, hy => (List.not_mem_nil hy).elim
  | t :: r, ns, st, y, hy => by
    rcases List.mem_cons.mp hy with rfl | hy
    · obtain ⟨new, e1, e2⟩ := age_out t ⟨ns, ns, [], st⟩
      refine ⟨t, List.mem_cons_self, ?_⟩
      show ((t.foldl ageT ⟨ns, ns, [], st⟩).tk).map isOut = _
      rw [e1]
      exact e2
    · obtain ⟨x, hx, e⟩ := ageTurns_out r _ _ y hy
      exact ⟨x, List.mem_cons_of_mem _ hx, e⟩
theorem pat_map {x y : List Tk} (e : y.map isOut = x.map isOut) (h : x ≠ [] ∧ ∀ j t, x[j]? = some t → isOut t = decide (j = 0)) : y ≠ [] ∧ ∀ j t, y[j]? = some t → isOut t = decide (j = 0) := by
  have hl : y.length = x.length := by
    have := congrArg List.length e
    rw [List.length_map, List.length_map] at this
    exact this
  refine ⟨fun z => h.1 (List.length_eq_zero_iff.mp (by rw [← hl, z]; rfl)), fun j t ht => ?_⟩
  have hj := (List.getElem?_eq_some_iff.mp ht).1
  have h1 : (y.map isOut)[j]? = some (isOut t) := by rw [List.getElem?_map, ht]; rfl
  rw [e, List.getElem?_map, List.getElem?_eq_getElem (by omega)] at h1
  have h2 := h.2 j (x[j]'(by omega)) (List.getElem?_eq_getElem (by omega))
  rw [← Option.some.inj h1, h2]
theorem backTurn_of : ∀ {ts : List Tk} {k : Nat} {b : Bk} {s' : Ag} {rest : List Tk} {th : List Str}, RB b.h b.s.lf b.s.st b.kd th → (∀ t ∈ ts, Okt t) → (∀ j t, ts[j]? = some t → isOut t = decide (k + j = 0)) → numTurnA ts b.s = some s' → ∀ new, s'.tk = b.s.tk ++ new → chk (new ++ rest) b.h.length th (lastOv b.h) = none →
    ∃ b' th', backTurn ts k b = some b' ∧ b'.s = s' ∧ b'.h = b.h ++ new ∧ RB b'.h b'.s.lf b'.s.st b'.kd th' ∧ chk rest b'.h.length th' (lastOv b'.h) = none
  | [], k, b, s', rest, th, R, _, _, h, new, hn, hc => by
    obtain rfl := Option.some.inj h
    obtain rfl : new = [] := by
      have := congrArg List.length hn
      rw [List.length_append] at this
      exact List.length_eq_zero_iff.mp (by omega)
    exact ⟨b, th, rfl, rfl, (List.append_nil _).symm, R, hc⟩
  | t :: r, k, b, s', rest, th, R, hok, hp, h, new, hn, hc => by
    unfold numTurnA at h
    split at h
    · cases h
    · rename_i s1 e
      obtain ⟨t', e1, _, _, _⟩ := numT_tk e
      obtain ⟨l1, _⟩ := numTurnA_tk h
      obtain ⟨new', hn'⟩ : ∃ new', s'.tk = s1.tk ++ new' := by
        have : ∀ {ts : List Tk} {s s' : Ag}, numTurnA ts s = some s' → ∃ new', s'.tk = s.tk ++ new' := by
          intro ts
          induction ts with
          | nil =>
            intro s s' h
            obtain rfl := Option.some.inj h
            exact ⟨[], (List.append_nil _).symm⟩
          | cons t r ih =>
            intro s s' h
            unfold numTurnA at h
            split at h
            · cases h
            · rename_i s1 e
              obtain ⟨t', e1, _⟩ := numT_tk e
              obtain ⟨n, hn⟩ := ih h
              exact ⟨t' :: n, by rw [hn, e1, List.append_assoc]; rfl⟩
        exact this h
      have en : new = t' :: new' := by
        rw [hn', e1, List.append_assoc] at hn
        exact (List.append_cancel_left hn).symm
      subst en
      obtain ⟨b1, th1, f1, f2, f3, R1, f4⟩ := backT_of (k := k) (rest := new' ++ rest) R (hok t List.mem_cons_self) (hp 0 t rfl) e e1 hc
      subst f2
      obtain ⟨b2, th2, g1, g2, g3, R2, g4⟩ := backTurn_of (k := k + 1) R1 (fun x hx => hok x (List.mem_cons_of_mem _ hx)) (fun j u hu => by rw [hp (j + 1) u hu]; exact decide_eq_decide.mpr (by omega)) h new' hn' f4
      refine ⟨b2, th2, ?_, g2, by rw [g3, f3, List.append_assoc]; rfl, R2, g4⟩
      unfold backTurn
      rw [f1]
      exact g1
theorem backAll_of : ∀ {tss : List (List Tk)} {b : Bk} {told : List (List Tk)} {th : List Str}, RB b.h b.s.lf b.s.st b.kd th → (∀ ts ∈ tss, ∀ t ∈ ts, Okt t) → (∀ ts ∈ tss, ∀ j t, ts[j]? = some t → isOut t = decide (j = 0)) → numTurns tss b.s.lf b.s.st = some told → chk told.flatten b.h.length th (lastOv b.h) = none →
    ∃ b', backAll tss b = some b' ∧ b'.h = b.h ++ told.flatten
  | [], b, told, th, R, _, _, h, _ => by
    obtain rfl := Option.some.inj h
    exact ⟨b, rfl, (List.append_nil _).symm⟩
  | ts :: r, b, told, th, R, hok, hp, h, hc => by
    unfold numTurns at h
    split at h
    · cases h
    · rename_i s e
      cases z : numTurns r s.lf s.st with
      | none => rw [z] at h; cases h
      | some rest =>
        rw [z] at h
        obtain rfl := Option.some.inj h
        have hc : chk (s.tk ++ rest.flatten) b.h.length th (lastOv b.h) = none := hc
        obtain ⟨b1, th1, f1, f2, f3, R1, f4⟩ := backTurn_of (b := backNew b) (k := 0) R (hok ts List.mem_cons_self) (fun j t ht => by rw [Nat.zero_add]; exact hp ts List.mem_cons_self j t ht) e s.tk rfl hc
        subst f2
        obtain ⟨b2, g1, g2⟩ := backAll_of R1 (fun x hx => hok x (List.mem_cons_of_mem _ hx)) (fun x hx => hp x (List.mem_cons_of_mem _ hx)) z f4
        refine ⟨b2, ?_, ?_⟩
        · unfold backAll
          rw [f1]
          exact g1
        · rw [g2, f3]
          show b.h ++ b1.s.tk ++ rest.flatten = b.h ++ (b1.s.tk :: rest).flatten
          rw [List.flatten_cons, List.append_assoc]
theorem back_none {tss : List (List Tk)} (hok : ∀ ts ∈ tss, ∀ t ∈ ts, Okt t) (e : lawBack tss = none) : numH tss none := by
  intro told ht
  by_cases hc : chkH told.flatten = none
  · right
    intro ha
    have pat : ∀ y ∈ tss, y ≠ [] ∧ ∀ j t, y[j]? = some t → isOut t = decide (j = 0) := fun y hy => by
      rw [← ha] at hy
      obtain ⟨x, hx, e⟩ := ageTurns_out _ _ _ y hy
      exact pat_map e (split_patH (chk_out hc) x hx)
    have hc2 : told.flatten ≠ [] ∧ chk told.flatten 0 [] false = none := by
      unfold chkH at hc
      split at hc
      · cases hc
      · rename_i h
        exact ⟨h, hc⟩
    obtain ⟨b', h1, h2⟩ := backAll_of rb0 hok (fun y hy => (pat y hy).2) ht hc2.2
    have h2 : b'.h = told.flatten := h2
    unfold lawBack at e
    rw [h1] at e
    dsimp only at e
    rw [if_neg] at e
    · cases e
    · rintro (h | h)
      · exact (pat _ h).1 rfl
      · rw [h2] at h
        exact hc2.1 h
  · exact .inl hc
theorem back_numH {tss : List (List Tk)} (hok : ∀ ts ∈ tss, ∀ t ∈ ts, Okt t) : numH tss (lawBack tss) := by
  cases h : lawBack tss with
  | none => exact back_none hok h
  | some r => exact back_some hok h
end Op
namespace L2
theorem ix_or {X : Cx} {r1 r2 : R2} (h1 : IxR X r1) (h2 : IxR X r2) : IxR X (fun x y H Q => r1 x y H Q ∨ r2 x y H Q) := by
  intro value slice pins s σ H x y v u Q I rx ry h hs
  rcases h with h | h
  · exact h1 value slice pins s σ H x y v u Q I rx ry h hs
  · exact h2 value slice pins s σ H x y v u Q I rx ry h hs
end L2
namespace Op
open PySem L2 PyProof.Rows
theorem DpAll.at {K : PySem.W.Frag} {H : Hp} {vs : List V} {ds : List PyData} {i : Nat} {v : V} {d : PyData} (h : L2.DpAll K H vs ds) (hv : vs[i]? = some v) (hd : ds[i]? = some d) : Dp K H v d := by
  obtain ⟨d', h1, h2⟩ := h.get hv
  rw [hd] at h1
  cases h1
  exact h2
/-! ### the same data -/
def smK : Nat → PyData → Prop
  | 0, _ => False
  | n + 1, .tuple ds => ds.length ≤ 10000 ∧ ∀ d ∈ ds, smK n d
  | n + 1, .list ds => ds.length ≤ 10000 ∧ ∀ d ∈ ds, smK n d
  | n + 1, .none => True
  | n + 1, .bool _ => True
  | n + 1, .int _ => True
  | n + 1, .str s => s.length ≤ 100000
  | n + 1, .dict _ => False
def spSame (K : PySem.W.Frag) (n : Nat) : Sp := fun vs H Q _ => ∃ (v u : V) (d : PyData), vs = [v, u] ∧ Dp K H v d ∧ Dp K H u d ∧ smK n d ∧ ∀ H', Same H H' → Q (.bl true) H'
theorem kit_seq {K : PySem.W.Frag} (d : PyData) : PySem.W.kitAny K (.type (tyN d)) [.type "tuple", .type "list"] = some (isTup d || isList d) := by
  unfold PySem.W.kitAny
  rw [kit_tuple]
  cases h : isTup d with
  | true => rfl
  | false =>
    show PySem.W.kitAny K (.type (tyN d)) [.type "list"] = _
    unfold PySem.W.kitAny
    rw [kit_list]
    cases isList d <;> rfl
def isLf : PyData → Bool
  | .int _ => true
  | .bool _ => true
  | .str _ => true
  | _ => false
theorem kit_intstr {K : PySem.W.Frag} (d : PyData) (h : isLf d = true) : PySem.W.kitAny K (.type (tyN d)) [.type "int", .type "str"] = some true := by
  unfold PySem.W.kitAny
  rw [kit_int]
  cases d with
  | int _ => rfl
  | bool _ => rfl
  | str _ =>
    show PySem.W.kitAny K (.type "str") [.type "str"] = _
    unfold PySem.W.kitAny
    rw [kit_ty (show kitB "str" "str" = some true by decide +kernel)]
  | _ => cases h
section
variable {P : Program} {w : World} {K : PySem.W.Frag} {mg : Str → Option Value} {base : Heap}
theorem sc__law_same : FnScope ["_law_told_here", "_law_due", "_law_k"] ["_law_told_here", "_law_due"] (defScope s__law_same) := ⟨rfl, rfl, rfl, by decide +kernel, rfl, by decide +kernel, by decide +kernel⟩
theorem ok_same {f : Addr} {fd : FuncData} {n : Nat} (F : Fun K "_law_same" "_law_same" s__law_same f fd) (T : Txt mg) (c__law_same : Cal P w K mg base CX0 (n + 1) "_law_same" ["_law_told_here", "_law_due"] (spSame K n)) :
    FnOk P w K mg base CX0 (n + 2) f fd ["_law_told_here", "_law_due"] (spSame K (n + 1)) := by
  refine F.ok sc__law_same (fun vs H Q E h => ?_) (fun cdv A outer s H vs Q E hr h => ?_)
  · obtain ⟨v, u, d, rfl, _⟩ := h
    rfl
  · obtain ⟨v, u, d, rfl, hv, hu, hd, k⟩ := h
    refine ⟨_, (pss_cons (ps_if (pt_val (pe_callB call_isiT (by rfl) T.b_isinstance (by decide +kernel) (pa_cons (pv 1) (pa_cons (pe_tup (pa_cons (pe_bltn (v := .ty "tuple") (by rfl) T.b_tuple (by decide +kernel) rfl) (pa_cons (pe_bltn (v := .ty "list") (by rfl) T.b_list (by decide +kernel) rfl) pa_nil))) pa_nil)))) (pss_cons (ps_if (PW.pt (pw_or (pt_not (pt_val (pe_callB call_isiT (by rfl) T.b_isinstance (by decide +kernel) (pa_cons (pv 0) (pa_cons (pe_tup (pa_cons (pe_bltn (v := .ty "tuple") (by rfl) T.b_tuple (by decide +kernel) rfl) (pa_cons (pe_bltn (v := .ty "list") (by rfl) T.b_list (by decide +kernel) rfl) pa_nil))) pa_nil))))) (pw_or1 (pt_cmpR op_ne (pe_callB call_len_seq (by rfl) T.b_len (by decide +kernel) (pa_cons (pv 0) pa_nil)) (pe_callB call_len_seq (by rfl) T.b_len (by decide +kernel) (pa_cons (pv 1) pa_nil)) (nomark _))))) (pss_one (ps_ret pe_bl)) pss_nil)
      (pss_cons (ps_if (pt_cmpR op_ne (pe_callB call_isi (by rfl) T.b_isinstance (by decide +kernel) (pa_cons (pv 0) (pa_cons (pe_bltn (v := .ty "tuple") (by rfl) T.b_tuple (by decide +kernel) rfl) pa_nil))) (pe_callB call_isi (by rfl) T.b_isinstance (by decide +kernel) (pa_cons (pv 1) (pa_cons (pe_bltn (v := .ty "tuple") (by rfl) T.b_tuple (by decide +kernel) rfl) pa_nil))) (nomark _)) (pss_one (ps_ret pe_bl)) pss_nil)
      (pss_one (ps_ret (pe_cmpR op_notIn_seq pe_bl (pe_lc (own := [("_law_k", 2)]) (g := gName 2) (tt := tYes) rfl sc__law_same.nd (pi_range1 (by rfl) T.b_range (pa_cons (pe_callB call_len_seq (by rfl) T.b_len (by decide +kernel) (pa_cons (pv 1) pa_nil)) pa_nil)) (blkOk_by (own := [("_law_k", 2)]) (N := ["_law_told_here", "_law_due", "_law_k"]) (sc := defScope s__law_same) (by decide +kernel)) (fun _ _ _ _ _ => (pg_name (i := 2) sc__law_same.nd rfl (.inl rfl))) (fun _ _ _ _ _ => pts_nil) (fun _ _ _ _ _ => (pe_cal c__law_same (hr.mono (by omega)) rfl pass0 (pa_cons (pe_ix (ix_or (r1 := rIxL K) (r2 := rIxT K) ix_list ix_tup) (pv 0) (pv 2) (fun _ _ => rfl)) (pa_cons (pe_ix (ix_or (r1 := rIxL K) (r2 := rIxT K) ix_list ix_tup) (pv 1) (pv 2) (fun _ _ => rfl)) pa_nil))))) (by rfl)))))) pss_nil)
      (pss_cons (ps_if (PW.pt (pw_or (pt_cmpR op_isN (pv 1) pe_non (nomark _)) (pw_or1 (pt_cmpR op_isN (pv 0) pe_non (nomark _))))) (pss_one (ps_ret (pe_and (pe_cmpR op_isN (pv 1) pe_non (nomark _)) (pe_one (pe_cmpR op_isN (pv 0) pe_non (nomark _)))))) pss_nil)
      (pss_cons (ps_if (pt_cmpR op_ne (pe_callB call_isi (by rfl) T.b_isinstance (by decide +kernel) (pa_cons (pv 0) (pa_cons (pe_bltn (v := .ty "bool") (by rfl) T.b_bool (by decide +kernel) rfl) pa_nil))) (pe_callB call_isi (by rfl) T.b_isinstance (by decide +kernel) (pa_cons (pv 1) (pa_cons (pe_bltn (v := .ty "bool") (by rfl) T.b_bool (by decide +kernel) rfl) pa_nil))) (nomark _)) (pss_one (ps_ret pe_bl)) pss_nil)
      (pss_cons (ps_if (pt_cmpR op_ne (pe_callB call_isi (by rfl) T.b_isinstance (by decide +kernel) (pa_cons (pv 0) (pa_cons (pe_bltn (v := .ty "str") (by rfl) T.b_str (by decide +kernel) rfl) pa_nil))) (pe_callB call_isi (by rfl) T.b_isinstance (by decide +kernel) (pa_cons (pv 1) (pa_cons (pe_bltn (v := .ty "str") (by rfl) T.b_str (by decide +kernel) rfl) pa_nil))) (nomark _)) (pss_one (ps_ret pe_bl)) pss_nil)
      (pss_one (ps_ret (pe_and (pe_callB call_isiT (by rfl) T.b_isinstance (by decide +kernel) (pa_cons (pv 0) (pa_cons (pe_tup (pa_cons (pe_bltn (v := .ty "int") (by rfl) T.b_int (by decide +kernel) rfl) (pa_cons (pe_bltn (v := .ty "str") (by rfl) T.b_str (by decide +kernel) rfl) pa_nil))) pa_nil))) (pe_one (pe_cmpR op_eq (pv 0) (pv 1) (nomark _)))))))))), ?_⟩
    refine ⟨_, rfl, sz2 _ _, fun t1 g1 => ?_⟩
    have s1 := Same.new (o := .tup [.ty "tuple", .ty "list"]) g1
    have l1 := at_new (o := .tup [.ty "tuple", .ty "list"]) g1
    revert s1 l1
    generalize upd _ t1 _ = H1
    intro s1 l1
    have hv1 := hv.mono s1
    have hu1 := hu.mono s1
    refine ⟨_, t1, _, _, _, _, rfl, l1, .cons (.ty _) (.cons (.ty _) .nil), ty_dp hu1, kit_seq d, _, rfl, ?_⟩
    have seq : ∀ ds : List PyData, (d = .tuple ds ∨ d = .list ds) → ∀ G, Same H G → ∃ xs ys pv pu, v = .ref pv ∧ u = .ref pu ∧ (SqL K G pv xs ∨ SqT K G pv xs) ∧ (SqL K G pu ys ∨ SqT K G pu ys) ∧ DpAll K G xs ds ∧ DpAll K G ys ds := by
      rintro ds (rfl | rfl) G sG
      · cases hv.mono sG with
        | tup h1 h2 => cases hu.mono sG with
          | tup h3 h4 => exact ⟨_, _, _, _, rfl, rfl, .inr h1, .inr h3, h2, h4⟩
      · cases hv.mono sG with
        | lst h1 h2 => cases hu.mono sG with
          | lst h3 h4 => exact ⟨_, _, _, _, rfl, rfl, .inl h1, .inl h3, h2, h4⟩
    cases hseq : (isTup d || isList d) with
    | true =>
      refine ifT rfl ?_
      obtain ⟨ds, hds⟩ : ∃ ds, d = .tuple ds ∨ d = .list ds := by
        cases d with
        | tuple ds => exact ⟨ds, .inl rfl⟩
        | list ds => exact ⟨ds, .inr rfl⟩
        | _ => cases hseq
      have hsm : ds.length ≤ 10000 ∧ ∀ e ∈ ds, smK n e := by
        rcases hds with rfl | rfl <;> exact hd
      obtain ⟨xs, ys, pv', pu', rfl, rfl, _⟩ := seq ds hds H (Same.refl _)
      refine ⟨_, rfl, sz2 _ _, fun t2 g2 => ?_⟩
      have s2 := Same.new (o := .tup [.ty "tuple", .ty "list"]) g2
      have l2 := at_new (o := .tup [.ty "tuple", .ty "list"]) g2
      revert s2 l2
      generalize upd _ t2 _ = H2
      intro s2 l2
      have s02 := s1.trans s2
      have hv2 := hv.mono s02
      have hu2 := hu.mono s02
      obtain ⟨xs, ys, pv', pu', e1, e2, q1, q2, a1, a2⟩ := seq ds hds H2 s02
      cases e1
      cases e2
      refine ⟨_, t2, _, _, _, _, rfl, l2, .cons (.ty _) (.cons (.ty _) .nil), ty_dp hv2, kit_seq d, _, rfl, ?_⟩
      rw [hseq]
      have hl1 : xs.length = ds.length := a1.len
      have hl2 : ys.length = ds.length := a2.len
      refine ifF rfl ⟨_, rfl, _, _, rfl, q1, _, rfl, _, _, rfl, q2, rfl, _, rfl, ifF ?_ ?_⟩
      · rw [hl1, hl2]
        simp
      refine ⟨_, rfl, _, _, _, _, _, rfl, .ty _, ty_dp hv2, kit_tuple d, _, rfl, _, _, _, _, _, rfl, .ty _, ty_dp hu2, kit_tuple d, rfl, _, rfl, ifF ?_ ?_⟩
      · simp
      refine ⟨_, rfl, _, _, rfl, q2, (ys.length : Int), rfl, by omega, by omega, fun D hD => ?_⟩
      rw [Int.toNat_natCast]
      refine lc_it (walk_range (lo := 0) (n := ys.length)) (fun i H' => H' D = some (.lst (List.replicate i (.bl true))) ∧ Same H2 H') ⟨upd_same, Same.new hD⟩ (fun _ _ _ _ => trivial) ?_ ?_
      · rintro i x H5 H4 hi ⟨hD4, s4⟩ ⟨rfl, rfl⟩
        have hx : xs[i]? = some xs[i] := List.getElem?_eq_getElem (by omega)
        have hy : ys[i]? = some ys[i] := List.getElem?_eq_getElem hi
        have hdi : ds[i]? = some ds[i] := List.getElem?_eq_getElem (by omega)
        have zi : (0 : Int) + (i : Int) = i := by omega
        have at1 : atI xs (0 + (i : Int)) = some xs[i] := by rw [zi]; exact atI_nat hx
        have at2 : atI ys (0 + (i : Int)) = some ys[i] := by rw [zi]; exact atI_nat hy
        have fin : ∃ (v u : V) (d : PyData), [xs[i], ys[i]] = [v, u] ∧ Dp K H4 v d ∧ Dp K H4 u d ∧ smK n d ∧ ∀ H', Same H4 H' → ∃ acc, H' D = some (.lst acc) ∧ acc.length < sizeLine ∧ upd H' D (.lst (acc ++ [.bl true])) D = some (.lst (List.replicate (i + 1) (.bl true))) ∧ Same H2 (upd H' D (.lst (acc ++ [.bl true]))) := by
          refine ⟨_, _, ds[i], rfl, (DpAll.at a1 hx hdi).mono s4, (DpAll.at a2 hy hdi).mono s4, hsm.2 _ (List.mem_of_getElem? hdi), fun H' s' => ⟨_, s' _ _ hD4, lt_sz (by rw [List.length_replicate]; omega), ?_, fun b o hb => ?_⟩⟩
          · rw [upd_same, List.replicate_succ']
          · rw [L2.upd_ne (ne_of_none hb hD)]
            exact s' _ _ (s4 b o hb)
        refine ⟨rfl, _, rfl, _, rfl, ?_⟩
        rcases q1 with q1 | q1 <;> rcases q2 with q2 | q2
        · exact .inl ⟨_, _, _, _, rfl, rfl, q1.mono s4, at1, _, rfl, _, rfl, .inl ⟨_, _, _, _, rfl, rfl, q2.mono s4, at2, fin⟩⟩
        · exact .inl ⟨_, _, _, _, rfl, rfl, q1.mono s4, at1, _, rfl, _, rfl, .inr ⟨_, _, _, _, rfl, rfl, q2.mono s4, at2, fin⟩⟩
        · exact .inr ⟨_, _, _, _, rfl, rfl, q1.mono s4, at1, _, rfl, _, rfl, .inl ⟨_, _, _, _, rfl, rfl, q2.mono s4, at2, fin⟩⟩
        · exact .inr ⟨_, _, _, _, rfl, rfl, q1.mono s4, at1, _, rfl, _, rfl, .inr ⟨_, _, _, _, rfl, rfl, q2.mono s4, at2, fin⟩⟩
      · rintro H4 ⟨hD4, s4⟩
        refine ⟨D, _, rfl, .inl (.inl (.inl hD4)), rfl, ?_, ?_⟩
        · exact List.all_eq_true.mpr fun v hv => by rw [(List.mem_replicate.mp hv).2]; rfl
        · have : inV (.bl false) (List.replicate ys.length (.bl true)) = false := by
            unfold inV
            refine List.any_eq_false.mpr fun v hv => ?_
            rw [(List.mem_replicate.mp hv).2]
            decide
          rw [if_pos rfl, this]
          exact k H4 (s02.trans s4)
    | false =>
      refine ifF rfl ?_
      by_cases hnon : d = .none
      · subst hnon
        cases hv
        cases hu
        exact ⟨_, rfl, rfl, _, rfl, ifT rfl (ifT rfl ⟨_, rfl, rfl, _, rfl, ifT rfl ⟨_, rfl, rfl, k H1 s1⟩⟩)⟩
      · have leaf : isLf d = true := by
          cases d with
          | none => exact (hnon rfl).elim
          | bool b => exact rfl
          | int i => exact rfl
          | str z => exact rfl
          | tuple ds => cases hseq
          | list ds => cases hseq
          | dict ds => exact hd.elim
        have f1 := leaf
        have nv : decide (v = .non) = false := decide_eq_false fun e => by
          subst e
          cases hv
          exact hnon rfl
        have nu : decide (u = .non) = false := decide_eq_false fun e => by
          subst e
          cases hu
          exact hnon rfl
        refine ⟨_, rfl, rfl, _, rfl, ifF nu ⟨_, rfl, rfl, _, rfl, ifF nv ?_⟩⟩
        refine ⟨_, rfl, _, _, _, _, _, rfl, .ty _, ty_dp hv1, kit_bool d, _, rfl, _, _, _, _, _, rfl, .ty _, ty_dp hu1, kit_bool d, rfl, _, rfl, ifF ?_ ?_⟩
        · simp
        refine ⟨_, rfl, _, _, _, _, _, rfl, .ty _, ty_dp hv1, kit_str d, _, rfl, _, _, _, _, _, rfl, .ty _, ty_dp hu1, kit_str d, rfl, _, rfl, ifF ?_ ?_⟩
        · simp
        refine ⟨_, rfl, sz2 _ _, fun t2 g2 => ?_⟩
        have s2 := Same.new (o := .tup [.ty "int", .ty "str"]) g2
        have l2 := at_new (o := .tup [.ty "int", .ty "str"]) g2
        revert s2 l2
        generalize upd _ t2 _ = H2
        intro s2 l2
        refine ⟨_, t2, _, _, _, _, rfl, l2, .cons (.ty _) (.cons (.ty _) .nil), ty_dp (hv1.mono s2), kit_intstr d f1, _, rfl, ifT rfl ?_⟩
        have fin := k H2 (s1.trans s2)
        cases d with
        | none => cases f1
        | bool b =>
          cases hv
          cases hu
          refine ⟨_, rfl, _, rfl, rfl, ?_⟩
          rw [decide_eq_true rfl]
          exact fin
        | int i =>
          cases hv
          cases hu
          refine ⟨_, rfl, _, rfl, rfl, ?_⟩
          rw [decide_eq_true rfl]
          exact fin
        | str z =>
          cases hv
          cases hu
          refine ⟨_, rfl, _, rfl, rfl, ?_⟩
          rw [decide_eq_true rfl]
          exact fin
        | _ => cases f1
theorem ok_sameN {f : Addr} {fd : FuncData} (F : Fun K "_law_same" "_law_same" s__law_same f fd) (T : Txt mg) (g1 : mg "_law_same" = some (.ref f)) (k1 : PySem.W.keepIn K (.ref f) = true)
    (b1 : Binds K fd ["_law_told_here", "_law_due"] []) : ∀ n : Nat, Cal P w K mg base CX0 (n + 1) "_law_same" ["_law_told_here", "_law_due"] (spSame K n)
  | 0 => ⟨f, fd, g1, k1, b1, F.ok sc__law_same (fun vs H Q E h => by obtain ⟨v, u, d, rfl, _⟩ := h; rfl) (fun cdv A outer s H vs Q E hr h => by obtain ⟨v, u, d, _, _, _, hk, _⟩ := h; exact hk.elim)⟩
  | n + 1 => ⟨f, fd, g1, k1, b1, ok_same F T (ok_sameN F T g1 k1 b1 n)⟩
end
end Op
set_option pp.maxSteps 500
namespace Op
open PySem L2 PyProof.Rows
def spSm (K : PySem.W.Frag) (n : Nat) : Sp := fun vs H Q _ => ∃ (v u : V) (d e : PyData), vs = [v, u] ∧ Dp K H v d ∧ Dp K H u e ∧ smK n d ∧ smK n e ∧ (d = e → ∀ H', Same H H' → Q (.bl true) H') ∧ (d ≠ e → ∀ H', Same H H' → Q (.bl false) H')
def spItems (K : PySem.W.Frag) (n : Nat) : Sp := fun vs H Q _ => ∃ (p q : Addr) (xs ys : List V) (ds es : List PyData), vs = [.ref p, .ref q] ∧ SqL K H p xs ∧ SqL K H q ys ∧ DpAll K H xs ds ∧ DpAll K H ys es ∧ ds.length ≤ 10000 ∧ es.length ≤ 10000 ∧ (∀ d ∈ ds, smK n d) ∧ (∀ d ∈ es, smK n d) ∧
  (ds = es → ∀ H', Same H H' → Q (.bl true) H') ∧ (ds ≠ es → ∀ H', Same H H' → Q (.bl false) H')
section
variable {P : Program} {w : World} {K : PySem.W.Frag} {mg : Str → Option Value} {base : Heap} {pF pO pN pL CH CA : Addr}
theorem sc_same_items : FnScope ["ones", "others", "one", "other"] ["ones", "others"] (defScope s_same_items) := ⟨rfl, rfl, rfl, by decide +kernel, rfl, by decide +kernel, by decide +kernel⟩
theorem ok_same_items {f : Addr} {fd : FuncData} {n m : Nat} (F : Fun K "same_items" "same_items" s_same_items f fd) (T : TxtH P w K mg pF pO pN pL CH CA) (c_same : Cal P w K mg base CX0 m "same" ["one", "other"] (spSm K n)) : FnOk P w K mg base CX0 (m + 1) f fd ["ones", "others"] (spItems K n) := by
  refine F.ok sc_same_items (fun vs H Q E h => ?_) (fun cdv A outer s H vs Q E hr h => ?_)
  · obtain ⟨p, q, xs, ys, ds, es, rfl, _⟩ := h
    rfl
  · obtain ⟨p, q, xs, ys, ds, es, rfl, hp, hq, hx, hy, n1, n2, m1, m2, k1, k2⟩ := h
    have lx := hx.len
    have ly := hy.len
    refine ⟨_, (pss_cons (ps_if (pt_cmpR op_ne (pe_callB call_len_seq (by rfl) T.b_len (by decide +kernel) (pa_cons (pv 0) pa_nil)) (pe_callB call_len_seq (by rfl) T.b_len (by decide +kernel) (pa_cons (pv 1) pa_nil)) (nomark _)) (pss_one (ps_ret pe_bl)) pss_nil)
      (pss_cons (ps_for PassesOwn.never rfl (pi_zip (by rfl) T.b_zip (pa_cons (pv 0) (pa_cons (pv 1) pa_nil))) (pg_tup rfl (pgs_cons (pg_name (i := 2) sc_same_items.nd rfl (.inl rfl)) (pgs_cons (pg_name (i := 3) sc_same_items.nd rfl (.inl rfl)) pgs_nil))) (pss_one (ps_if (pt_not (pt_val (pe_cal c_same (hr.mono (by omega)) rfl pass0 (pa_cons (pv 2) (pa_cons (pv 3) pa_nil))))) (pss_one (ps_ret pe_bl)) pss_nil)))
      (pss_one (ps_ret pe_bl)))), ?_⟩
    refine ⟨_, rfl, p, _, rfl, .inl hp, _, rfl, q, _, rfl, .inl hq, rfl, _, rfl, ?_⟩
    by_cases hl : xs.length = ys.length
    · refine ifF (by rw [hl]; simp) ?_
      refine ⟨_, rfl, _, rfl, p, q, xs, ys, rfl, hp, hq, ?_⟩
      refine RZ.for_zipL hl (fun i σ H' => (∃ y2 y3 : Option V, σ = [some (.ref p), some (.ref q), y2, y3]) ∧ Same H H' ∧ ds.take i = es.take i) ⟨⟨_, _, rfl⟩, Same.refl _, rfl⟩ (fun i σ H' z => ⟨hp.mono z.2.1, hq.mono z.2.1⟩) ?_ ?_
      · rintro i x y T0 σ H' h1 h2 ⟨⟨y2, y3, rfl⟩, s1, e0⟩ hT0
        obtain ⟨d, d1, d2⟩ := hx.get h1
        obtain ⟨e, e1, e2⟩ := hy.get h2
        have sm : Same H' (upd H' T0 (.tup [x, y])) := Same.new hT0
        refine ⟨T0, _, rfl, .inl (.inl upd_same), rfl, _, _, rfl, _, _, rfl, rfl, ?_⟩
        have s2 := s1.trans sm
        revert s2
        generalize upd H' T0 (.tup [x, y]) = H2
        intro s2
        refine ⟨_, rfl, _, rfl, x, y, d, e, rfl, d2.mono s2, e2.mono s2, m1 d (List.mem_of_getElem? d1), m2 e (List.mem_of_getElem? e1), fun he H3 s3 => ?_, fun he H3 s3 => ?_⟩
        · refine ⟨_, rfl, ifF rfl ⟨⟨_, _, rfl⟩, s2.trans s3, ?_⟩⟩
          rw [TS.take_one d1, TS.take_one e1, e0, he]
        · refine ⟨_, rfl, ifT rfl (k2 (fun z => he ?_) _ (s2.trans s3))⟩
          rw [z, e1] at d1
          exact (Option.some.inj d1).symm
      · rintro σ H' ⟨⟨y2, y3, rfl⟩, s1, e0⟩
        rw [List.take_of_length_le (by omega), List.take_of_length_le (by omega)] at e0
        exact k1 e0 _ s1
    · refine ifT (by simp only [ne_eq, decide_not, Bool.not_eq_true']; exact decide_eq_false fun z => hl (by injection z with z; omega)) (k2 (fun e => hl (by rw [lx, ly, e])) _ (Same.refl _))
end
end Op
set_option pp.maxSteps 400
namespace Op
open PySem L2 PyProof.Rows
section
variable {P : Program} {w : World} {K : PySem.W.Frag} {mg : Str → Option Value} {base : Heap} {pF pO pN pL CH CA : Addr}
theorem sc_same : FnScope ["one", "other"] ["one", "other"] (defScope s_same) := ⟨rfl, rfl, rfl, by decide +kernel, rfl, by decide +kernel, by decide +kernel⟩
theorem ok_sameP {f : Addr} {fd : FuncData} {n m : Nat} (F : Fun K "same" "same" s_same f fd) (T : TxtH P w K mg pF pO pN pL CH CA) (c_same_items : Cal P w K mg base CX0 m "same_items" ["ones", "others"] (spItems K n)) : FnOk P w K mg base CX0 (m + 1) f fd ["one", "other"] (spSm K (n + 1)) := by
  refine F.ok sc_same (fun vs H Q E h => ?_) (fun cdv A outer s H vs Q E hr h => ?_)
  · obtain ⟨v, u, d, e, rfl, _⟩ := h
    rfl
  · obtain ⟨v, u, d, e, rfl, hd, he, m1, m2, k1, k2⟩ := h
    have td := ty_dp hd
    have te := ty_dp he
    refine ⟨_, (pss_cons (ps_if (PW.pt (pw_and (pt_val (pe_callB call_isi (by rfl) T.b_isinstance (by decide +kernel) (pa_cons (pv 0) (pa_cons (pe_bltn (v := .ty "tuple") (by rfl) T.b_tuple (by decide +kernel) rfl) pa_nil)))) (pw_and1 (pt_val (pe_callB call_isi (by rfl) T.b_isinstance (by decide +kernel) (pa_cons (pv 1) (pa_cons (pe_bltn (v := .ty "tuple") (by rfl) T.b_tuple (by decide +kernel) rfl) pa_nil))))))) (pss_one (ps_ret (pe_cal c_same_items (hr.mono (by omega)) rfl pass0 (pa_cons (pe_callTy call_list_of (by rfl) T.b_list (by decide +kernel) (pa_cons (pv 0) pa_nil)) (pa_cons (pe_callTy call_list_of (by rfl) T.b_list (by decide +kernel) (pa_cons (pv 1) pa_nil)) pa_nil))))) pss_nil)
      (pss_cons (ps_if (PW.pt (pw_and (pt_val (pe_callB call_isi (by rfl) T.b_isinstance (by decide +kernel) (pa_cons (pv 0) (pa_cons (pe_bltn (v := .ty "list") (by rfl) T.b_list (by decide +kernel) rfl) pa_nil)))) (pw_and1 (pt_val (pe_callB call_isi (by rfl) T.b_isinstance (by decide +kernel) (pa_cons (pv 1) (pa_cons (pe_bltn (v := .ty "list") (by rfl) T.b_list (by decide +kernel) rfl) pa_nil))))))) (pss_one (ps_ret (pe_cal c_same_items (hr.mono (by omega)) rfl pass0 (pa_cons (pv 0) (pa_cons (pv 1) pa_nil))))) pss_nil)
      (pss_cons (ps_if (PW.pt (pw_or (pt_val (pe_callB call_isi (by rfl) T.b_isinstance (by decide +kernel) (pa_cons (pv 0) (pa_cons (pe_bltn (v := .ty "bool") (by rfl) T.b_bool (by decide +kernel) rfl) pa_nil)))) (pw_or1 (pt_val (pe_callB call_isi (by rfl) T.b_isinstance (by decide +kernel) (pa_cons (pv 1) (pa_cons (pe_bltn (v := .ty "bool") (by rfl) T.b_bool (by decide +kernel) rfl) pa_nil))))))) (pss_one (ps_ret (pe_and (pe_callB call_isi (by rfl) T.b_isinstance (by decide +kernel) (pa_cons (pv 0) (pa_cons (pe_bltn (v := .ty "bool") (by rfl) T.b_bool (by decide +kernel) rfl) pa_nil))) (pe_and (pe_callB call_isi (by rfl) T.b_isinstance (by decide +kernel) (pa_cons (pv 1) (pa_cons (pe_bltn (v := .ty "bool") (by rfl) T.b_bool (by decide +kernel) rfl) pa_nil))) (pe_one (pe_cmpR op_eq (pv 0) (pv 1) (nomark _))))))) pss_nil)
      (pss_cons (ps_if (PW.pt (pw_or (pt_val (pe_callB call_isi (by rfl) T.b_isinstance (by decide +kernel) (pa_cons (pv 0) (pa_cons (pe_bltn (v := .ty "int") (by rfl) T.b_int (by decide +kernel) rfl) pa_nil)))) (pw_or1 (pt_val (pe_callB call_isi (by rfl) T.b_isinstance (by decide +kernel) (pa_cons (pv 0) (pa_cons (pe_bltn (v := .ty "str") (by rfl) T.b_str (by decide +kernel) rfl) pa_nil))))))) (pss_cons (ps_if (PW.pt (pw_and (pt_cmpR op_eq (pe_callB call_isi (by rfl) T.b_isinstance (by decide +kernel) (pa_cons (pv 0) (pa_cons (pe_bltn (v := .ty "int") (by rfl) T.b_int (by decide +kernel) rfl) pa_nil))) (pe_callB call_isi (by rfl) T.b_isinstance (by decide +kernel) (pa_cons (pv 1) (pa_cons (pe_bltn (v := .ty "int") (by rfl) T.b_int (by decide +kernel) rfl) pa_nil))) (nomark _)) (pw_and1 (pt_cmpR op_eq (pe_callB call_isi (by rfl) T.b_isinstance (by decide +kernel) (pa_cons (pv 0) (pa_cons (pe_bltn (v := .ty "str") (by rfl) T.b_str (by decide +kernel) rfl) pa_nil))) (pe_callB call_isi (by rfl) T.b_isinstance (by decide +kernel) (pa_cons (pv 1) (pa_cons (pe_bltn (v := .ty "str") (by rfl) T.b_str (by decide +kernel) rfl) pa_nil))) (nomark _))))) (pss_one (ps_ret (pe_cmpR op_eq (pv 0) (pv 1) (nomark _)))) pss_nil)
      (pss_one (ps_ret pe_bl))) pss_nil)
      (pss_one (ps_ret (pe_and (pe_cmpR op_isN (pv 0) pe_non (nomark _)) (pe_one (pe_cmpR op_isN (pv 1) pe_non (nomark _)))))))))), ?_⟩
    refine ⟨_, rfl, v, _, _, _, _, rfl, .ty _, td, kit_tuple d, _, rfl, ?_⟩
    cases hd with
    | @tup a xs ds ha hx =>
      refine ifT rfl ⟨_, rfl, u, _, _, _, _, rfl, .ty _, te, kit_tuple e, _, rfl, ?_⟩
      cases he with
      | @tup b ys es hb hy =>
        refine ifT rfl ⟨_, rfl, a, xs, rfl, .inr ha, fun p hp => ⟨_, rfl, b, ys, rfl, .inr (hb.mono (Same.new hp)), fun q hq => ?_⟩⟩
        have s1 : Same H (upd H p (.lst xs)) := Same.new hp
        have s2 := s1.trans (Same.new (o := .lst ys) hq)
        have g1 : upd (upd H p (.lst xs)) q (.lst ys) p = some (.lst xs) := Same.new (o := .lst ys) hq _ _ upd_same
        refine ⟨p, q, xs, ys, ds, es, rfl, .inl (.inl g1), .inl (.inl upd_same), hx.mono s2, hy.mono s2, m1.1, m2.1, m1.2, m2.2, fun z H' s3 => k1 (by rw [z]) _ (s2.trans s3), fun z H' s3 => k2 (fun z' => z (by injection z')) _ (s2.trans s3)⟩
      | bl =>
        refine ifF rfl ⟨_, rfl, .ref a, _, _, _, _, rfl, .ty _, td, kit_list _, _, rfl, ifF rfl ⟨_, rfl, .ref a, _, _, _, _, rfl, .ty _, td, kit_bool _, _, rfl, ifF rfl ⟨_, rfl, _, _, _, _, _, rfl, .ty _, te, kit_bool _, _, rfl, ifT rfl ⟨_, rfl, .ref a, _, _, _, _, rfl, .ty _, td, kit_bool _, _, rfl, ifF rfl (k2 (fun z => by cases z) _ (Same.refl _))⟩⟩⟩⟩
      | _ =>
        refine ifF rfl ⟨_, rfl, .ref a, _, _, _, _, rfl, .ty _, td, kit_list _, _, rfl, ifF rfl ⟨_, rfl, .ref a, _, _, _, _, rfl, .ty _, td, kit_bool _, _, rfl, ifF rfl ⟨_, rfl, _, _, _, _, _, rfl, .ty _, te, kit_bool _, _, rfl, ifF rfl ⟨_, rfl, .ref a, _, _, _, _, rfl, .ty _, td, kit_int _, _, rfl, ifF rfl ⟨_, rfl, .ref a, _, _, _, _, rfl, .ty _, td, kit_str _, _, rfl, ifF rfl ⟨_, rfl, rfl, _, rfl, ifF rfl (k2 (fun z => by cases z) _ (Same.refl _))⟩⟩⟩⟩⟩⟩
    | @lst a xs ds ha hx =>
      refine ifF rfl ⟨_, rfl, .ref a, _, _, _, _, rfl, .ty _, td, kit_list _, _, rfl, ifT rfl ⟨_, rfl, u, _, _, _, _, rfl, .ty _, te, kit_list e, _, rfl, ?_⟩⟩
      cases he with
      | @lst b ys es hb hy =>
        refine ifT rfl ⟨_, rfl, _, rfl, a, b, xs, ys, ds, es, rfl, ha, hb, hx, hy, m1.1, m2.1, m1.2, m2.2, fun z H' s3 => k1 (by rw [z]) _ s3, fun z H' s3 => k2 (fun z' => z (by injection z')) _ s3⟩
      | bl =>
        exact ifF rfl ⟨_, rfl, .ref a, _, _, _, _, rfl, .ty _, td, kit_bool _, _, rfl, ifF rfl ⟨_, rfl, _, _, _, _, _, rfl, .ty _, te, kit_bool _, _, rfl, ifT rfl ⟨_, rfl, .ref a, _, _, _, _, rfl, .ty _, td, kit_bool _, _, rfl, ifF rfl (k2 (fun z => by cases z) _ (Same.refl _))⟩⟩⟩
      | _ =>
        exact ifF rfl ⟨_, rfl, .ref a, _, _, _, _, rfl, .ty _, td, kit_bool _, _, rfl, ifF rfl ⟨_, rfl, _, _, _, _, _, rfl, .ty _, te, kit_bool _, _, rfl, ifF rfl ⟨_, rfl, .ref a, _, _, _, _, rfl, .ty _, td, kit_int _, _, rfl, ifF rfl ⟨_, rfl, .ref a, _, _, _, _, rfl, .ty _, td, kit_str _, _, rfl, ifF rfl ⟨_, rfl, rfl, _, rfl, ifF rfl (k2 (fun z => by cases z) _ (Same.refl _))⟩⟩⟩⟩⟩
    | bl b =>
      refine ifF rfl ⟨_, rfl, _, _, _, _, _, rfl, .ty _, td, kit_list _, _, rfl, ifF rfl ⟨_, rfl, _, _, _, _, _, rfl, .ty _, td, kit_bool _, _, rfl, ifT rfl (ifT rfl ⟨_, rfl, _, _, _, _, _, rfl, .ty _, td, kit_bool _, _, rfl, ifT rfl ⟨_, rfl, u, _, _, _, _, rfl, .ty _, te, kit_bool e, _, rfl, ?_⟩⟩)⟩⟩
      cases he with
      | bl b2 =>
        refine ifT rfl ⟨_, rfl, _, rfl, rfl, ?_⟩
        by_cases z : b = b2
        · subst z
          rw [decide_eq_true rfl]
          exact k1 rfl _ (Same.refl _)
        · rw [decide_eq_false fun z' => z (by injection z')]
          exact k2 (fun z' => z (by injection z')) _ (Same.refl _)
      | _ => exact ifF rfl (k2 (fun z => by cases z) _ (Same.refl _))
    | non =>
      cases he with
      | bl =>
        exact ifF rfl ⟨_, rfl, _, _, _, _, _, rfl, .ty _, td, kit_list _, _, rfl, ifF rfl ⟨_, rfl, _, _, _, _, _, rfl, .ty _, td, kit_bool _, _, rfl, ifF rfl ⟨_, rfl, _, _, _, _, _, rfl, .ty _, te, kit_bool _, _, rfl, ifT rfl ⟨_, rfl, _, _, _, _, _, rfl, .ty _, td, kit_bool _, _, rfl, ifF rfl (k2 (fun z => by cases z) _ (Same.refl _))⟩⟩⟩⟩
      | non =>
        exact ifF rfl ⟨_, rfl, _, _, _, _, _, rfl, .ty _, td, kit_list _, _, rfl, ifF rfl ⟨_, rfl, _, _, _, _, _, rfl, .ty _, td, kit_bool _, _, rfl, ifF rfl ⟨_, rfl, _, _, _, _, _, rfl, .ty _, te, kit_bool _, _, rfl, ifF rfl ⟨_, rfl, _, _, _, _, _, rfl, .ty _, td, kit_int _, _, rfl, ifF rfl ⟨_, rfl, _, _, _, _, _, rfl, .ty _, td, kit_str _, _, rfl, ifF rfl ⟨_, rfl, rfl, _, rfl, ifT rfl ⟨_, rfl, rfl, k1 rfl _ (Same.refl _)⟩⟩⟩⟩⟩⟩⟩
      | _ =>
        exact ifF rfl ⟨_, rfl, _, _, _, _, _, rfl, .ty _, td, kit_list _, _, rfl, ifF rfl ⟨_, rfl, _, _, _, _, _, rfl, .ty _, td, kit_bool _, _, rfl, ifF rfl ⟨_, rfl, _, _, _, _, _, rfl, .ty _, te, kit_bool _, _, rfl, ifF rfl ⟨_, rfl, _, _, _, _, _, rfl, .ty _, td, kit_int _, _, rfl, ifF rfl ⟨_, rfl, _, _, _, _, _, rfl, .ty _, td, kit_str _, _, rfl, ifF rfl ⟨_, rfl, rfl, _, rfl, ifT rfl ⟨_, rfl, rfl, k2 (fun z => by cases z) _ (Same.refl _)⟩⟩⟩⟩⟩⟩⟩
    | int i =>
      refine ifF rfl ⟨_, rfl, _, _, _, _, _, rfl, .ty _, td, kit_list _, _, rfl, ifF rfl ⟨_, rfl, _, _, _, _, _, rfl, .ty _, td, kit_bool _, _, rfl, ifF rfl ⟨_, rfl, _, _, _, _, _, rfl, .ty _, te, kit_bool _, _, rfl, ?_⟩⟩⟩
      cases he with
      | bl => exact ifT rfl ⟨_, rfl, _, _, _, _, _, rfl, .ty _, td, kit_bool _, _, rfl, ifF rfl (k2 (fun z => by cases z) _ (Same.refl _))⟩
      | int j =>
        refine ifF rfl ⟨_, rfl, _, _, _, _, _, rfl, .ty _, td, kit_int _, _, rfl, ifT rfl (ifT rfl ⟨_, rfl, _, _, _, _, _, rfl, .ty _, td, kit_int _, _, rfl, _, _, _, _, _, rfl, .ty _, te, kit_int _, rfl, _, rfl, ifT rfl ⟨_, rfl, _, _, _, _, _, rfl, .ty _, td, kit_str _, _, rfl, _, _, _, _, _, rfl, .ty _, te, kit_str _, rfl, _, rfl, ifT rfl ⟨_, rfl, _, rfl, rfl, ?_⟩⟩⟩)⟩
        by_cases z : i = j
        · subst z
          rw [decide_eq_true rfl]
          exact k1 rfl _ (Same.refl _)
        · rw [decide_eq_false fun z' => z (by injection z')]
          exact k2 (fun z' => z (by injection z')) _ (Same.refl _)
      | _ => exact ifF rfl ⟨_, rfl, _, _, _, _, _, rfl, .ty _, td, kit_int _, _, rfl, ifT rfl (ifT rfl ⟨_, rfl, _, _, _, _, _, rfl, .ty _, td, kit_int _, _, rfl, _, _, _, _, _, rfl, .ty _, te, kit_int _, rfl, _, rfl, ifF rfl (k2 (fun z => by cases z) _ (Same.refl _))⟩)⟩
    | str x =>
      refine ifF rfl ⟨_, rfl, _, _, _, _, _, rfl, .ty _, td, kit_list _, _, rfl, ifF rfl ⟨_, rfl, _, _, _, _, _, rfl, .ty _, td, kit_bool _, _, rfl, ifF rfl ⟨_, rfl, _, _, _, _, _, rfl, .ty _, te, kit_bool _, _, rfl, ?_⟩⟩⟩
      cases he with
      | bl => exact ifT rfl ⟨_, rfl, _, _, _, _, _, rfl, .ty _, td, kit_bool _, _, rfl, ifF rfl (k2 (fun z => by cases z) _ (Same.refl _))⟩
      | int j => exact ifF rfl ⟨_, rfl, _, _, _, _, _, rfl, .ty _, td, kit_int _, _, rfl, ifF rfl ⟨_, rfl, _, _, _, _, _, rfl, .ty _, td, kit_str _, _, rfl, ifT rfl ⟨_, rfl, _, _, _, _, _, rfl, .ty _, td, kit_int _, _, rfl, _, _, _, _, _, rfl, .ty _, te, kit_int _, rfl, _, rfl, ifF rfl (k2 (fun z => by cases z) _ (Same.refl _))⟩⟩⟩
      | str y =>
        refine ifF rfl ⟨_, rfl, _, _, _, _, _, rfl, .ty _, td, kit_int _, _, rfl, ifF rfl ⟨_, rfl, _, _, _, _, _, rfl, .ty _, td, kit_str _, _, rfl, ifT rfl ⟨_, rfl, _, _, _, _, _, rfl, .ty _, td, kit_int _, _, rfl, _, _, _, _, _, rfl, .ty _, te, kit_int _, rfl, _, rfl, ifT rfl ⟨_, rfl, _, _, _, _, _, rfl, .ty _, td, kit_str _, _, rfl, _, _, _, _, _, rfl, .ty _, te, kit_str _, rfl, _, rfl, ifT rfl ⟨_, rfl, _, rfl, rfl, ?_⟩⟩⟩⟩⟩
        by_cases z : x = y
        · subst z
          rw [decide_eq_true rfl]
          exact k1 rfl _ (Same.refl _)
        · rw [decide_eq_false fun z' => z (by injection z')]
          exact k2 (fun z' => z (by injection z')) _ (Same.refl _)
      | _ => exact ifF rfl ⟨_, rfl, _, _, _, _, _, rfl, .ty _, td, kit_int _, _, rfl, ifF rfl ⟨_, rfl, _, _, _, _, _, rfl, .ty _, td, kit_str _, _, rfl, ifT rfl ⟨_, rfl, _, _, _, _, _, rfl, .ty _, td, kit_int _, _, rfl, _, _, _, _, _, rfl, .ty _, te, kit_int _, rfl, _, rfl, ifT rfl ⟨_, rfl, _, _, _, _, _, rfl, .ty _, td, kit_str _, _, rfl, _, _, _, _, _, rfl, .ty _, te, kit_str _, rfl, _, rfl, ifF rfl (k2 (fun z => by cases z) _ (Same.refl _))⟩⟩⟩⟩
end
end Op
set_option pp.maxSteps 400
namespace Op
open PySem L2 PyProof.Rows
section
variable {P : Program} {w : World} {K : PySem.W.Frag} {mg : Str → Option Value} {base : Heap} {pF pO pN pL CH CA : Addr}
theorem ok_sameL {f fi : Addr} {fd fdi : FuncData} (F : Fun K "same" "same" s_same f fd) (Fi : Fun K "same_items" "same_items" s_same_items fi fdi) (T : TxtH P w K mg pF pO pN pL CH CA) (g1 : mg "same" = some (.ref f)) (k1 : PySem.W.keepIn K (.ref f) = true)
    (b1 : Binds K fd ["one", "other"] []) (g2 : mg "same_items" = some (.ref fi)) (k2 : PySem.W.keepIn K (.ref fi) = true) (b2 : Binds K fdi ["ones", "others"] []) : ∀ n : Nat, Cal P w K mg base CX0 (2 * n + 1) "same" ["one", "other"] (spSm K n)
  | 0 => ⟨f, fd, g1, k1, b1, F.ok sc_same (fun vs H Q E h => by obtain ⟨v, u, d, e, rfl, _⟩ := h; rfl) (fun cdv A outer s H vs Q E hr h => by obtain ⟨v, u, d, e, _, _, _, hk, _⟩ := h; exact hk.elim)⟩
  | n + 1 => ⟨f, fd, g1, k1, b1, ok_sameP F T ⟨fi, fdi, g2, k2, b2, ok_same_items Fi T (ok_sameL F Fi T g1 k1 b1 g2 k2 b2 n)⟩⟩
end
end Op
set_option pp.maxSteps 500
namespace Op
open PySem L2 PyProof.Rows
/-- turns as a datum -/
def tssD (tss : List (List Tk)) : PyData := .list (tss.map fun ts => .list (ts.map Tk.d))
theorem okt_form {t : Tk} (h : Okt t) : hasForm t.d = true := (hasForm_iff t.d).mpr ⟨t, h, rfl⟩
theorem tss_are {tss : List (List Tk)} (h : ∀ ts ∈ tss, ∀ t ∈ ts, Okt t) : areT (tssD tss) = true := by
  refine List.all_eq_true.mpr fun d hd => ?_
  obtain ⟨ts, hts, rfl⟩ := List.mem_map.mp hd
  refine List.all_eq_true.mpr fun e he => ?_
  obtain ⟨t, ht, rfl⟩ := List.mem_map.mp he
  exact okt_form (h ts hts t ht)
theorem tss_short {tss : List (List Tk)} (h : ∀ ts ∈ tss, ∀ t ∈ ts, Okt t) : ShortT (tssD tss) := by
  intro ds e es hes t ht
  injection e with e
  subst e
  obtain ⟨ts, hts, e⟩ := List.mem_map.mp hes
  injection e with e
  subst e
  obtain ⟨t', ht', rfl⟩ := List.mem_map.mp ht
  exact okt_short (h ts hts t' ht')
theorem TR.dp {K : PySem.W.Frag} {H : Hp} {q : Addr} {tss : List (List Tk)} (h : TR K H q tss) : Dp K H (.ref q) (tssD tss) := by
  obtain ⟨ps, h1, h2, h3⟩ := h
  refine .lst (.inl (.inl h1)) ?_
  clear h1
  induction ps generalizing tss with
  | nil =>
    cases tss with
    | nil => exact .nil
    | cons _ _ => cases h2
  | cons p r ih =>
    cases tss with
    | nil => cases h2
    | cons ts tr =>
      obtain ⟨vs, e1, e2⟩ := h3 0 p ts rfl rfl
      exact .cons (.lst (.inl (.inl e1)) e2) (ih (tss := tr) (Nat.succ.inj h2) fun i p ts a b => h3 (i + 1) p ts a b)
theorem strs_injD : ∀ {xs ys : List Str}, xs.map PyData.str = ys.map PyData.str → xs = ys
  | [], [], _ => rfl
  | [], _ :: _, h => by cases h
  | _ :: _, [], h => by cases h
  | a :: r, b :: s, h => by
    injection h with e h
    injection e with e
    rw [e, strs_injD h]
theorem tk_inj {t u : Tk} (h : t.d = u.d) : t = u := by
  obtain ⟨k, n, ws⟩ := t
  obtain ⟨k2, n2, ws2⟩ := u
  injection h with h
  injection h with h0 h
  injection h0 with h0
  have h0 : k = k2 := h0
  subst h0
  cases n with
  | none =>
    cases n2 with
    | none =>
      have h : ws.map PyData.str = ws2.map PyData.str := h
      rw [strs_injD h]
    | some m =>
      have h : ws.map PyData.str = PyData.int (m : Int) :: ws2.map PyData.str := h
      cases ws with
      | nil => cases h
      | cons a r =>
        injection h with h _
        cases h
  | some n =>
    cases n2 with
    | none =>
      have h : PyData.int (n : Int) :: ws.map PyData.str = ws2.map PyData.str := h
      cases ws2 with
      | nil => cases h
      | cons a r =>
        injection h with h _
        cases h
    | some m =>
      have h : PyData.int (n : Int) :: ws.map PyData.str = PyData.int (m : Int) :: ws2.map PyData.str := h
      injection h with h1 h
      injection h1 with h1
      rw [strs_injD h, Int.ofNat.inj h1]
theorem tks_inj : ∀ {ts us : List Tk}, (∀ t ∈ ts, Okt t) → (∀ t ∈ us, Okt t) → ts.map Tk.d = us.map Tk.d → ts = us
  | [], [], _, _, _ => rfl
  | [], _ :: _, _, _, h => by cases h
  | _ :: _, [], _, _, h => by cases h
  | t :: r, u :: s, h1, h2, h => by
    injection h with e h
    rw [tk_inj e, tks_inj (fun x hx => h1 x (List.mem_cons_of_mem _ hx)) (fun x hx => h2 x (List.mem_cons_of_mem _ hx)) h]
theorem tss_injL : ∀ {ts us : List (List Tk)}, (∀ t ∈ ts, ∀ x ∈ t, Okt x) → (∀ t ∈ us, ∀ x ∈ t, Okt x) → (ts.map fun ts => PyData.list (ts.map Tk.d)) = us.map (fun ts => .list (ts.map Tk.d)) → ts = us
  | [], [], _, _, _ => rfl
  | [], _ :: _, _, _, h => by cases h
  | _ :: _, [], _, _, h => by cases h
  | t :: r, u :: s, h1, h2, h => by
    injection h with e h
    injection e with e
    rw [tks_inj (h1 t List.mem_cons_self) (h2 u List.mem_cons_self) e, tss_injL (fun x hx => h1 x (List.mem_cons_of_mem _ hx)) (fun x hx => h2 x (List.mem_cons_of_mem _ hx)) h]
theorem tss_inj {ts us : List (List Tk)} (h1 : ∀ t ∈ ts, ∀ x ∈ t, Okt x) (h2 : ∀ t ∈ us, ∀ x ∈ t, Okt x) (h : tssD ts = tssD us) : ts = us := by
  injection h with h
  exact tss_injL h1 h2 h
theorem okt_num {t : Tk} (h : Okt t) {n : Nat} : Okt { t with n := t.n.map fun _ => n } := by
  obtain ⟨f, h1, h2, h3⟩ := h
  refine ⟨f, h1, ?_, h3⟩
  rw [h2]
  unfold sigOf
  cases t.n <;> rfl
theorem ageT_ok {s : Ag} {t : Tk} (h : Okt t) (hs : ∀ x ∈ s.tk, Okt x) : ∀ x ∈ (ageT s t).tk, Okt x := by
  unfold ageT
  split
  · rename_i n hn
    intro x hx
    rcases List.mem_append.mp hx with hx | hx
    · exact hs x hx
    · rw [List.mem_singleton.mp hx]
      exact ren_ok h (by rw [hn]; rfl)
  · split
    · intro x hx
      rcases List.mem_append.mp hx with hx | hx
      · exact hs x hx
      · rw [List.mem_singleton.mp hx]; exact h
    · intro x hx
      rcases List.mem_append.mp hx with hx | hx
      · exact hs x hx
      · rw [List.mem_singleton.mp hx]; exact h
theorem ageTurn_ok : ∀ {ts : List Tk} {s : Ag}, (∀ t ∈ ts, Okt t) → (∀ x ∈ s.tk, Okt x) → ∀ x ∈ (ts.foldl ageT s).tk, Okt x
  | [], _, _, h => h
  | t :: r, s, h1, h => ageTurn_ok (ts := r) (s := ageT s t) (fun x hx => h1 x (List.mem_cons_of_mem _ hx)) (ageT_ok (h1 t List.mem_cons_self) h)
theorem ageTurns_ok : ∀ {tss : List (List Tk)} {ns : List Nat} {st : Nat}, (∀ ts ∈ tss, ∀ t ∈ ts, Okt t) → ∀ ts ∈ ageTurns tss ns st, ∀ t ∈ ts, Okt t
  | [], _, _, _, ts, hts => (List.not_mem_nil hts).elim
  | t :: r, ns, st, h, ts, hts => by
    rcases List.mem_cons.mp hts with rfl | hts
    · exact ageTurn_ok (h t List.mem_cons_self) fun x hx => (List.not_mem_nil hx).elim
    · exact ageTurns_ok (fun x hx => h x (List.mem_cons_of_mem _ hx)) ts hts
theorem split_ok {ts : List Tk} (h0 : ∀ t, ts[0]? = some t → isOut t = true) (h : ∀ t ∈ ts, Okt t) : ∀ x ∈ split ts, ∀ t ∈ x, Okt t := fun x hx t htx => h t (by rw [← split_flat h0]; exact List.mem_flatten.mpr ⟨x, hx, htx⟩)
theorem okt_klen {t : Tk} (h : Okt t) : t.k.length ≤ 100000 := by
  obtain ⟨f, h1, _⟩ := h
  have h2 : ∀ p ∈ forms, p.1.length ≤ 100000 := by decide +kernel
  exact h2 _ (look_mem h1)
theorem smK_tk {t : Tk} (h : Okt t) {n : Nat} : smK (n + 2) t.d := by
  refine ⟨?_, fun d hd => ?_⟩
  · have := h.c
    cases this <;> exact Nat.le_of_ble_eq_true rfl
  · rcases List.mem_cons.mp hd with rfl | hd
    · exact okt_klen h
    · have hs := okt_short h _ _ rfl
      have hp := hd
      unfold Tk.parts at hd
      rcases List.mem_append.mp hd with hd | hd
      · obtain ⟨n, _, rfl⟩ := List.mem_map.mp hd
        trivial
      · obtain ⟨z, _, rfl⟩ := List.mem_map.mp hd
        exact hs z hp
theorem smK_tks {ts : List Tk} (h : ∀ t ∈ ts, Okt t) (hl : ts.length ≤ 1000) {n : Nat} : smK (n + 3) (.list (ts.map Tk.d)) := by
  refine ⟨by rw [List.length_map]; omega, fun d hd => ?_⟩
  obtain ⟨t, ht, rfl⟩ := List.mem_map.mp hd
  exact smK_tk (h t ht)
theorem len_flat {α : Type} {tss : List (List α)} {ts : List α} (h : ts ∈ tss) : ts.length ≤ tss.flatten.length := by
  induction tss with
  | nil => cases h
  | cons a r ih =>
    rw [List.flatten_cons, List.length_append]
    rcases List.mem_cons.mp h with rfl | h
    · omega
    · have := ih h
      omega
theorem smK_tss {tss : List (List Tk)} (h : ∀ ts ∈ tss, ∀ t ∈ ts, Okt t) (h1 : tss.flatten.length ≤ 1000) (h2 : tss.length ≤ 1000) {n : Nat} : smK (n + 4) (tssD tss) := by
  refine ⟨by rw [List.length_map]; omega, fun d hd => ?_⟩
  obtain ⟨ts, hts, rfl⟩ := List.mem_map.mp hd
  exact smK_tks (h ts hts) (Nat.le_trans (len_flat hts) h1)
theorem age_len : ∀ (ts : List Tk) (s : Ag), (ts.foldl ageT s).tk.length = s.tk.length + ts.length
  | [], _ => rfl
  | t :: r, s => by
    rw [List.foldl_cons, age_len r, List.length_cons]
    have : (ageT s t).tk.length = s.tk.length + 1 := by
      unfold ageT
      split
      · rw [List.length_append]; rfl
      · split
        · rw [List.length_append]; rfl
        · rw [List.length_append]; rfl
    omega
theorem ageTurns_len : ∀ (tss : List (List Tk)) (ns : List Nat) (st : Nat), (ageTurns tss ns st).length = tss.length ∧ (ageTurns tss ns st).flatten.length = tss.flatten.length
  | [], _, _ => ⟨rfl, rfl⟩
  | t :: r, ns, st => by
    obtain ⟨h1, h2⟩ := ageTurns_len r (ageTurn t ns st).lf (ageTurn t ns st).st
    refine ⟨congrArg (· + 1) h1, ?_⟩
    unfold ageTurns
    rw [List.flatten_cons, List.flatten_cons, List.length_append, List.length_append, h2]
    have : (ageTurn t ns st).tk.length = 0 + t.length := age_len t _
    omega
def XArg (H : Hp) (d : Addr) (part : Str) : Prop := H d = some (.xd [("part", .str part)])
section
variable {P : Program} {w : World} {K : PySem.W.Frag} {mg : Str → Option Value} {base : Heap} {pF pO pN pL CH CA : Addr}
def spNumd (K : PySem.W.Frag) (CA : Addr) : Sp := fun vs H Q X => ∃ v : V, vs = [v] ∧
  ((∃ (l : Addr) (tss : List (List Tk)), v = .ref l ∧ TR K H l tss ∧ (∀ ts ∈ tss, ∀ t ∈ ts, Okt t) ∧ tss.flatten.length ≤ 1000 ∧ tss.length ≤ 1000 ∧
      (∀ h, numH tss (some h) → ∀ q us H', Same H H' → H q = none → H' q = some (.lst us) → Tks K H' us h → Q (.ref q) H') ∧
      (numH tss none → ∀ H' d, Same H H' → XArg H' d "turns" → X (.ref CA) (some d) H')) ∨
   (∃ d, Dp K H v d ∧ ShortT d ∧ areT d = false ∧ ∀ H' d, Same H H' → XArg H' d "turns" → X (.ref CA) (some d) H') ∨
   (∃ p o, v = .ref p ∧ H p = some (.dK o) ∧ ∀ H' d, Same H H' → XArg H' d "turns" → X (.ref CA) (some d) H'))
theorem sc_numbered : FnScope ["turns", "told", "history"] ["turns"] (defScope s_numbered) := ⟨rfl, rfl, rfl, by decide +kernel, rfl, by decide +kernel, by decide +kernel⟩
theorem ok_numbered {f : Addr} {fd : FuncData} (F : Fun K "numbered" "numbered" s_numbered f fd) (T : TxtH P w K mg pF pO pN pL CH CA) (hex : PySem.W.exmOne K (.ref CH) (.ref CH) = some true)
    (c_are_turns : Cal P w K mg base CX0 3 "are_turns" ["value"] (spAreT K)) (c_turns_by_number : Cal P w K mg base CX0 3 "turns_by_number" ["turns"] (spNums K)) (c_joined : Cal P w K mg base CX0 1 "joined" ["turns"] (spJoin K))
    (c_check_tokens : Cal P w K mg base (L2N.CX P w) 3 "check_tokens" ["history"] (spCheckT K CH)) (c_split_turns : Cal P w K mg base CX0 2 "split_turns" ["history"] (spSplit K)) (c_turns_by_age : Cal P w K mg base CX0 3 "turns_by_age" ["turns"] (spAges K)) (c_same : Cal P w K mg base CX0 9 "same" ["one", "other"] (spSm K 4)) :
    FnOk P w K mg base (L2.CX P w) 10 f fd ["turns"] (spNumd K CA) := by
  refine F.okX sc_numbered (fun vs H Q E h => ?_) (fun cdv A outer s H vs Q E hr h => ?_)
  · obtain ⟨v, rfl, _⟩ := h
    rfl
  · obtain ⟨v, rfl, h⟩ := h
    refine ⟨_, (pss_cons (ps_if (pt_not (pt_val (pe_cal c_are_turns (hr.mono (by omega)) rfl pass0 (pa_cons (pv 0) pa_nil)))) (pss_one (ps_raise rfl (takes_of rfl rfl rfl rfl) (pmk_x T.mk_InvalidArgument hr rfl T.g_InvalidArgument T.k_InvalidArgument T.r_InvalidArgument (pa_cons pe_str pa_nil)))) pss_nil)
      (pss_cons (ps_set (i := 1) sc_numbered.nd rfl (.inl rfl) (pe_cal c_turns_by_number (hr.mono (by omega)) rfl pass0 (pa_cons (pv 0) pa_nil)))
      (pss_cons (ps_if (pt_cmpR op_isN (pv 1) pe_non (nomark _)) (pss_one (ps_raise rfl (takes_of rfl rfl rfl rfl) (pmk_x T.mk_InvalidArgument hr rfl T.g_InvalidArgument T.k_InvalidArgument T.r_InvalidArgument (pa_cons pe_str pa_nil)))) pss_nil)
      (pss_cons (ps_set (i := 2) sc_numbered.nd rfl (.inl rfl) (pe_cal c_joined (hr.mono (by omega)) rfl pass0 (pa_cons (pv 1) pa_nil)))
      (pss_cons (L2H.ps_try_onlyX rfl rfl ⟨rfl, by decide, .inl T.g_InvalidHistory⟩ (fun hd => PassesOwnAt.leaving) (takes_of rfl rfl rfl rfl)
        (fun W pn xe tk tk2 own => pss_one (ps_expr (pe_cal c_check_tokens (hr.mono (by omega)) rfl (passes_lenN (E := fun cls d H => ∀ σ : L2.St, σ.length = 3 → W cls d σ H) tk (fun _ _ σ _ hl h => h σ hl)) (pa_cons (pv 2) pa_nil))))
        (fun a oe cls d pn hz hf tk hot => pss_one (L2H.ps_raiseHN hot tk (pmk_xN5 (k := 9) T.mk_InvalidArgument ⟨hr.dp, hr.un⟩ rfl T.g_InvalidArgument T.k_InvalidArgument T.r_InvalidArgument (pa_cons pe_str pa_nil)))))
      (pss_cons (ps_if (pt_not (pt_val (pe_cal c_same (hr.mono (by omega)) rfl pass0 (pa_cons (pe_cal c_turns_by_age (hr.mono (by omega)) rfl pass0 (pa_cons (pe_cal c_split_turns (hr.mono (by omega)) rfl pass0 (pa_cons (pv 2) pa_nil)) pa_nil)) (pa_cons (pv 0) pa_nil))))) (pss_one (ps_raise rfl (takes_of rfl rfl rfl rfl) (pmk_x T.mk_InvalidArgument hr rfl T.g_InvalidArgument T.k_InvalidArgument T.r_InvalidArgument (pa_cons pe_str pa_nil)))) pss_nil)
      (pss_one (ps_ret (pv 2))))))))), ?_⟩
    rcases h with ⟨l, tss, rfl, hT, hok, hn1, hn2, kg, kb⟩ | ⟨d, hd, hsh, har, kb⟩ | ⟨p, o, rfl, hp, kb⟩
    · refine ⟨_, rfl, _, rfl, .inl ⟨_, hT.dp, tss_short hok, fun H1 s1 => ⟨_, rfl, ?_⟩⟩⟩
      rw [tss_are hok]
      refine ifF rfl ⟨_, rfl, l, tss, rfl, hT.mono s1, hok, hn1, hn2, fun z H2 s2 => ?_, fun told z q H2 s2 t2 => ?_⟩
      · exact ⟨_, rfl, rfl, _, rfl, ifT rfl ⟨rfl, fun d hd => kb (fun told e => by rw [z] at e; cases e) _ d ((s1.trans s2).trans (Same.new hd)) upd_same⟩⟩
      obtain ⟨tl1, tl2, tl3⟩ := numTurns_tk z
      have s12 := s1.trans s2
      refine ⟨_, rfl, rfl, _, rfl, ifF rfl ⟨_, rfl, q, told, rfl, t2.r, by omega, fun q3 us H3 s3 n3 e3 k3 => ?_⟩⟩
      have s13 := s12.trans s3
      have okF := tl3 hok
      have bad : (chkH told.flatten ≠ none ∨ ageTurns (split told.flatten) [] 0 ≠ tss) → numH tss none := fun h told' e => by
        rw [z] at e
        obtain rfl := Option.some.inj e
        exact h
      refine ⟨_, rfl, q3, us, told.flatten, rfl, e3, k3, okF, by omega, fun hc H4 s4 => ?_, fun hc H4 d4 s4 σ hl => ?_⟩
      · have s14 := s13.trans s4
        have k4 := k3.mono s4
        have e4 := s4 _ _ e3
        refine ⟨_, rfl, q3, us, told.flatten, rfl, e4, k4, by omega, chk_out hc, fun q5 H5 s5 t5 => ?_⟩
        have sp := split_flat (chk_out hc)
        have spok := split_ok (chk_out hc) okF
        have spl : (split told.flatten).length ≤ 1000 := Nat.le_trans split_count (by omega)
        refine ⟨q5, _, rfl, t5.r, spok, by rw [sp]; omega, spl, chk_ages okF hc, fun q6 H6 s6 t6 => ?_⟩
        have s46 := s5.trans s6
        have s16 := s14.trans s46
        obtain ⟨al1, al2⟩ := ageTurns_len (split told.flatten) [] 0
        rw [sp] at al2
        have aok := ageTurns_ok (ns := []) (st := 0) spok
        refine ⟨_, rfl, .ref q6, .ref l, _, _, rfl, t6.r.dp, (hT.mono s16).dp, smK_tss aok (by omega) (by omega), smK_tss hok hn1 hn2, fun e H7 s7 => ⟨_, rfl, ifF rfl ?_⟩, fun e H7 s7 => ⟨_, rfl, ifT rfl ⟨rfl, fun d hd => kb (bad (.inr fun h => e (by rw [h]))) _ d ((s16.trans s7).trans (Same.new hd)) upd_same⟩⟩⟩
        have e' := tss_inj aok hok e
        exact ⟨_, rfl, kg told.flatten ⟨told, z, rfl, hc, e'⟩ q3 us _ (s16.trans s7) (new_of s12 n3) ((s46.trans s7) _ _ e4) (k4.mono (s46.trans s7))⟩
      · exact ⟨true, hex, fun _ a hfree => ⟨rfl, fun d hd => kb (bad (.inl hc)) _ d ((s13.trans s4).trans (Same.new hd)) upd_same⟩, nofun⟩
    · refine ⟨_, rfl, _, rfl, .inl ⟨_, hd, hsh, fun H1 s1 => ⟨_, rfl, ?_⟩⟩⟩
      rw [har]
      exact ifT rfl ⟨rfl, fun d hd => kb _ d (s1.trans (Same.new hd)) upd_same⟩
    · exact ⟨_, rfl, _, rfl, .inr ⟨p, o, rfl, hp, _, rfl, ifT rfl ⟨rfl, fun d hd => kb _ d (Same.new hd) upd_same⟩⟩⟩
end
end Op
set_option pp.maxSteps 500
namespace Op
open PySem L2 PyProof.Rows
section
variable {K : PySem.W.Frag} {H : Hp} {a b : Addr} {xs ys : List V} {Q : VK}
theorem rd_catA (ha : SqT K H a xs) (hb : SqT K H b ys) (hl : xs.length + ys.length ≤ 100000) (k : ∀ p H', Same H H' → SqT K H' p (xs ++ ys) → Q (.ref p) H') : rCatA K (.ref a) (.ref b) H Q :=
  ⟨a, b, xs, ys, rfl, rfl, ha, hb, sz_lit hl, fun e => k b H (Same.refl _) (by rw [e]; exact hb), fun _ e => k a H (Same.refl _) (by rw [e, List.append_nil]; exact ha), fun _ _ p hp => k p _ (Same.new hp) (.inl (.inl upd_same))⟩
theorem rd_slA {lo hi : Option Int} (ha : SqT K H a xs) (k : ∀ p H', Same H H' → SqT K H' p (cutV xs lo hi) → Q (.ref p) H') : rSlA K (.ref a) lo hi H Q :=
  ⟨a, xs, rfl, ha, fun e => k a H (Same.refl _) (by
    have : cutV xs lo hi = xs := by
      unfold cutV
      rw [e.1, e.2, List.drop_zero, Nat.sub_zero, List.take_of_length_le (Nat.le_refl _)]
    rw [this]
    exact ha), fun _ p hp => k p _ (Same.new hp) (.inl (.inl upd_same))⟩
theorem rd_slN {σ : L2.St} {lo : Option Int} (ha : SqT K H a xs) (k : ∀ p H', Same H H' → SqT K H' p (cutV xs lo none) → Q (.ref p) H') : tNoPart σ H (fun u H3 => rSlA K (.ref a) lo u H3 Q) := rd_slA ha k
theorem cut_drop (xs : List V) (n : Nat) : cutV xs (some (n : Int)) none = xs.drop n := by
  unfold cutV
  rw [HT.sIx_nat, HT.sIx_none]
  rcases Nat.le_total n xs.length with h | h
  · rw [Nat.min_eq_left h, List.take_of_length_le (by rw [List.length_drop]; exact Nat.le_refl _)]
  · rw [Nat.min_eq_right h, Nat.sub_self, List.take_zero, List.drop_eq_nil_of_le h]
/-- (token[0], n) + token[2:] -/
theorem tk_tail {t : Tk} {n : Nat} (h : t.n = some n) : cutV t.vs (some 2) none = t.ws.map V.str := by
  rw [show (some 2 : Option Int) = some ((2 : Nat) : Int) from rfl, cut_drop]
  unfold Tk.vs
  rw [h]
  rfl
theorem tk_ren {t : Tk} {n m : Nat} (h : t.n = some n) : [V.str t.k, V.int (m : Int)] ++ t.ws.map V.str = (ren t m).vs := rfl
theorem tk_len {t : Tk} (h : Okt t) : t.ws.length ≤ 10 := by
  have := h.c
  cases this <;> exact Nat.le_of_ble_eq_true rfl
end
theorem TT.upd {K : PySem.W.Frag} {H0 H : Hp} {q D : Addr} {ps : List Addr} {tss : List (List Tk)} {ys : List V} {o : HO} (h : TT K H0 H q tss) (hq : H q = some (.lst (ps.map V.ref))) (hD : H D = some (.lst ys)) (h1 : D ≠ q) (h2 : D ∉ ps) : TT K H0 (upd H D o) q tss := by
  obtain ⟨ps', g1, g2, g3, g4, g5, g6, g7⟩ := h
  obtain rfl : ps' = ps := by
    rw [hq] at g1
    injection g1 with g1
    injection g1 with g1
    exact (List.map_inj_right (fun a b e => by injection e)).mp g1.symm
  refine ⟨ps', by rw [L2.upd_ne (Ne.symm h1)]; exact hq, g2, g3, g4, g5, g6, fun i b us e1 e2 => ?_⟩
  obtain ⟨ws, g8, g9⟩ := g7 i b us e1 e2
  exact ⟨ws, by rw [L2.upd_ne (fun e => h2 (by rw [← e]; exact List.mem_of_getElem? e1))]; exact g8, g9.updL hD⟩
theorem TT.ps {K : PySem.W.Frag} {H0 H : Hp} {q : Addr} {tss : List (List Tk)} {ps : List Addr} (h : TT K H0 H q tss) (hq : H q = some (.lst (ps.map V.ref))) : ps.length = tss.length ∧ (∀ p ∈ ps, ∃ vs, H p = some (.lst vs)) ∧ q ∉ ps := by
  obtain ⟨ps', g1, g2, g3, g4, g5, g6, g7⟩ := h
  obtain rfl : ps' = ps := by
    rw [hq] at g1
    injection g1 with g1
    injection g1 with g1
    exact (List.map_inj_right (fun a b e => by injection e)).mp g1.symm
  refine ⟨g6, fun p hp => ?_, g4⟩
  obtain ⟨j, hj⟩ := List.getElem?_of_mem hp
  have hjl := (List.getElem?_eq_some_iff.mp hj).1
  obtain ⟨ws, z, _⟩ := g7 j p _ hj (List.getElem?_eq_getElem (by omega))
  exact ⟨ws, z⟩
structure LTs (K : PySem.W.Frag) (H0 H : Hp) (q rl tl : Addr) (ps : List Addr) (tss : List (List Tk)) (th lf : List Nat) : Prop where
  tt : TT K H0 H q tss
  hq : H q = some (.lst (ps.map V.ref))
  hr : H rl = some (.lst (natsV lf))
  ht : H tl = some (.lst (natsV th))
  n1 : rl ≠ tl
  n2 : rl ≠ q
  n3 : tl ≠ q
  n4 : rl ∉ ps
  n5 : tl ∉ ps
  z1 : H0 rl = none
  z2 : H0 tl = none
theorem LTs.mono {K : PySem.W.Frag} {H0 H H' : Hp} {q rl tl : Addr} {ps : List Addr} {tss : List (List Tk)} {th lf : List Nat} (h : LTs K H0 H q rl tl ps tss th lf) (s : Same H H') : LTs K H0 H' q rl tl ps tss th lf :=
  ⟨h.tt.mono s, s _ _ h.hq, s _ _ h.hr, s _ _ h.ht, h.n1, h.n2, h.n3, h.n4, h.n5, h.z1, h.z2⟩
theorem LTs.setR {K : PySem.W.Frag} {H0 H : Hp} {q rl tl : Addr} {ps : List Addr} {tss : List (List Tk)} {th lf lf' : List Nat} (h : LTs K H0 H q rl tl ps tss th lf) : LTs K H0 (upd H rl (.lst (natsV lf'))) q rl tl ps tss th lf' :=
  ⟨h.tt.upd h.hq h.hr h.n2 h.n4, by rw [L2.upd_ne (Ne.symm h.n2)]; exact h.hq, upd_same, by rw [L2.upd_ne (Ne.symm h.n1)]; exact h.ht, h.n1, h.n2, h.n3, h.n4, h.n5, h.z1, h.z2⟩
theorem LTs.setT {K : PySem.W.Frag} {H0 H : Hp} {q rl tl : Addr} {ps : List Addr} {tss : List (List Tk)} {th lf th' : List Nat} (h : LTs K H0 H q rl tl ps tss th lf) : LTs K H0 (upd H tl (.lst (natsV th'))) q rl tl ps tss th' lf :=
  ⟨h.tt.upd h.hq h.ht h.n3 h.n5, by rw [L2.upd_ne (Ne.symm h.n3)]; exact h.hq, by rw [L2.upd_ne h.n1]; exact h.hr, upd_same, h.n1, h.n2, h.n3, h.n4, h.n5, h.z1, h.z2⟩
theorem natsV_snoc (ns : List Nat) (n : Nat) : natsV ns ++ [.int (n : Int)] = natsV (ns ++ [n]) := (natsV_app ns [n]).symm
/-- what a token does, the renamed token given -/
theorem ageT_bump {s : Ag} {t : Tk} : ∃ (t2 : Tk) (lf2 : List Nat), t2.k = t.k ∧ t2 = (match t.n with | some n => ren t (s.th.idxOf n) | none => t) ∧ lf2 = (match t.n with | some n => s.lf.erase n | none => s.lf) ∧ (ageT s t).tk = s.tk ++ [t2] ∧
    (t.n.isSome = false → isNew t = true → (ageT s t).th = s.th ++ [s.st] ∧ (ageT s t).lf = lf2 ++ [s.st] ∧ (ageT s t).st = s.st + 1) ∧ ((t.n.isSome = true ∨ isNew t = false) → (ageT s t).th = s.th ∧ (ageT s t).lf = lf2 ∧ (ageT s t).st = s.st) := by
  unfold ageT
  cases hn : t.n with
  | some n => exact ⟨ren t (s.th.idxOf n), s.lf.erase n, rfl, rfl, rfl, rfl, fun h => (by cases h), fun _ => ⟨rfl, rfl, rfl⟩⟩
  | none =>
    by_cases hw : isNew t = true
    · dsimp only
      rw [if_pos hw]
      exact ⟨t, s.lf, rfl, rfl, rfl, rfl, fun _ _ => ⟨rfl, rfl, rfl⟩, fun h => by rcases h with h | h; cases h; rw [hw] at h; cases h⟩
    · dsimp only
      rw [if_neg hw]
      exact ⟨t, s.lf, rfl, rfl, rfl, rfl, fun _ h => absurd h hw, fun _ => ⟨rfl, rfl, rfl⟩⟩
theorem isOut_in (t : Tk) : inV (.str t.k) [.str "begin", .str "answer", .str "rang", .str "signal"] = isOut t := inV_st t.k ["begin", "answer", "rang", "signal"]
theorem num_in {t : Tk} (h : Okt t) : inV (.str t.k) [.str "answer", .str "rang", .str "dropped"] = t.n.isSome := (inV_st t.k ["answer", "rang", "dropped"]).trans (num_iff h.c)
theorem new_in (t : Tk) : inV (.str t.k) [.str "asked", .str "set"] = isNew t := inV_st t.k ["asked", "set"]
section
variable {P : Program} {w : World} {K : PySem.W.Frag} {mg : Str → Option Value} {base : Heap} {pF pO pN pL CH CA : Addr}
def spLTurns (K : PySem.W.Frag) : Sp := fun vs H Q _ => ∃ (l : Addr) (us : List V) (ts : List Tk), vs = [.ref l] ∧ H l = some (.lst us) ∧ Tks K H us ts ∧ (∀ t ∈ ts, Okt t) ∧ ts.length ≤ 1000 ∧ chkH ts = none ∧ ∀ q H', Same H H' → TT K H H' q (ageTurns (split ts) [] 0) → Q (.ref q) H'
theorem sc__law_turns : FnScope ["_law_history_here", "_law_turns_here", "_law_running", "_law_things", "_law_fresh", "_law_token"] ["_law_history_here"] (defScope s__law_turns) := ⟨rfl, rfl, rfl, by decide +kernel, rfl, by decide +kernel, by decide +kernel⟩
theorem ok_lturns {f : Addr} {fd : FuncData} (F : Fun K "_law_turns" "_law_turns" s__law_turns f fd) (T : Txt mg) : FnOk P w K mg base CX0 1 f fd ["_law_history_here"] (spLTurns K) := by
  refine F.ok sc__law_turns (fun vs H Q E h => ?_) (fun cdv A outer s H vs Q E hr h => ?_)
  · obtain ⟨l, us, ts, rfl, _⟩ := h
    rfl
  · obtain ⟨l, us, ts, rfl, hl, ht, hok, hn, hc, k⟩ := h
    have hul := ht.len
    have hout := chk_out hc
    refine ⟨_, (pss_cons (ps_set (i := 1) sc__law_turns.nd rfl (.inl rfl) (pe_lst pa_nil))
      (pss_cons (ps_set (i := 2) sc__law_turns.nd rfl (.inl rfl) (pe_lst pa_nil))
      (pss_cons (ps_set (i := 3) sc__law_turns.nd rfl (.inl rfl) (pe_lst pa_nil))
      (pss_cons (ps_set (i := 4) sc__law_turns.nd rfl (.inl rfl) pe_int)
      (pss_cons (ps_for PassesOwn.never rfl (pi_list (pv 0)) (pg_name (i := 5) sc__law_turns.nd rfl (.inl rfl)) (Evl.pss_cut (ps_if (pt_cmpR op_in_seq (pe_ix ix_tup (pv 5) pe_int (fun _ _ => rfl)) (pe_tup (pa_cons pe_str (pa_cons pe_str (pa_cons pe_str (pa_cons pe_str pa_nil))))) (by rfl)) (pss_cons (ps_expr (pe_bm PySem.F.plainAttrs_list PySem.F.slot_list_append PySem.F.type_list_append mt_append (pv 1) (pa_cons (pe_lst pa_nil) pa_nil)))
      (pss_one (ps_set (i := 3) sc__law_turns.nd rfl (.inl rfl) (pe_callTy call_list_of (by rfl) T.b_list (by decide +kernel) (pa_cons (pv 2) pa_nil))))) pss_nil)
      (Evl.pss_cut (ps_if (pt_cmpR op_in_seq (pe_ix ix_tup (pv 5) pe_int (fun _ _ => rfl)) (pe_tup (pa_cons pe_str (pa_cons pe_str (pa_cons pe_str pa_nil)))) (by rfl)) (pss_cons (ps_expr (pe_bm PySem.F.plainAttrs_list PySem.F.slot_list_remove PySem.F.type_list_remove mt_remove (pv 2) (pa_cons (pe_ix ix_tup (pv 5) pe_int (fun _ _ => rfl)) pa_nil)))
      (pss_one (ps_set (i := 5) sc__law_turns.nd rfl (.inl rfl) (pe_op op_catA (pe_tup (pa_cons (pe_ix ix_tup (pv 5) pe_int (fun _ _ => rfl)) (pa_cons (pe_bm PySem.F.plainAttrs_list PySem.F.slot_list_index PySem.F.type_list_index mt_index (pv 3) (pa_cons (pe_ix ix_tup (pv 5) pe_int (fun _ _ => rfl)) pa_nil)) pa_nil))) (pe_slice sl_tupA (pv 5) (po_some pe_int) po_none))))) pss_nil)
      (Evl.pss_cut (ps_if (pt_cmpR op_in_seq (pe_ix ix_tup (pv 5) pe_int (fun _ _ => rfl)) (pe_tup (pa_cons pe_str (pa_cons pe_str pa_nil))) (by rfl)) (pss_cons (ps_expr (pe_bm PySem.F.plainAttrs_list PySem.F.slot_list_append PySem.F.type_list_append mt_append (pv 3) (pa_cons (pv 4) pa_nil)))
      (pss_cons (ps_expr (pe_bm PySem.F.plainAttrs_list PySem.F.slot_list_append PySem.F.type_list_append mt_append (pv 2) (pa_cons (pv 4) pa_nil)))
      (pss_one (ps_set (i := 4) sc__law_turns.nd rfl (.inl rfl) (pe_op op_add (pv 4) pe_int))))) pss_nil)
      (pss_one (ps_expr (pe_bm PySem.F.plainAttrs_list PySem.F.slot_list_append PySem.F.type_list_append mt_append (pe_ix ix_list (pv 1) (pe_op op_sub (pe_callB call_len_seq (by rfl) T.b_len (by decide +kernel) (pa_cons (pv 1) pa_nil)) pe_int) (fun _ _ => rfl)) (pa_cons (pv 5) pa_nil))))))))
      (pss_one (ps_ret (pv 1)))))))), ?_⟩
    refine ⟨sz_lit (by show 0 ≤ 100000; decide), fun q hq => ?_⟩
    have s1 : Same H (upd H q (.lst [])) := Same.new hq
    have c1 : upd H q (.lst []) q = some (.lst []) := upd_same
    revert s1 c1
    generalize upd H q (.lst []) = H1
    intro s1 c1
    refine ⟨sz_lit (by show 0 ≤ 100000; decide), fun rl hrl => ?_⟩
    have s2 : Same H1 (upd H1 rl (.lst [])) := Same.new hrl
    have c2 : upd H1 rl (.lst []) rl = some (.lst []) := upd_same
    have d1 := s2 _ _ c1
    have nrq : rl ≠ q := fun e => by rw [e, c1] at hrl; cases hrl
    have zr := new_of s1 hrl
    have s12 := s1.trans s2
    revert s2 c2 d1 s12
    generalize upd H1 rl (.lst []) = H2
    intro s2 c2 d1 s12
    refine ⟨sz_lit (by show 0 ≤ 100000; decide), fun tl htl => ?_⟩
    have s3 : Same H2 (upd H2 tl (.lst [])) := Same.new htl
    have c3 : upd H2 tl (.lst []) tl = some (.lst []) := upd_same
    have d2 := s3 _ _ c2
    have e1 := s3 _ _ d1
    have ntq : tl ≠ q := fun e => by rw [e, d1] at htl; cases htl
    have ntr : rl ≠ tl := fun e => by rw [← e, c2] at htl; cases htl
    have zt := new_of s12 htl
    have s13 := s12.trans s3
    revert s3 c3 d2 e1 s13
    generalize upd H2 tl (.lst []) = H3
    intro s3 c3 d2 e1 s13
    have L0 : LTs K H H3 q rl tl [] [] [] [] := ⟨TT.nil e1 hq, e1, d2, c3, ntr, nrq, ntq, List.not_mem_nil, List.not_mem_nil, zr, zt⟩
    refine ⟨_, rfl, l, rfl, ⟨_, .inl (.inl (s13 _ _ hl))⟩, ?_⟩
    refine for_it (walk_list (xs := us)) (fun i σ H' => ∃ (tl : Addr) (ps : List Addr) (tss : List (List Tk)) (sg : Ag) (y5 : Option V), σ = [some (.ref l), some (.ref q), some (.ref rl), some (.ref tl), some (.int (sg.st : Int)), y5] ∧ Same H H' ∧ InvT (ts.take i) tss sg ∧ TI ts i sg ∧ LTs K H H' q rl tl ps tss sg.th sg.lf ∧ (i ≠ 0 → tss ≠ [] ∧ tss.getLastD [] = sg.tk) ∧ tss.length ≤ i ∧ sg.th.length ≤ i ∧ sg.lf.length ≤ i ∧ sg.tk.length ≤ i)
      ⟨tl, [], [], ⟨[], [], [], 0⟩, _, rfl, s13, .inl ⟨rfl, rfl, rfl, rfl⟩, TI.start hc, L0, fun h => absurd rfl h, Nat.le_refl _, Nat.le_refl _, Nat.le_refl _, Nat.le_refl _⟩ (fun i σ H' _ ⟨_, _, _, _, _, _, z, _⟩ => .inl (.inl (z _ _ hl))) ?_ ?_
    · rintro i x σ H'' H' hi ⟨tl, ps, tss, sg, y5, rfl, s4, iv, ti, L, hne, b1, b2, b3, b4⟩ ⟨rfl, hx⟩
      obtain ⟨t, h1, hd⟩ := ht.get hx
      have hkt := hok t (List.mem_of_getElem? h1)
      obtain ⟨a, rfl, hq0⟩ := tk_at (hd.mono s4)
      have htk : ts.take (i + 1) = ts.take i ++ [t] := TS.take_one h1
      refine ⟨fun σ' H5 => ∃ (tl : Addr) (ps : List Addr) (tss : List (List Tk)) (sg : Ag), σ' = [some (.ref l), some (.ref q), some (.ref rl), some (.ref tl), some (.int (sg.st : Int)), some (.ref a)] ∧ Same H H5 ∧ SqT K H5 a t.vs ∧ InvT (ts.take (i + 1)) (tss.dropLast ++ [(ageT sg t).tk]) (ageT sg t) ∧ TI ts i sg ∧ LTs K H H5 q rl tl ps tss sg.th sg.lf ∧ tss ≠ [] ∧ tss.getLastD [] = sg.tk ∧ tss.length ≤ i + 1 ∧ sg.th.length ≤ i ∧ sg.lf.length ≤ i ∧ sg.tk.length ≤ i, ?_, ?_⟩
      · refine ⟨_, rfl, a, _, 0, _, rfl, rfl, hq0, atI_zero _ _, sz_lit (by show 4 ≤ 100000; decide), fun p hp => ⟨p, _, rfl, .inr (.inl (.inl upd_same)), rfl, flat_strs ["begin", "answer", "rang", "signal"], _, rfl, ?_⟩⟩
        rw [isOut_in]
        have sp : Same H' (upd H' p (.tup [.str "begin", .str "answer", .str "rang", .str "signal"])) := Same.new hp
        have s5 := s4.trans sp
        have L5 := L.mono sp
        have q5 := hq0.mono sp
        revert s5 L5 q5
        generalize upd H' p (.tup [.str "begin", .str "answer", .str "rang", .str "signal"]) = H5
        intro s5 L5 q5
        by_cases ho : isOut t = true
        · rw [ho]
          refine ifT rfl ⟨_, rfl, .inl ⟨rfl, _, .inl (.inl L5.hq)⟩, sz_lit (by show 0 ≤ 100000; decide), fun p2 hp2 => ?_⟩
          have sp2 : Same H5 (upd H5 p2 (.lst [])) := Same.new hp2
          have c6 : upd H5 p2 (.lst []) p2 = some (.lst []) := upd_same
          have L6 := L5.mono sp2
          have s6 := s5.trans sp2
          have q6 := q5.mono sp2
          have n6 : p2 ∉ ps := fun hm => by
            obtain ⟨vs, hv⟩ := (L5.tt.ps L5.hq).2.1 p2 hm
            rw [hv] at hp2; cases hp2
          have n7 : p2 ≠ q := fun e => by rw [e, L5.hq] at hp2; cases hp2
          have n8 : p2 ≠ rl := fun e => by rw [e, L5.hr] at hp2; cases hp2
          have n9 : p2 ≠ tl := fun e => by rw [e, L5.ht] at hp2; cases hp2
          have z6 := new_of s5 hp2
          have lps := (L5.tt.ps L5.hq).1
          revert c6 L6 s6 q6
          generalize upd H5 p2 (.lst []) = H6
          intro c6 L6 s6 q6
          refine ⟨q, _, _, rfl, rfl, L6.hq, lt_sz (by rw [List.length_map]; omega), ?_⟩
          have t7 := TT.push (ts := []) L6.tt L6.hq c6 n6 n7 z6 .nil
          have s7 : Same H (upd H6 q (.lst (ps.map V.ref ++ [.ref p2]))) := Same.updN s6 hq
          have q7 : SqT K (upd H6 q (.lst (ps.map V.ref ++ [.ref p2]))) a t.vs := sqt_updL q6 L6.hq
          have r7 : upd H6 q (.lst (ps.map V.ref ++ [.ref p2])) rl = some (.lst (natsV sg.lf)) := by rw [L2.upd_ne L6.n2]; exact L6.hr
          have h7 : upd H6 q (.lst (ps.map V.ref ++ [.ref p2])) q = some (.lst ((ps ++ [p2]).map V.ref)) := by rw [upd_same, List.map_append]; rfl
          have g7 : upd H6 q (.lst (ps.map V.ref ++ [.ref p2])) tl = some (.lst (natsV sg.th)) := by rw [L2.upd_ne L6.n3]; exact L6.ht
          revert t7 s7 q7 r7 h7 g7
          generalize upd H6 q (.lst (ps.map V.ref ++ [.ref p2])) = H7
          intro t7 s7 q7 r7 h7 g7
          refine ⟨_, rfl, rl, _, rfl, .inl (.inl (.inl r7)), fun tl2 hl2 => ?_⟩
          have s8 : Same H7 (upd H7 tl2 (.lst (natsV sg.lf))) := Same.new hl2
          refine ⟨tl2, ps ++ [p2], tss ++ [[]], ⟨sg.lf, sg.lf, [], sg.st⟩, rfl, s7.trans s8, q7.mono s8, ?_, ti.outer, ⟨t7.mono s8, s8 _ _ h7, s8 _ _ r7, upd_same, fun e => (by rw [← e, r7] at hl2; cases hl2), L.n2, fun e => (by rw [e, h7] at hl2; cases hl2), ?_, ?_, L.z1, new_of s7 hl2⟩, by simp, by rw [List.getLastD_concat], by rw [List.length_append]; exact Nat.succ_le_succ b1, b3, b3, Nat.zero_le _⟩
          · rw [htk, List.dropLast_concat]
            exact iv.outer ho
          · intro hm
            rcases List.mem_append.mp hm with hm | hm
            · exact L.n4 hm
            · exact n8 (List.mem_singleton.mp hm).symm
          · intro hm
            obtain ⟨vs, hv⟩ := (t7.ps h7).2.1 tl2 hm
            rw [hv] at hl2; cases hl2
        · have ho := Bool.eq_false_iff.mpr ho
          have hi0 : i ≠ 0 := fun e => by
            have := hout t (e ▸ h1)
            rw [ho] at this; cases this
          obtain ⟨e1, e2⟩ := hne hi0
          rw [ho]
          refine ifF rfl ⟨tl, ps, tss, sg, rfl, s5, q5, ?_, ti, L5, e1, e2, by omega, b2, b3, b4⟩
          rw [htk]
          exact iv.inner ho e1
      · rintro σ5 H5 ⟨tl, ps, tss, sg, rfl, s5, q5, iv, ti, L, ne, gl, b1, b2, b3, b4⟩
        obtain ⟨hin, ti2⟩ := ti.step h1 hkt
        obtain ⟨t2, lf2, f1, f2, f3, f4, f5, f6⟩ := ageT_bump (s := sg) (t := t)
        refine ⟨fun σ' H6 => ∃ a2, σ' = [some (.ref l), some (.ref q), some (.ref rl), some (.ref tl), some (.int (sg.st : Int)), some (.ref a2)] ∧ Same H H6 ∧ SqT K H6 a2 t2.vs ∧ LTs K H H6 q rl tl ps tss sg.th lf2 ∧ lf2.length ≤ i, ?_, ?_⟩
        · refine ⟨_, rfl, a, _, 0, _, rfl, rfl, q5, atI_zero _ _, sz_lit (by show 3 ≤ 100000; decide), fun p hp => ⟨p, _, rfl, .inr (.inl (.inl upd_same)), rfl, flat_strs ["answer", "rang", "dropped"], _, rfl, ?_⟩⟩
          rw [num_in hkt]
          have sp : Same H5 (upd H5 p (.tup [.str "answer", .str "rang", .str "dropped"])) := Same.new hp
          have s6 := s5.trans sp
          have L6 := L.mono sp
          have q6 := q5.mono sp
          revert s6 L6 q6
          generalize upd H5 p (.tup [.str "answer", .str "rang", .str "dropped"]) = H6
          intro s6 L6 q6
          cases hnn : t.n with
          | none =>
            rw [hnn] at f2 f3
            subst f2 f3
            exact ifF rfl ⟨a, rfl, s6, q6, L6, b3⟩
          | some n =>
            rw [hnn] at f2 f3
            dsimp only at f2 f3
            obtain ⟨i1, i2⟩ := hin n hnn
            obtain ⟨j1, j2, j3⟩ := idx_at i1
            obtain ⟨g1, g2, g3⟩ := idx_at i2
            have hN := numQ q6 hnn
            refine ifT rfl ⟨_, rfl, .inl ⟨rfl, _, .inl (.inl L6.hr)⟩, _, rfl, a, _, 1, _, rfl, rfl, hN, atI_one _ _ _, rl, sg.lf.map (fun n : Nat => (n : Int)), (n : Int), sg.lf.idxOf n, rfl, rfl, by rw [L6.hr, natsV_int], by rw [List.getElem?_map, j1]; rfl, fun m hm e => ?_, ?_⟩
            · rw [List.getElem?_map] at e
              cases z : sg.lf[m]? with
              | none => rw [z] at e; cases e
              | some q =>
                rw [z] at e
                have e : (q : Int) = (n : Int) := Option.some.inj e
                exact j2 m hm q z (by omega)
            rw [eraseIdx_mapI, j3, ← natsV_int]
            have s7 : Same H (upd H6 rl (.lst (natsV (sg.lf.erase n)))) := Same.updN s6 L.z1
            have L7 := L6.setR (lf' := sg.lf.erase n)
            have q7 : SqT K (upd H6 rl (.lst (natsV (sg.lf.erase n)))) a t.vs := sqt_updL q6 L6.hr
            revert s7 L7 q7
            generalize upd H6 rl (.lst (natsV (sg.lf.erase n))) = H7
            intro s7 L7 q7
            have hN := numQ q7 hnn
            refine ⟨_, rfl, a, _, 0, _, rfl, rfl, q7, atI_zero _ _, _, rfl, .inl ⟨rfl, _, .inl (.inl L7.ht)⟩, _, rfl, a, _, 1, _, rfl, rfl, hN, atI_one _ _ _, tl, _, _, sg.th.idxOf n, .int (n : Int), rfl, rfl, .inl (.inl L7.ht), rfl, natsV_flat _, by unfold natsV; rw [List.getElem?_map, g1]; rfl, by rw [eqV_nat]; exact decide_eq_true rfl, fun m z hm e => ?_, sz2 _ _, fun p8 hp8 => ?_⟩
            · unfold natsV at e
              rw [List.getElem?_map] at e
              cases q : sg.th[m]? with
              | none => rw [q] at e; cases e
              | some r =>
                rw [q] at e
                obtain rfl := Option.some.inj e
                rw [eqV_nat]
                exact decide_eq_false (g2 m hm r q)
            have s8 : Same H7 (upd H7 p8 (.tup [.str t.k, .int ((sg.th.idxOf n : Nat) : Int)])) := Same.new hp8
            have c8 : SqT K (upd H7 p8 (.tup [.str t.k, .int ((sg.th.idxOf n : Nat) : Int)])) p8 [.str t.k, .int ((sg.th.idxOf n : Nat) : Int)] := .inl (.inl upd_same)
            have q8 := q7.mono s8
            have L8 := L7.mono s8
            have s78 := s7.trans s8
            revert c8 q8 L8 s78
            generalize upd H7 p8 (.tup [.str t.k, .int ((sg.th.idxOf n : Nat) : Int)]) = H8
            intro c8 q8 L8 s78
            refine ⟨_, rfl, 2, rfl, ?_⟩
            refine rd_slN (lo := some 2) q8 fun p9 H9 s9 q9 => ?_
            rw [tk_tail hnn] at q9
            refine rd_catA (c8.mono s9) q9 (by rw [List.length_map]; have := tk_len hkt; show 2 + t.ws.length ≤ 100000; omega) fun p10 H10 s10 q10 => ?_
            rw [tk_ren hnn] at q10
            refine ⟨p10, rfl, (s78.trans s9).trans s10, by rw [f2]; exact q10, by rw [f3]; exact (L8.mono s9).mono s10, ?_⟩
            rw [f3]
            have := (List.erase_sublist (a := n) (l := sg.lf)).length_le
            omega
        · rintro σ6 H6 ⟨a2, rfl, s6, q6, L6, b6⟩
          refine ⟨fun σ' H7 => σ' = [some (.ref l), some (.ref q), some (.ref rl), some (.ref tl), some (.int ((ageT sg t).st : Int)), some (.ref a2)] ∧ Same H H7 ∧ SqT K H7 a2 t2.vs ∧ LTs K H H7 q rl tl ps tss (ageT sg t).th (ageT sg t).lf ∧ (ageT sg t).th.length ≤ i + 1 ∧ (ageT sg t).lf.length ≤ i + 1, ?_, ?_⟩
          · refine ⟨_, rfl, a2, _, 0, _, rfl, rfl, q6, atI_zero _ _, sz2 _ _, fun p hp => ⟨p, _, rfl, .inr (.inl (.inl upd_same)), rfl, flat_strs ["asked", "set"], _, rfl, ?_⟩⟩
            rw [new_in]
            have sp : Same H6 (upd H6 p (.tup [.str "asked", .str "set"])) := Same.new hp
            have s7 := s6.trans sp
            have L7 := L6.mono sp
            have q7 := q6.mono sp
            revert s7 L7 q7
            generalize upd H6 p (.tup [.str "asked", .str "set"]) = H7
            intro s7 L7 q7
            have ew : isNew t2 = isNew t := by unfold isNew; rw [f1]
            rw [ew]
            by_cases hw : isNew t = true
            · rw [hw]
              have hns : t.n.isSome = false := by
                cases z : t.n with
                | none => rfl
                | some n => rw [(isNew_n hkt.c z).2.2] at hw; cases hw
              obtain ⟨w1, w2, w3⟩ := f5 hns hw
              rw [w1, w2, w3]
              have l3 := natsV_len sg.th
              have l4 := natsV_len lf2
              refine ifT rfl ⟨_, rfl, .inl ⟨rfl, _, .inl (.inl L7.ht)⟩, _, rfl, tl, _, _, rfl, rfl, L7.ht, lt_sz (by omega), ?_⟩
              rw [natsV_snoc]
              have L8 := L7.setT (th' := sg.th ++ [sg.st])
              have q8 : SqT K (upd H7 tl (.lst (natsV (sg.th ++ [sg.st])))) a2 t2.vs := sqt_updL q7 L7.ht
              have s8 : Same H (upd H7 tl (.lst (natsV (sg.th ++ [sg.st])))) := Same.updN s7 L7.z2
              revert s8 L8 q8
              generalize upd H7 tl (.lst (natsV (sg.th ++ [sg.st]))) = H8
              intro L8 q8 s8
              refine ⟨_, rfl, .inl ⟨rfl, _, .inl (.inl L8.hr)⟩, _, rfl, rl, _, _, rfl, rfl, L8.hr, lt_sz (by omega), ?_⟩
              rw [natsV_snoc]
              have L9 := L8.setR (lf' := lf2 ++ [sg.st])
              have q9 : SqT K (upd H8 rl (.lst (natsV (lf2 ++ [sg.st])))) a2 t2.vs := sqt_updL q8 L8.hr
              have s9 : Same H (upd H8 rl (.lst (natsV (lf2 ++ [sg.st])))) := Same.updN s8 L7.z1
              exact ⟨_, rfl, _, _, rfl, rfl, rfl, s9, q9, L9, by rw [List.length_append]; exact Nat.succ_le_succ b2, by rw [List.length_append]; exact Nat.succ_le_succ b6⟩
            · have hw := Bool.eq_false_iff.mpr hw
              rw [hw]
              obtain ⟨w1, w2, w3⟩ := f6 (.inr hw)
              rw [w1, w2, w3]
              exact ifF rfl ⟨rfl, s7, q7, L7, by omega, by omega⟩
          · rintro σ7 H7 ⟨rfl, s7, q7, L7, b7, b8⟩
            have lps := (L7.tt.ps L7.hq).1
            obtain ⟨p, hp⟩ : ∃ p, ps.getLast? = some p := by
              cases z : ps.getLast? with
              | some p => exact ⟨p, rfl⟩
              | none =>
                rw [List.getLast?_eq_none_iff] at z
                rw [z] at lps
                exact absurd (List.length_eq_zero_iff.mp lps.symm) ne
            have hp' := hp
            rw [List.getLast?_eq_getElem?] at hp'
            obtain ⟨ws, w1, w2, w3, w4⟩ := L7.tt.last L7.hq hp (tk_dp q7)
            have hpl : 0 < ps.length := by
              rw [lps]
              exact List.length_pos_iff.mpr ne
            have w3' := w3.len
            rw [gl] at w3 w3' w4
            rw [← f4] at w4
            have hm : p ∈ ps := List.mem_of_getElem? hp'
            have npq : p ≠ q := fun e => (L7.tt.ps L7.hq).2.2 (e ▸ hm)
            have npr : rl ≠ p := fun e => L7.n4 (e ▸ hm)
            have npt : tl ≠ p := fun e => L7.n5 (e ▸ hm)
            refine ⟨_, rfl, _, rfl, q, _, rfl, .inl (.inl (.inl L7.hq)), _, _, rfl, rfl, q, _, ((ps.length - 1 : Nat) : Int), .ref p, rfl, congrArg V.int (by rw [List.length_map]; omega), .inl (.inl L7.hq), atI_nat (by rw [List.getElem?_map, hp']; rfl), ?_⟩
            refine ⟨.inl ⟨rfl, _, .inl (.inl w1)⟩, _, rfl, p, _, _, rfl, rfl, w1, lt_sz (by omega), ?_⟩
            refine ⟨tl, ps, tss.dropLast ++ [(ageT sg t).tk], ageT sg t, _, rfl, Same.updN s7 w2, iv, ti2, ⟨w4, by rw [L2.upd_ne (Ne.symm npq)]; exact L7.hq, by rw [L2.upd_ne npr]; exact L7.hr, by rw [L2.upd_ne npt]; exact L7.ht, L7.n1, L7.n2, L7.n3, L7.n4, L7.n5, L7.z1, L7.z2⟩, fun _ => ⟨by simp, by rw [List.getLastD_concat]⟩, ?_, b7, b8, ?_⟩
            · rw [List.length_append, List.length_dropLast]
              show tss.length - 1 + 1 ≤ i + 1
              omega
            · rw [f4, List.length_append]
              exact Nat.succ_le_succ b4
    · rintro σ H' ⟨tl, ps, tss, sg, y5, rfl, s4, iv, ti, L, hne, b1, b2, b3, b4⟩
      rw [List.take_of_length_le (by omega)] at iv
      exact ⟨_, rfl, k q H' s4 (by rw [← iv.told]; exact L.tt)⟩
end
end Op
namespace Op
open PySem L2 PyProof.Rows
/-! ### the bag -/
def bag (l : Addr) (a r sd m : Int) : HO := .dK [((.inr "cells" : Key), .ref l), (.inr "at", .int a), (.inr "rest", .int r), (.inr "seed", .int sd), (.inr "many", .int m)]
theorem mk_bag (l : Addr) (a r sd m : Int) : mergeK [] [((.inr "cells" : Key), V.ref l), (.inr "at", .int a), (.inr "rest", .int r), (.inr "seed", .int sd), (.inr "many", .int m)] = [((.inr "cells" : Key), .ref l), (.inr "at", .int a), (.inr "rest", .int r), (.inr "seed", .int sd), (.inr "many", .int m)] := by
  first | rfl | kernel_rfl
theorem put_at (l : Addr) (a r sd m a' : Int) : putK [((.inr "cells" : Key), V.ref l), (.inr "at", .int a), (.inr "rest", .int r), (.inr "seed", .int sd), (.inr "many", .int m)] (.inr "at") (.int a') = [((.inr "cells" : Key), .ref l), (.inr "at", .int a'), (.inr "rest", .int r), (.inr "seed", .int sd), (.inr "many", .int m)] := by
  first | rfl | kernel_rfl
theorem put_rest (l : Addr) (a r sd m a' : Int) : putK [((.inr "cells" : Key), V.ref l), (.inr "at", .int a), (.inr "rest", .int r), (.inr "seed", .int sd), (.inr "many", .int m)] (.inr "rest") (.int a') = [((.inr "cells" : Key), .ref l), (.inr "at", .int a), (.inr "rest", .int a'), (.inr "seed", .int sd), (.inr "many", .int m)] := by
  first | rfl | kernel_rfl
theorem put_seed (l : Addr) (a r sd m a' : Int) : putK [((.inr "cells" : Key), V.ref l), (.inr "at", .int a), (.inr "rest", .int r), (.inr "seed", .int sd), (.inr "many", .int m)] (.inr "seed") (.int a') = [((.inr "cells" : Key), .ref l), (.inr "at", .int a), (.inr "rest", .int r), (.inr "seed", .int a'), (.inr "many", .int m)] := by
  first | rfl | kernel_rfl
theorem put_many (l : Addr) (a r sd m a' : Int) : putK [((.inr "cells" : Key), V.ref l), (.inr "at", .int a), (.inr "rest", .int r), (.inr "seed", .int sd), (.inr "many", .int m)] (.inr "many") (.int a') = [((.inr "cells" : Key), .ref l), (.inr "at", .int a), (.inr "rest", .int r), (.inr "seed", .int sd), (.inr "many", .int a')] := by
  first | rfl | kernel_rfl
section
variable {H : Hp} {p l : Addr} {a r sd m : Int}
theorem get_cells (h : H p = some (bag l a r sd m)) : DGet H p (.str "cells") (some (.ref l)) := DGet.k (k := (.inr "cells" : Key)) h
theorem get_at (h : H p = some (bag l a r sd m)) : DGet H p (.str "at") (some (.int a)) := DGet.k (k := (.inr "at" : Key)) h
theorem get_rest (h : H p = some (bag l a r sd m)) : DGet H p (.str "rest") (some (.int r)) := DGet.k (k := (.inr "rest" : Key)) h
theorem get_seed (h : H p = some (bag l a r sd m)) : DGet H p (.str "seed") (some (.int sd)) := DGet.k (k := (.inr "seed" : Key)) h
theorem get_many (h : H p = some (bag l a r sd m)) : DGet H p (.str "many") (some (.int m)) := DGet.k (k := (.inr "many" : Key)) h
theorem dput_at (h : H p = some (bag l a r sd m)) (c : Int) : DPut H p (.str "at") (.int c) (upd H p (bag l c r sd m)) := by
  have z := DPut.k (k := (.inr "at" : Key)) (v := .int c) h (by show 5 < sizeLine; rw [sizeLine_eq]; decide)
  rw [put_at] at z
  exact z
theorem dput_rest (h : H p = some (bag l a r sd m)) (c : Int) : DPut H p (.str "rest") (.int c) (upd H p (bag l a c sd m)) := by
  have z := DPut.k (k := (.inr "rest" : Key)) (v := .int c) h (by show 5 < sizeLine; rw [sizeLine_eq]; decide)
  rw [put_rest] at z
  exact z
theorem dput_seed (h : H p = some (bag l a r sd m)) (c : Int) : DPut H p (.str "seed") (.int c) (upd H p (bag l a r c m)) := by
  have z := DPut.k (k := (.inr "seed" : Key)) (v := .int c) h (by show 5 < sizeLine; rw [sizeLine_eq]; decide)
  rw [put_seed] at z
  exact z
theorem dput_many (h : H p = some (bag l a r sd m)) (c : Int) : DPut H p (.str "many") (.int c) (upd H p (bag l a r sd c)) := by
  have z := DPut.k (k := (.inr "many" : Key)) (v := .int c) h (by show 5 < sizeLine; rw [sizeLine_eq]; decide)
  rw [put_many] at z
  exact z
end
theorem fmod_lt {a m : Int} (h : 0 < m) : 0 ≤ a.fmod m ∧ a.fmod m < m := ⟨Int.fmod_nonneg_of_pos _ h, Int.fmod_lt_of_pos _ h⟩
/-- the bag stands at p -/
def Pl (H : Hp) (p l : Addr) : Prop := ∃ a r sd m, ∃ ns : List Int, H p = some (bag l a r sd m) ∧ H l = some (.lst (ns.map V.int)) ∧ 0 ≤ a ∧ 0 ≤ r
section
variable {K : PySem.W.Frag} {H H' : Hp} {p c : Addr}
theorem Pl.at (h : Pl H p c) : ∃ kvs, H p = some (.dK kvs) := let ⟨_, _, _, _, _, h, _⟩ := h; ⟨_, h⟩
theorem Pl.cells (h : Pl H p c) : ∃ xs, H c = some (.lst xs) := let ⟨_, _, _, _, _, _, h, _⟩ := h; ⟨_, h⟩
theorem Pl.kp (h : Pl H p c) (b : But p H H') : Kp H H' := fun c o hc ho => b c o hc fun e => by
  obtain ⟨_, h⟩ := h.at
  rw [e, h] at hc
  cases hc
  cases ho
theorem Pl.mono (h : Pl H p c) (s : Same H H') : Pl H' p c := let ⟨a, r, sd, m, ns, h1, h2, h3, h4⟩ := h; ⟨a, r, sd, m, ns, s _ _ h1, s _ _ h2, h3, h4⟩
theorem Pl.put {D : Addr} {o : HO} (h : Pl H p c) (h1 : D ≠ p) (h2 : D ≠ c) : Pl (upd H D o) p c := let ⟨a, r, sd, m, ns, g1, g2, g3, g4⟩ := h; ⟨a, r, sd, m, ns, by rw [L2.upd_ne h1.symm]; exact g1, by rw [L2.upd_ne h2.symm]; exact g2, g3, g4⟩
/-- what was free while the bag stood is not of the bag -/
theorem Pl.new {D : Addr} (h : Pl H p c) (hD : H D = none) : D ≠ p ∧ D ≠ c := by
  refine ⟨fun e => ?_, fun e => ?_⟩
  · obtain ⟨_, g⟩ := h.at
    rw [e, g] at hD
    cases hD
  · obtain ⟨_, g⟩ := h.cells
    rw [e, g] at hD
    cases hD
end
theorem lt64b {a : Int} : -(2 ^ 64) < a.fmod 2147483647 ∧ a.fmod 2147483647 < 2 ^ 64 := by
  have := fmod_lt (a := a) (m := 2147483647) (by decide)
  omega
def spBag (K : PySem.W.Frag) : Sp := fun vs H Q _ => ∃ (a : Addr) (ns : List Int), vs = [.ref a] ∧ SqL K H a (ns.map V.int) ∧ ns.length ≤ 63 ∧
  ∀ (p c : Addr) H', H p = none → Same H H' → Pl H' p c → Q (.ref p) H'
def spD : Sp := fun vs H Q _ => ∃ (p l : Addr) (m : Int), vs = [.ref p, .int m] ∧ Pl H p l ∧ m < 1073741824 ∧ ∀ (r : Int) H', 0 ≤ r → (r < m ∨ m < 2 ∧ r = 0) → But p H H' → Pl H' p l → Q (.int r) H'
section
variable {P : Program} {w : World} {K : PySem.W.Frag} {mg : Str → Option Value} {base : Heap}
theorem sc__law_bag : FnScope ["_law_script", "_law_cell"] ["_law_script"] (defScope s__law_bag) := ⟨rfl, rfl, rfl, by decide +kernel, rfl, by decide +kernel, by decide +kernel⟩
theorem ok_bag {f : Addr} {fd : FuncData} (F : Fun K "_law_bag" "_law_bag" s__law_bag f fd) (T : Txt mg) : FnOk P w K mg base CX0 1 f fd ["_law_script"] (spBag K) := by
  refine F.ok sc__law_bag (fun vs H Q E h => ?_) (fun cdv A outer s H vs Q E hr h => ?_)
  · obtain ⟨a, ns, rfl, _⟩ := h
    rfl
  · obtain ⟨a, ns, rfl, hS, hlen, k⟩ := h
    refine ⟨_, (pss_one (ps_ret (pe_disp (pps_cons pe_str (pe_lc (own := [("_law_cell", 1)]) (g := gName 1) (tt := tYes) rfl sc__law_bag.nd (pi_list (pe_slice sl_list (pv 0) po_none (po_some pe_int))) (blkOk_by (own := [("_law_cell", 1)]) (N := ["_law_script", "_law_cell"]) (sc := defScope s__law_bag) (by decide +kernel)) (fun _ _ _ _ _ => (pg_name (i := 1) sc__law_bag.nd rfl (.inl rfl))) (fun _ _ _ _ _ => pts_nil) (fun _ _ _ _ _ => (pe_callTy call_int1 (by rfl) T.b_int (by decide +kernel) (pa_cons (pv 1) pa_nil)))) (pps_cons pe_str pe_int (pps_cons pe_str pe_int (pps_cons pe_str pe_int (pps_cons pe_str pe_int pps_nil))))) (by rfl) (by rfl) (fun z => by cases z) (by decide)))), ?_⟩
    intro p hp
    have s1 : Same H (upd H p (.dK [])) := Same.new hp
    have p1 : upd H p (.dK []) p = some (.dK []) := upd_same
    revert s1 p1
    generalize upd H p (.dK []) = H1
    intro s1 p1
    obtain ⟨ms, hms⟩ : ∃ ms : List Int, cutV (ns.map V.int) none (some 63) = ms.map V.int := by
      unfold cutV
      exact ⟨_, by rw [← List.map_drop, ← List.map_take]⟩
    have hml : ms.length ≤ 63 := by
      have := cutV_length (ns.map V.int) none (some 63)
      rw [hms, List.length_map, List.length_map] at this
      omega
    refine ⟨_, rfl, 63, rfl, a, _, rfl, hS.mono s1, fun q hq => ?_⟩
    rw [hms]
    have s2 := s1.trans (Same.new (o := .lst (ms.map V.int)) hq)
    have s12 := Same.new (o := .lst (ms.map V.int)) hq
    have q2 := at_new (o := .lst (ms.map V.int)) hq
    revert s2 q2 s12
    generalize upd H1 q _ = H2
    intro s2 s12 q2
    refine ⟨q, rfl, ⟨_, .inl (.inl q2)⟩, fun D hD => ?_⟩
    refine lc_it (walk_list (xs := ms.map V.int)) (fun i H' => H' D = some (.lst ((ms.take i).map V.int)) ∧ Same H2 H') ⟨upd_same, Same.new hD⟩ (fun i H' _ q => .inl (.inl (q.2 _ _ q2))) ?_ ?_
    · rintro i x H5 H4 hi ⟨hD4, s4⟩ ⟨rfl, hx⟩
      have hi' : i < ms.length := by rw [List.length_map] at hi; exact hi
      have hmi : ms[i]? = some ms[i] := List.getElem?_eq_getElem hi'
      obtain rfl : x = .int ms[i] := by
        rw [List.getElem?_map, hmi] at hx
        exact (Option.some.inj hx).symm
      refine ⟨rfl, _, rfl, .inl ⟨_, rfl, _, hD4, lt_sz (by rw [List.length_map, List.length_take]; omega), ?_, fun b o hb => ?_⟩⟩
      · rw [upd_same, TS.take_one hmi, List.map_append]
        rfl
      · rw [L2.upd_ne (ne_of_none hb hD)]
        exact s4 b o hb
    · rintro H4 ⟨hD4, s4⟩
      rw [List.length_map, List.take_length] at hD4
      have s14 := s12.trans s4
      refine ⟨s14 _ _ p1, [((.inr "cells" : Key), V.ref D), (.inr "at", .int 0), (.inr "rest", .int 0), (.inr "seed", .int 1), (.inr "many", .int 0)], rfl, (by show 5 ≤ 15; decide), ?_⟩
      have hDp : D ≠ p := fun e => by rw [e, s12 _ _ p1] at hD; cases hD
      have e1 := mk_bag D 0 0 1 0
      refine k p D _ hp (fun b o hb => ?_) ⟨0, 0, 1, 0, ms, by rw [upd_same]; exact congrArg (fun l => some (HO.dK l)) e1, by rw [L2.upd_ne hDp]; exact hD4, by decide, by decide⟩
      rw [L2.upd_ne (ne_of_none hb hp)]
      exact s14 _ _ (s1 _ _ hb)
theorem sc__law_draw : FnScope ["_law_bag_here", "_law_many", "_law_cell", "_law_value", "_law_number"] ["_law_bag_here", "_law_many"] (defScope s__law_draw) := ⟨rfl, rfl, rfl, by decide +kernel, rfl, by decide +kernel, by decide +kernel⟩
theorem ok_draw {f : Addr} {fd : FuncData} (F : Fun K "_law_draw" "_law_draw" s__law_draw f fd) (T : Txt mg) : FnOk P w K mg base CX0 1 f fd ["_law_bag_here", "_law_many"] spD := by
  refine F.ok sc__law_draw (fun vs H Q E h => ?_) (fun cdv A outer s H vs Q E hr h => ?_)
  · obtain ⟨p, l, m, rfl, _⟩ := h
    rfl
  · obtain ⟨p, l, m, rfl, ⟨a, r, sd, c, ns, hp, hl, ha, hr0⟩, h2, k⟩ := h
    have hu := hu_of hr
    refine ⟨_, (pss_cons (ps_if (pt_cmpR op_lt (pv 1) pe_int (nomark _)) (pss_one (ps_ret pe_int)) pss_nil)
      (pss_cons (ps_dput hu (pv 0) pe_str (pe_op op_add (pe_dget hu (pv 0) pe_str (fun _ _ => rfl)) pe_int) rfl)
      (Evl.pss_cut (ps_if (PW.pt (pw_and (pt_cmpR op_eq (pe_dget hu (pv 0) pe_str (fun _ _ => rfl)) pe_int (nomark _)) (pw_and1 (pt_cmpR op_lt (pe_dget hu (pv 0) pe_str (fun _ _ => rfl)) (pe_callB call_len_seq (by rfl) T.b_len (by decide +kernel) (pa_cons (pe_dget hu (pv 0) pe_str (fun _ _ => rfl)) pa_nil)) (nomark _))))) (pss_cons (ps_set (i := 2) sc__law_draw.nd rfl (.inl rfl) (pe_ix ix_list (pe_dget hu (pv 0) pe_str (fun _ _ => rfl)) (pe_dget hu (pv 0) pe_str (fun _ _ => rfl)) (fun _ _ => rfl)))
      (pss_cons (ps_dput hu (pv 0) pe_str (pe_op op_add (pe_dget hu (pv 0) pe_str (fun _ _ => rfl)) pe_int) rfl)
      (pss_one (ps_if (pt_cmpR op_ge (pv 2) (pe_op op_pow pe_int pe_int) (nomark _)) (pss_one (ps_dput hu (pv 0) pe_str (pv 2) rfl)) (pss_one (ps_dput hu (pv 0) pe_str (pe_op op_modN (pe_callTy call_int1 (by rfl) T.b_int (by decide +kernel) (pa_cons (pe_op op_add (pe_op op_add (pe_op op_mul (pe_dget hu (pv 0) pe_str (fun _ _ => rfl)) pe_int) (pe_op op_modN (pe_callTy call_int1 (by rfl) T.b_int (by decide +kernel) (pa_cons (pv 2) pa_nil)) pe_int)) pe_int) pa_nil)) pe_int) rfl)))))) pss_nil)
      (pss_cons (ps_if (pt_cmpR op_gt (pe_dget hu (pv 0) pe_str (fun _ _ => rfl)) pe_int (nomark _)) (pss_cons (ps_set (i := 3) sc__law_draw.nd rfl (.inl rfl) (pe_op op_modN (pe_callTy call_int1 (by rfl) T.b_int (by decide +kernel) (pa_cons (pe_dget hu (pv 0) pe_str (fun _ _ => rfl)) pa_nil)) (pv 1)))
      (pss_cons (ps_dput hu (pv 0) pe_str (pe_op op_fdivN (pe_dget hu (pv 0) pe_str (fun _ _ => rfl)) (pv 1)) rfl)
      (pss_one (ps_ret (pv 3))))) pss_nil)
      (pss_cons (ps_set (i := 4) sc__law_draw.nd rfl (.inl rfl) (pe_op op_modN (pe_callTy call_int1 (by rfl) T.b_int (by decide +kernel) (pa_cons (pe_op op_mul (pe_op op_add (pe_op op_add (pe_dget hu (pv 0) pe_str (fun _ _ => rfl)) (pe_op op_mul pe_int (pe_dget hu (pv 0) pe_str (fun _ _ => rfl)))) pe_int) pe_int) pa_nil)) pe_int))
      (pss_cons (ps_set (i := 4) sc__law_draw.nd rfl (.inl rfl) (pe_op op_modN (pe_callTy call_int1 (by rfl) T.b_int (by decide +kernel) (pa_cons (pe_op op_mul (pv 4) (pe_op op_add (pe_op op_fdivN (pv 4) pe_int) pe_int)) pa_nil)) pe_int))
      (pss_one (ps_ret (pe_op op_modN (pe_op op_fdivN (pe_op op_modN (pe_callTy call_int1 (by rfl) T.b_int (by decide +kernel) (pa_cons (pe_op op_mul (pv 4) (pe_op op_add (pe_op op_fdivN (pv 4) pe_int) pe_int)) pa_nil)) pe_int) pe_int) (pv 1)))))))))), ?_⟩
    refine ⟨_, rfl, _, _, rfl, rfl, _, rfl, ?_⟩
    have pl0 : Pl H p l := ⟨a, r, sd, c, ns, hp, hl, ha, hr0⟩
    have nlp : l ≠ p := fun e => by rw [e, hp] at hl; cases hl
    by_cases e : m < 2
    · exact ifT (decide_eq_true e) (k 0 H (Int.le_refl _) (.inr ⟨e, rfl⟩) (fun _ _ h _ => h) pl0)
    refine ifF (decide_eq_false e) ?_
    refine ⟨_, rfl, p, _, rfl, get_many hp, _, _, rfl, rfl, _, rfl, p, _, rfl, dput_many hp _, ?_⟩
    have hp1 : upd H p (bag l a r sd (c + 1)) p = some (bag l a r sd (c + 1)) := upd_same
    have hl1 : upd H p (bag l a r sd (c + 1)) l = some (.lst (ns.map V.int)) := by rw [L2.upd_ne nlp]; exact hl
    have b1 : But p H (upd H p (bag l a r sd (c + 1))) := fun b o hb n => by rw [L2.upd_ne n]; exact hb
    revert hp1 hl1 b1
    generalize upd H p (bag l a r sd (c + 1)) = H1
    intro hp1 hl1 b1
    have upL : ∀ {G : Hp} {o : HO}, G l = some (.lst (ns.map V.int)) → upd G p o l = some (.lst (ns.map V.int)) := fun h => by rw [L2.upd_ne nlp]; exact h
    refine ⟨fun σ H' => ∃ y2 a r sd, σ = [some (.ref p), some (.int m), y2, none, none] ∧ H' p = some (bag l a r sd (c + 1)) ∧ H' l = some (.lst (ns.map V.int)) ∧ 0 ≤ a ∧ 0 ≤ r ∧ But p H H', ?_, ?_⟩
    · refine ⟨_, rfl, p, _, rfl, get_rest hp1, rfl, _, rfl, ?_⟩
      by_cases e0 : r = 0
      · refine ifT (decide_eq_true (congrArg V.int e0)) ?_
        refine ⟨_, rfl, p, _, rfl, get_at hp1, _, rfl, p, _, rfl, get_cells hp1, l, _, rfl, .inl (.inl (.inl hl1)), _, _, rfl, rfl, _, rfl, ?_⟩
        by_cases e1 : a < ((ns.map V.int).length : Int)
        · refine ifT (decide_eq_true e1) ?_
          obtain ⟨j, rfl⟩ := Int.eq_ofNat_of_zero_le ha
          have hj : j < ns.length := by rw [List.length_map] at e1; omega
          have hz : ns[j]? = some ns[j] := List.getElem?_eq_getElem hj
          refine ⟨_, rfl, p, _, rfl, get_cells hp1, _, rfl, p, _, rfl, get_at hp1, l, _, _, .int ns[j], rfl, rfl, .inl (.inl hl1), atI_nat (j := j) (by rw [List.getElem?_map, hz]; rfl), ?_⟩
          refine ⟨_, rfl, p, _, rfl, get_at hp1, _, _, rfl, rfl, _, rfl, p, _, rfl, dput_at hp1 _, ?_⟩
          have hp2 : upd H1 p (bag l ((j : Int) + 1) r sd (c + 1)) p = some (bag l ((j : Int) + 1) r sd (c + 1)) := upd_same
          have hl2 : upd H1 p (bag l ((j : Int) + 1) r sd (c + 1)) l = some (.lst (ns.map V.int)) := upL hl1
          have b2 : But p H (upd H1 p (bag l ((j : Int) + 1) r sd (c + 1))) := b1.upd
          revert hp2 hl2 b2
          generalize upd H1 p (bag l ((j : Int) + 1) r sd (c + 1)) = H2
          intro hp2 hl2 b2
          refine ⟨_, rfl, _, _, rfl, rfl, ⟨by decide, by decide, by decide⟩, _, _, rfl, rfl, _, rfl, ?_⟩
          by_cases e2 : (10 : Int) ^ (18 : Int).toNat ≤ ns[j]
          · refine ifT (decide_eq_true e2) ?_
            refine ⟨_, rfl, _, rfl, p, _, rfl, dput_rest hp2 _, _, _, _, _, rfl, upd_same, upL hl2, by omega, ?_, b2.upd⟩
            exact Int.le_trans (by decide) e2
          · refine ifF (decide_eq_false e2) ?_
            exact ⟨_, rfl, p, _, rfl, get_seed hp2, _, _, rfl, rfl, .inr ⟨by decide, by decide⟩, _, rfl, .inl ⟨_, rfl, _, _, rfl, rfl, (by show (2147483399 : Int) ≠ 0; decide), _, _, rfl, rfl, _, _, rfl, rfl, .inl ⟨_, rfl, _, _, rfl, rfl, (by show (2147483647 : Int) ≠ 0; decide), _, rfl, p, _, rfl, dput_seed hp2 _, _, _, _, _, rfl, upd_same, upL hl2, by omega, hr0, b2.upd⟩⟩⟩
        · exact ifF (decide_eq_false e1) ⟨_, _, _, _, rfl, hp1, hl1, ha, hr0, b1⟩
      · exact ifF (decide_eq_false fun z => e0 (V.int.inj z)) ⟨_, _, _, _, rfl, hp1, hl1, ha, hr0, b1⟩
    · rintro _ H2 ⟨y2, a, r, sd, rfl, hp2, hl2, ha2, hr2, b2⟩
      refine ⟨_, rfl, p, _, rfl, get_rest hp2, _, _, rfl, rfl, _, rfl, ?_⟩
      by_cases e3 : 0 < r
      · refine ifT (decide_eq_true e3) ?_
        refine ⟨_, rfl, p, _, rfl, get_rest hp2, .inl ⟨r, rfl, _, rfl, _, _, rfl, rfl, (by show m ≠ 0; omega), ?_⟩⟩
        refine ⟨_, rfl, p, _, rfl, get_rest hp2, _, rfl, _, _, rfl, rfl, ⟨(by omega), (by omega)⟩, _, rfl, p, _, rfl, dput_rest hp2 _, _, rfl, ?_⟩
        exact k _ _ (fmod_lt (by omega)).1 (.inl (fmod_lt (by omega)).2) b2.upd ⟨_, _, _, _, ns, upd_same, upL hl2, ha2, Int.fdiv_nonneg (by omega) (by omega)⟩
      · refine ifF (decide_eq_false e3) ?_
        refine ⟨_, rfl, p, _, rfl, get_seed hp2, _, rfl, p, _, rfl, get_many hp2, _, _, rfl, rfl, .inl ⟨by decide, by decide⟩, _, _, rfl, rfl, _, _, rfl, rfl, _, _, rfl, rfl, .inr ⟨by decide, by decide⟩, .inl ⟨_, rfl, _, _, rfl, rfl, (by show (2147483647 : Int) ≠ 0; decide), ?_⟩⟩
        refine ⟨_, rfl, _, rfl, _, _, rfl, rfl, ⟨by decide, by decide⟩, _, _, rfl, rfl, _, _, rfl, rfl, .inl lt64b, .inl ⟨_, rfl, _, _, rfl, rfl, (by show (2147483647 : Int) ≠ 0; decide), ?_⟩⟩
        refine ⟨_, rfl, _, rfl, _, _, rfl, rfl, ⟨by decide, by decide⟩, _, _, rfl, rfl, _, _, rfl, rfl, .inl lt64b, .inl ⟨_, rfl, _, _, rfl, rfl, (by show (2147483399 : Int) ≠ 0; decide), _, _, rfl, rfl, ⟨by decide, by decide⟩, _, rfl, _, _, rfl, rfl, (by show m ≠ 0; omega), ?_⟩⟩
        exact k _ _ (fmod_lt (by omega)).1 (.inl (fmod_lt (by omega)).2) b2 ⟨_, _, _, _, ns, hp2, hl2, ha2, hr2⟩
end
end Op
namespace Op
open PySem L2 PyProof.Rows
/-! ### drawn words -/
def wd (pre : List Nat) (c : Nat) : Str := ⟨(pre ++ [97 + c]).toArray⟩
def sh (pre : List Nat) (c j : Nat) : Str := wd pre ((c + j) % 26)
theorem wd_len (pre : List Nat) (c : Nat) : (wd pre c).length = pre.length + 1 := by
  show ((pre ++ [97 + c]).toArray).size = _
  rw [List.size_toArray, List.length_append]
  rfl
theorem letter_mem : ∀ x : Nat, 97 ≤ x → x < 123 → x ∈ letters.cps.toList := by
  have h : ∀ j : Nat, j < 26 → 97 + j ∈ letters.cps.toList := by decide +kernel
  intro x h1 h2
  have := h (x - 97) (by omega)
  rw [show 97 + (x - 97) = x by omega] at this
  exact this
theorem wd_word {pre : List Nat} {c : Nat} (h : ∀ x ∈ pre, 97 ≤ x ∧ x < 123) (hc : c < 26) (hl : pre.length + 1 ≤ 8) : isWordS (wd pre c) = true := by
  unfold isWordS
  rw [wd_len, decide_eq_true ⟨by omega, hl⟩, Bool.true_and]
  refine List.all_eq_true.mpr fun x hx => decide_eq_true ?_
  have hx : x ∈ pre ++ [97 + c] := by
    have : (wd pre c).cps.toList = pre ++ [97 + c] := List.toList_toArray
    rw [this] at hx
    exact hx
  rcases List.mem_append.mp hx with hx | hx
  · exact letter_mem x (h x hx).1 (h x hx).2
  · rw [List.mem_singleton.mp hx]
    exact letter_mem _ (by omega) (by omega)
theorem letter_at : ∀ j : Nat, j < 26 → letters.cps.toList[j]? = some (97 + j) := by decide +kernel
theorem find_letter : ∀ c : Nat, c < 26 → Txt.find letters ⟨#[97 + c]⟩ = (c : Int) := by decide +kernel
theorem wd_last (pre : List Nat) (c : Nat) : cutS (wd pre c) (some ((pre.length : Nat) : Int)) none = ⟨#[97 + c]⟩ := by
  unfold cutS
  rw [wd_len, HT.sIx_nat, HT.sIx_none, Nat.min_eq_left (by omega)]
  have : (wd pre c).cps.toList = pre ++ [97 + c] := List.toList_toArray
  rw [this, List.drop_left' rfl]
  rw [show pre.length + 1 - pre.length = 1 by omega]
  rfl
theorem wd_init (pre : List Nat) (c d : Nat) : cutS (wd pre c) none (some ((pre.length : Nat) : Int)) ++ (⟨#[97 + d]⟩ : Str) = wd pre d := by
  unfold cutS
  rw [wd_len, HT.sIx_nat, HT.sIx_none, Nat.min_eq_left (by omega)]
  have : (wd pre c).cps.toList = pre ++ [97 + c] := List.toList_toArray
  rw [this, List.drop_zero, Nat.sub_zero, List.take_left' rfl]
  show (⟨pre.toArray ++ #[97 + d]⟩ : Str) = ⟨(pre ++ [97 + d]).toArray⟩
  congr 1
  simp
theorem wd_inj {pre : List Nat} {c d : Nat} (h : wd pre c = wd pre d) : c = d := by
  have h1 : (wd pre c).cps.toList = (wd pre d).cps.toList := by rw [h]
  have e1 : (wd pre c).cps.toList = pre ++ [97 + c] := List.toList_toArray
  have e2 : (wd pre d).cps.toList = pre ++ [97 + d] := List.toList_toArray
  rw [e1, e2] at h1
  have := List.append_cancel_left h1
  injection this with h2
  omega
theorem sh_zero {pre : List Nat} {c : Nat} (h : c < 26) : sh pre c 0 = wd pre c := by
  unfold sh
  rw [Nat.add_zero, Nat.mod_eq_of_lt h]
theorem sh_next (pre : List Nat) (c j : Nat) : wd pre (((c + j) % 26 + 1) % 26) = sh pre c (j + 1) := by
  unfold sh
  congr 1
  omega
theorem nd_le : ∀ {l T : List Str}, l.Nodup → (∀ x ∈ l, x ∈ T) → l.length ≤ T.length
  | [], T, _, _ => Nat.zero_le _
  | x :: l, T, hn, hs => by
    rw [List.nodup_cons] at hn
    have hx : x ∈ T := hs x List.mem_cons_self
    have h1 := nd_le (l := l) (T := T.erase x) hn.2 fun y hy => by
      have hne : y ≠ x := fun e => hn.1 (e ▸ hy)
      exact (List.mem_erase_of_ne hne).mpr (hs y (List.mem_cons_of_mem _ hy))
    rw [List.length_erase_of_mem hx] at h1
    have : 0 < T.length := List.length_pos_of_mem hx
    rw [List.length_cons]
    omega
theorem sh_free {pre : List Nat} {c : Nat} {T : List Str} (h : ∀ j, j < 26 → sh pre c j ∈ T) : 26 ≤ T.length := by
  have h1 : ((List.range 26).map (sh pre c)).Nodup := by
    refine List.pairwise_map.mpr (List.Pairwise.imp_of_mem ?_ List.nodup_range)
    intro a b ha hb hne e
    have ha := List.mem_range.mp ha
    have hb := List.mem_range.mp hb
    have := wd_inj e
    omega
  have := nd_le h1 fun x hx => by
    obtain ⟨j, hj, rfl⟩ := List.mem_map.mp hx
    exact h j (List.mem_range.mp hj)
  rw [List.length_map, List.length_range] at this
  exact this
/-- how far the shifts are: j of them were taken -/
def ShI (pre : List Nat) (c : Nat) (T : List Str) (i : Nat) (z : Str) : Prop := ∃ j, j ≤ i ∧ z = sh pre c j ∧ (∀ k, k < j → sh pre c k ∈ T) ∧ (j < i → z ∉ T)
theorem ShI.start {pre : List Nat} {c : Nat} {T : List Str} (h : c < 26) : ShI pre c T 0 (wd pre c) := ⟨0, Nat.le_refl _, (sh_zero h).symm, fun k hk => absurd hk (Nat.not_lt_zero _), fun hk => absurd hk (Nat.lt_irrefl _)⟩
theorem ShI.stay {pre : List Nat} {c i : Nat} {T : List Str} {z : Str} (h : ShI pre c T i z) (hz : z ∉ T) : ShI pre c T (i + 1) z := by
  obtain ⟨j, h1, h2, h3, h4⟩ := h
  exact ⟨j, by omega, h2, h3, fun _ => hz⟩
theorem ShI.go {pre : List Nat} {c i : Nat} {T : List Str} {z : Str} (h : ShI pre c T i z) (hz : z ∈ T) : ∃ d, d < 26 ∧ z = wd pre d ∧ ShI pre c T (i + 1) (wd pre ((d + 1) % 26)) := by
  obtain ⟨j, h1, h2, h3, h4⟩ := h
  have hj : j = i := by
    rcases Nat.lt_or_ge j i with e | e
    · exact absurd hz (h4 e)
    · omega
  subst hj
  refine ⟨(c + j) % 26, Nat.mod_lt _ (by decide), h2, j + 1, by omega, sh_next pre c j, fun k hk => ?_, fun hk => absurd hk (Nat.lt_irrefl _)⟩
  rcases Nat.lt_or_ge k j with e | e
  · exact h3 k e
  · rw [show k = j by omega, ← h2]
    exact hz
theorem ShI.done {pre : List Nat} {c : Nat} {T : List Str} {z : Str} (h : ShI pre c T 26 z) (hT : T.length < 26) : z ∉ T ∧ ∃ d, d < 26 ∧ z = wd pre d := by
  obtain ⟨j, h1, h2, h3, h4⟩ := h
  refine ⟨?_, (c + j) % 26, Nat.mod_lt _ (by decide), h2⟩
  rcases Nat.lt_or_ge j 26 with e | e
  · exact h4 e
  · have := sh_free (pre := pre) (c := c) (T := T) fun k hk => h3 k (by omega)
    omega
theorem join_letters : ∀ cs : List Nat, Txt.join "" (cs.map fun c => (⟨#[c]⟩ : Str)) = ⟨cs.toArray⟩ := by
  intro cs
  rw [show Txt.join "" (cs.map fun c => (⟨#[c]⟩ : Str)) = Str.join "" (cs.map fun c => (⟨#[c]⟩ : Str)) from StrLaws.glued_eq_join _ _]
  induction cs with
  | nil => rfl
  | cons x r ih =>
    cases r with
    | nil => rfl
    | cons y r =>
      show (⟨#[x]⟩ : Str) ++ "" ++ Str.join "" ((y :: r).map fun c => (⟨#[c]⟩ : Str)) = _
      rw [ih]
      show (⟨#[x] ++ #[] ++ (y :: r).toArray⟩ : Str) = ⟨(x :: y :: r).toArray⟩
      congr 1
      simp
theorem split_last : ∀ {cs : List Nat}, 1 ≤ cs.length → (∀ x ∈ cs, 97 ≤ x ∧ x < 123) → ∃ pre c, (⟨cs.toArray⟩ : Str) = wd pre c ∧ c < 26 ∧ (∀ x ∈ pre, 97 ≤ x ∧ x < 123) ∧ pre.length + 1 = cs.length := by
  intro cs hl h
  have hne : cs ≠ [] := fun e => by rw [e] at hl; simp at hl
  have e := List.dropLast_concat_getLast hne
  have hg := h _ (List.getLast_mem hne)
  refine ⟨cs.dropLast, cs.getLast hne - 97, ?_, by omega, fun x hx => h x (List.dropLast_subset cs hx), ?_⟩
  · unfold wd
    rw [show 97 + (cs.getLast hne - 97) = cs.getLast hne by omega, e]
  · rw [List.length_dropLast]
    omega
end Op
namespace Op
open PySem L2 PyProof.Rows
def spOne (K : PySem.W.Frag) : Sp := fun vs H Q _ => ∃ (p c l : Addr) (zs : List V), vs = [.ref p, .ref l] ∧ Pl H p c ∧ SqL K H l zs ∧ 1 ≤ zs.length ∧ zs.length ≤ 1000 ∧ ∀ z H', z ∈ zs → But p H H' → Pl H' p c → Q z H'
def spWords (K : PySem.W.Frag) : Sp := fun vs H Q _ => ∃ (p pc t : Addr) (n most : Nat) (ts : List Str), vs = [.ref p, .int n, .int most, .ref t] ∧ Pl H p pc ∧ SqL K H t (ts.map V.str) ∧ 1 ≤ most ∧ most ≤ 8 ∧ ts.length + n ≤ 25 ∧
  ∀ (l : Addr) (zs : List Str) H', H l = none → But p H H' → Pl H' p pc → H' l = some (.lst (zs.map V.str)) → zs.length = n → zs.Nodup → (∀ z ∈ zs, isWordS z = true ∧ z ∉ ts ∧ z.length ≤ most) → Q (.ref l) H'
theorem inV_strs (z : Str) : ∀ zs : List Str, inV (.str z) (zs.map V.str) = decide (z ∈ zs)
  | [] => rfl
  | x :: r => by
    have ih := inV_strs z r
    unfold inV at ih ⊢
    rw [List.map_cons, List.any_cons, ih]
    by_cases e : x = z
    · subst e
      rw [show eqV (.str x) (.str x) = true by simp [eqV], decide_eq_true List.mem_cons_self]
      rfl
    · rw [show eqV (.str x) (.str z) = false by simp [eqV, e], Bool.false_or]
      exact decide_eq_decide.mpr ⟨List.mem_cons_of_mem _, fun h => (List.mem_cons.mp h).resolve_left fun q => e q.symm⟩
theorem flat_strsK (zs : List Str) : (zs.map V.str).all flatV = true := List.all_eq_true.mpr fun v hv => by
  obtain ⟨z, _, rfl⟩ := List.mem_map.mp hv
  rfl
section
variable {P : Program} {w : World} {K : PySem.W.Frag} {mg : Str → Option Value} {base : Heap}
theorem sc__law_one : FnScope ["_law_bag_here", "_law_items"] ["_law_bag_here", "_law_items"] (defScope s__law_one) := ⟨rfl, rfl, rfl, by decide +kernel, rfl, by decide +kernel, by decide +kernel⟩
theorem ok_one {f : Addr} {fd : FuncData} (F : Fun K "_law_one" "_law_one" s__law_one f fd) (T : Txt mg) (c__law_draw : Cal P w K mg base CX0 1 "_law_draw" ["_law_bag_here", "_law_many"] spD) : FnOk P w K mg base CX0 2 f fd ["_law_bag_here", "_law_items"] (spOne K) := by
  refine F.ok sc__law_one (fun vs H Q E h => ?_) (fun cdv A outer s H vs Q E hr h => ?_)
  · obtain ⟨p, c, l, zs, rfl, _⟩ := h
    rfl
  · obtain ⟨p, c, l, zs, rfl, hp, hl, h1, h2, k⟩ := h
    refine ⟨_, (pss_one (ps_ret (pe_ix ix_list (pv 1) (pe_cal c__law_draw (hr.mono (by omega)) rfl pass0 (pa_cons (pv 0) (pa_cons (pe_callB call_len_seq (by rfl) T.b_len (by decide +kernel) (pa_cons (pv 1) pa_nil)) pa_nil))) (fun _ _ => rfl)))), ?_⟩
    refine ⟨_, rfl, _, rfl, _, rfl, l, _, rfl, .inl hl, p, c, _, rfl, hp, by omega, fun r H' r1 r2 but pl => ?_⟩
    obtain ⟨n, rfl⟩ := Int.eq_ofNat_of_zero_le r1
    have hn : n < zs.length := by omega
    have hz : zs[n]? = some zs[n] := List.getElem?_eq_getElem hn
    exact ⟨l, _, _, zs[n], rfl, rfl, hl.kp (hp.kp but), atI_nat (j := n) hz, k _ H' (List.mem_of_getElem? hz) but pl⟩
theorem sc__law_words : FnScope ["_law_bag_here", "_law_many", "_law_most", "_law_taken", "_law_letters", "_law_words_here", "_law_k", "_law_size", "_law_word", "_law_shift", "_law_last", "_law_place"] ["_law_bag_here", "_law_many", "_law_most", "_law_taken"] (defScope s__law_words) := ⟨rfl, rfl, rfl, by decide +kernel, rfl, by decide +kernel, by decide +kernel⟩
theorem ok_words {f : Addr} {fd : FuncData} (F : Fun K "_law_words" "_law_words" s__law_words f fd) (T : Txt mg) (c__law_draw : Cal P w K mg base CX0 1 "_law_draw" ["_law_bag_here", "_law_many"] spD) : FnOk P w K mg base CX0 2 f fd ["_law_bag_here", "_law_many", "_law_most", "_law_taken"] (spWords K) := by
  refine F.ok sc__law_words (fun vs H Q E h => ?_) (fun cdv A outer s H vs Q E hr h => ?_)
  · obtain ⟨p, pc, t, n, most, ts, rfl, _⟩ := h
    rfl
  · obtain ⟨p, pc, t, n, most, ts, rfl, hp, ht, hm1, hm8, hn, k⟩ := h
    refine ⟨_, (pss_cons (ps_set (i := 4) sc__law_words.nd rfl (.inr rfl) pe_str)
      (pss_cons (ps_set (i := 5) sc__law_words.nd rfl (.inl rfl) (pe_lst pa_nil))
      (pss_cons (ps_for PassesOwn.never rfl (pi_range1 (by rfl) T.b_range (pa_cons (pv 1) pa_nil)) (pg_name (i := 6) sc__law_words.nd rfl (.inl rfl)) (pss_cons (ps_set (i := 7) sc__law_words.nd rfl (.inl rfl) (pe_op op_add pe_int (pe_cal c__law_draw (hr.mono (by omega)) rfl pass0 (pa_cons (pv 0) (pa_cons (pv 2) pa_nil)))))
      (pss_cons (ps_set (i := 8) sc__law_words.nd rfl (.inl rfl) (pe_join pe_str (pe_lc (own := [("_law_place", 11)]) (g := gName 11) (tt := tYes) rfl sc__law_words.nd (pi_range1 (by rfl) T.b_range (pa_cons (pv 7) pa_nil)) (blkOk_by (own := [("_law_place", 11)]) (N := ["_law_bag_here", "_law_many", "_law_most", "_law_taken", "_law_letters", "_law_words_here", "_law_k", "_law_size", "_law_word", "_law_shift", "_law_last", "_law_place"]) (sc := defScope s__law_words) (by decide +kernel)) (fun _ _ _ _ _ => (pg_name (i := 11) sc__law_words.nd rfl (.inl rfl))) (fun _ _ _ _ _ => pts_nil) (fun _ _ _ _ _ => (pe_ix ix_str (pv 4) (pe_cal c__law_draw (hr.mono (by omega)) rfl pass0 (pa_cons (pv 0) (pa_cons pe_int pa_nil))) (fun _ _ => rfl))))))
      (pss_cons (ps_for PassesOwn.never rfl (pi_range1 (by rfl) T.b_range (pa_cons pe_int pa_nil)) (pg_name (i := 9) sc__law_words.nd rfl (.inl rfl)) (pss_one (ps_if (PW.pt (pw_or (pt_cmpR op_in_seq (pv 8) (pv 3) (by rfl)) (pw_or1 (pt_cmpR op_in_seq (pv 8) (pv 5) (by rfl))))) (pss_cons (ps_set (i := 10) sc__law_words.nd rfl (.inl rfl) (pe_m1 PySem.F.slot_str_find PySem.F.type_str_find mt_find (pv 4) (pe_slice sl_str (pv 8) (po_some (pe_op op_sub (pe_callB call_len_str (by rfl) T.b_len (by decide +kernel) (pa_cons (pv 8) pa_nil)) pe_int)) po_none)))
      (pss_one (ps_set (i := 8) sc__law_words.nd rfl (.inl rfl) (pe_op op_add_str (pe_slice sl_str (pv 8) po_none (po_some (pe_op op_sub (pe_callB call_len_str (by rfl) T.b_len (by decide +kernel) (pa_cons (pv 8) pa_nil)) pe_int))) (pe_ix ix_str (pv 4) (pe_op op_modN (pe_op op_add (pv 10) pe_int) pe_int) (fun _ _ => rfl)))))) pss_nil)))
      (pss_one (ps_expr (pe_bm PySem.F.plainAttrs_list PySem.F.slot_list_append PySem.F.type_list_append mt_append (pv 5) (pa_cons (pv 8) pa_nil))))))))
      (pss_one (ps_ret (pv 5)))))), ?_⟩
    refine ⟨sz_lit (by decide), fun l hl => ?_⟩
    have s1 : Same H (upd H l (.lst [])) := Same.new hl
    have l1 : upd H l (.lst []) l = some (.lst (([] : List Str).map V.str)) := upd_same
    revert s1 l1
    generalize upd H l (.lst []) = H1
    intro s1 l1
    refine ⟨_, rfl, n, rfl, by omega, by omega, ?_⟩
    rw [Int.toNat_natCast]
    refine for_it (walk_range (lo := 0) (n := n)) (fun i σ H' => (∃ y6 y7 y8 y9 y10 : Option V, σ = [some (.ref p), some (.int n), some (.int most), some (.ref t), some (.str letters), some (.ref l), y6, y7, y8, y9, y10, none]) ∧ ∃ zs : List Str, H' l = some (.lst (zs.map V.str)) ∧ zs.length = i ∧ zs.Nodup ∧ (∀ z ∈ zs, isWordS z = true ∧ z ∉ ts ∧ z.length ≤ most) ∧ But p H H' ∧ Pl H' p pc) ⟨⟨_, _, _, _, _, rfl⟩, [], l1, rfl, List.nodup_nil, fun z hz => (List.not_mem_nil hz).elim, Same.but s1, hp.mono s1⟩ (fun _ _ _ _ _ => trivial) ?_ ?_
    · rintro i x σ H3 H2 hi ⟨⟨y6, y7, y8, y9, y10, rfl⟩, zs, hl2, hzl, hnd, hz, b2, pl2⟩ ⟨rfl, rfl⟩
      refine ⟨_, rfl, _, rfl, p, pc, most, rfl, pl2, by omega, fun r H3 r1 r2 b3 pl3 => ⟨_, _, rfl, rfl, ?_⟩⟩
      obtain ⟨sz, hsz⟩ : ∃ sz : Nat, (1 : Int) + r = sz := ⟨(1 + r).toNat, (Int.toNat_of_nonneg (by omega)).symm⟩
      have hs1 : 1 ≤ sz := by omega
      have hs2 : sz ≤ most := by omega
      show tSeq _ _ _ (List.set _ 7 (some (V.int (1 + r)))) H3
      rw [hsz]
      refine ⟨⟨_, rfl⟩, _, rfl, sz, rfl, by omega, by omega, fun D hD => ?_⟩
      rw [Int.toNat_natCast]
      have nlp : l ≠ p := fun e => by obtain ⟨_, h⟩ := pl2.at; rw [e, h] at hl2; cases hl2
      refine lc_it (walk_range (lo := 0) (n := sz)) (fun i H' => ∃ cs : List Nat, H' D = some (.lst ((cs.map fun c => (⟨#[c]⟩ : Str)).map V.str)) ∧ cs.length = i ∧ (∀ x ∈ cs, 97 ≤ x ∧ x < 123) ∧ But p H3 H' ∧ Pl H' p pc) ⟨[], upd_same, rfl, fun x hx => (List.not_mem_nil hx).elim, Same.but (Same.new hD), pl3.mono (Same.new hD)⟩ (fun _ _ _ _ => trivial) ?_ ?_
      · rintro i' x H5 H4 hi' ⟨cs, hD4, hcl, hcs, b4, pl4⟩ ⟨rfl, rfl⟩
        refine ⟨rfl, _, rfl, _, rfl, p, pc, 26, rfl, pl4, by decide, fun r H5 r1 r2 b5 pl5 => ?_⟩
        obtain ⟨j, rfl⟩ := Int.eq_ofNat_of_zero_le r1
        have hj : j < 26 := by omega
        have hDp : D ≠ p := fun e => by obtain ⟨_, h⟩ := pl4.at; rw [e, h] at hD4; cases hD4
        have hD5 := b5 _ _ hD4 hDp
        refine ⟨letters, j, 97 + j, rfl, rfl, sz_lit (by decide +kernel), atI_nat (letter_at j hj), _, hD5, lt_sz (by rw [List.length_map, List.length_map]; omega), cs ++ [97 + j], ?_, ?_, ?_, ?_, ?_⟩
        · rw [upd_same, List.map_append, List.map_append]
          rfl
        · rw [List.length_append, hcl]
          rfl
        · intro x hx
          rcases List.mem_append.mp hx with hx | hx
          · exact hcs x hx
          · rw [List.mem_singleton.mp hx]
            omega
        · intro b o hb n
          rw [L2.upd_ne (ne_of_none hb hD)]
          exact b5 b o (b4 b o hb n) n
        · exact pl5.put hDp (pl3.new hD).2
      · rintro H4 ⟨cs, hD4, hcl, hcs, b4, pl4⟩
        refine ⟨"", D, cs.map fun c => (⟨#[c]⟩ : Str), rfl, rfl, .inl (.inl (.inl hD4)), ?_, ?_⟩
        · rw [List.map_map, List.length_map]
          have : ∀ l : List Nat, (l.map ((fun x : Str => x.length) ∘ fun c => (⟨#[c]⟩ : Str))).sum = l.length := by
            intro l
            induction l with
            | nil => rfl
            | cons a r ih =>
              rw [List.map_cons, List.sum_cons, ih]
              show 1 + r.length = r.length + 1
              omega
          rw [this]
          show cs.length + cs.length * 0 ≤ 16777216
          omega
        rw [join_letters]
        obtain ⟨pre, c, e, hc, hpre, hpl⟩ := split_last (cs := cs) (by omega) hcs
        rw [e]
        have b24 : But p H H4 := b2.trans (b3.trans b4)
        have ht4 : SqL K H4 t (ts.map V.str) := ht.kp (hp.kp b24)
        have hl4 : H4 l = some (.lst (zs.map V.str)) := b4 _ _ (b3 _ _ hl2 nlp) nlp
        refine ⟨26, rfl, by omega, by omega, ?_⟩
        rw [show (26 : Int).toNat = 26 from rfl]
        refine for_it (walk_range (lo := 0) (n := 26)) (fun j σ H' => (∃ (z : Str) (y9 y10 : Option V), σ = [some (.ref p), some (.int n), some (.int most), some (.ref t), some (.str letters), some (.ref l), some (.int (0 + (i : Int))), some (.int sz), some (.str z), y9, y10, none] ∧ ShI pre c (ts ++ zs) j z) ∧ H' = H4) ⟨⟨_, _, _, rfl, ShI.start hc⟩, rfl⟩ (fun _ _ _ _ _ => trivial) ?_ ?_
        · rintro j x σ H6 H5 hj ⟨⟨z, y9, y10, rfl, hsh⟩, rfl⟩ ⟨rfl, rfl⟩
          refine ⟨_, rfl, _, rfl, t, _, rfl, .inl ht4, rfl, flat_strsK ts, _, rfl, ?_⟩
          rw [if_neg Bool.false_ne_true, inV_strs]
          have body : z ∈ ts ++ zs → ∃ d, d < 26 ∧ z = wd pre d ∧ ShI pre c (ts ++ zs) (j + 1) (wd pre ((d + 1) % 26)) := fun hz => hsh.go hz
          have stay : z ∉ ts ++ zs → ShI pre c (ts ++ zs) (j + 1) z := fun hz => hsh.stay hz
          have hlen : ∀ d, (wd pre d).length ≤ sizeLine := fun d => by rw [wd_len]; exact sz_lit (by omega)
          have hlast : ∀ d, ((wd pre d).length : Int) - 1 = (pre.length : Int) := fun d => by rw [wd_len]; omega
          have hmod : ∀ d : Nat, ((d : Int) + 1).fmod 26 = (((d + 1) % 26 : Nat) : Int) := fun d => by
            rw [Int.fmod_eq_emod_of_nonneg _ (by decide)]
            omega
          have hcat : ∀ d e : Nat, (cutS (wd pre d) none (some ((pre.length : Nat) : Int))).length + (⟨#[97 + e]⟩ : Str).length ≤ sizeLine := fun d e => by
            have h1 : (cutS (wd pre d) none (some ((pre.length : Nat) : Int)) ++ (⟨#[97 + e]⟩ : Str)).length = pre.length + 1 := by rw [wd_init, wd_len]
            have h2 : (cutS (wd pre d) none (some ((pre.length : Nat) : Int)) ++ (⟨#[97 + e]⟩ : Str)).length = (cutS (wd pre d) none (some ((pre.length : Nat) : Int))).length + (⟨#[97 + e]⟩ : Str).length := Array.size_append
            rw [← h2, h1]
            exact sz_lit (by omega)
          by_cases e1 : z ∈ ts
          · refine ifT (decide_eq_true e1) ?_
            obtain ⟨d, hd, rfl, hnx⟩ := body (List.mem_append_left _ e1)
            refine ifT rfl ?_
            refine ⟨_, rfl, ⟨_, rfl⟩, _, rfl, _, rfl, _, rfl, hlen d, _, _, rfl, rfl, (pre.length : Int), congrArg V.int (hlast d), _, rfl, hlen d, _, _, rfl, rfl, ?_⟩
            rw [wd_last, find_letter d hd]
            refine ⟨_, rfl, _, rfl, _, rfl, hlen d, _, _, rfl, rfl, (pre.length : Int), congrArg V.int (hlast d), _, rfl, hlen d, _, rfl, _, rfl, _, _, rfl, rfl, _, _, rfl, rfl, (by show (26 : Int) ≠ 0; decide), letters, (((d + 1) % 26 : Nat) : Int), 97 + (d + 1) % 26, rfl, congrArg V.int (hmod d), sz_lit (by decide +kernel), atI_nat (letter_at _ (Nat.mod_lt _ (by decide))), _, _, rfl, rfl, hcat d _, ?_⟩
            rw [wd_init]
            exact ⟨⟨_, _, _, rfl, hnx⟩, rfl⟩
          · refine ifF (decide_eq_false e1) ?_
            refine ⟨_, rfl, _, rfl, l, _, rfl, .inl (.inl (.inl hl4)), rfl, flat_strsK zs, _, rfl, ?_⟩
            rw [if_neg Bool.false_ne_true, inV_strs]
            by_cases e2 : z ∈ zs
            · refine ifT (decide_eq_true e2) ?_
              obtain ⟨d, hd, rfl, hnx⟩ := body (List.mem_append_right _ e2)
              refine ⟨_, rfl, ⟨_, rfl⟩, _, rfl, _, rfl, _, rfl, hlen d, _, _, rfl, rfl, (pre.length : Int), congrArg V.int (hlast d), _, rfl, hlen d, _, _, rfl, rfl, ?_⟩
              rw [wd_last, find_letter d hd]
              refine ⟨_, rfl, _, rfl, _, rfl, hlen d, _, _, rfl, rfl, (pre.length : Int), congrArg V.int (hlast d), _, rfl, hlen d, _, rfl, _, rfl, _, _, rfl, rfl, _, _, rfl, rfl, (by show (26 : Int) ≠ 0; decide), letters, (((d + 1) % 26 : Nat) : Int), 97 + (d + 1) % 26, rfl, congrArg V.int (hmod d), sz_lit (by decide +kernel), atI_nat (letter_at _ (Nat.mod_lt _ (by decide))), _, _, rfl, rfl, hcat d _, ?_⟩
              rw [wd_init]
              exact ⟨⟨_, _, _, rfl, hnx⟩, rfl⟩
            · refine ifF (decide_eq_false e2) ⟨⟨_, _, _, rfl, stay fun h => ?_⟩, rfl⟩
              rcases List.mem_append.mp h with h | h
              · exact e1 h
              · exact e2 h
        · rintro σ H5 ⟨⟨z, y9, y10, rfl, hsh⟩, rfl⟩
          obtain ⟨hfree, d, hd, rfl⟩ := hsh.done (by rw [List.length_append]; omega)
          have hw := wd_word (c := d) hpre hd (by omega)
          refine ⟨_, rfl, .inl ⟨rfl, _, .inl (.inl hl4)⟩, _, rfl, l, _, _, rfl, rfl, hl4, lt_sz (by rw [List.length_map]; omega), ⟨_, _, _, _, _, rfl⟩, zs ++ [wd pre d], ?_, ?_, ?_, ?_, ?_, ?_⟩
          · rw [upd_same, List.map_append]
            rfl
          · rw [List.length_append, hzl]
            rfl
          · refine List.nodup_append.mpr ⟨hnd, by simp, fun a ha b hb e => hfree (List.mem_append_right _ ?_)⟩
            rw [List.mem_singleton.mp hb] at e
            rw [← e]
            exact ha
          · intro z hz'
            rcases List.mem_append.mp hz' with h | h
            · exact hz z h
            · rw [List.mem_singleton.mp h]
              exact ⟨hw, fun h => hfree (List.mem_append_left _ h), by rw [wd_len]; omega⟩
          · intro b o hb n
            rw [L2.upd_ne (ne_of_none hb hl)]
            exact b24 b o hb n
          · exact pl4.put nlp (hp.new hl).2
    · rintro σ H2 ⟨⟨y6, y7, y8, y9, y10, rfl⟩, zs, hl2, hzl, hnd, hz, b2, pl2⟩
      exact ⟨_, rfl, k l zs H2 hl b2 pl2 hl2 hzl hnd hz⟩
end
end Op
set_option pp.maxSteps 500
namespace Op
open PySem L2 PyProof.Rows
/-! ### displays of data -/
section
variable {K : PySem.W.Frag} {σ : L2.St}
def Lays (K : PySem.W.Frag) (σ : L2.St) (te : TE) (P : PyData → Prop) : Prop := ∀ (H : Hp) (Q : VK), (∀ v d H', P d → Same H H' → Dp K H' v d → Q v H') → te σ H Q
def LaysA (K : PySem.W.Frag) (σ : L2.St) (ta : TA) (P : List PyData → Prop) : Prop := ∀ (H : Hp) (Q : List V → Hp → Prop), (∀ vs ds H', P ds → Same H H' → DpAll K H' vs ds → Q vs H') → ta σ H Q
theorem lay_str {x : Str} : Lays K σ (tC (.str x)) (· = .str x) := fun H Q k => k _ _ H rfl (Same.refl _) (.str x)
theorem lay_int {x : Int} : Lays K σ (tC (.int x)) (· = .int x) := fun H Q k => k _ _ H rfl (Same.refl _) (.int x)
theorem lay_bl {x : Bool} : Lays K σ (tC (.bl x)) (· = .bool x) := fun H Q k => k _ _ H rfl (Same.refl _) (.bl x)
theorem lay_non : Lays K σ (tC .non) (· = .none) := fun H Q k => k _ _ H rfl (Same.refl _) .non
theorem layA_nil : LaysA K σ tNil (· = []) := fun H Q k => k _ _ H rfl (Same.refl _) .nil
theorem layA_cons {te : TE} {ta : TA} {d : PyData} {ds : List PyData} (h : Lays K σ te (· = d)) (t : LaysA K σ ta (· = ds)) : LaysA K σ (tCons te ta) (· = d :: ds) := fun H Q k =>
  h H _ fun v d' H1 e s1 hv => t H1 _ fun vs ds' H2 e2 s2 hvs => k _ _ H2 (by rw [e, e2]) (s1.trans s2) (.cons (hv.mono s2) hvs)
theorem lay_tup {ta : TA} {ds : List PyData} (h : LaysA K σ ta (· = ds)) (hl : ds.length ≤ 1000) : Lays K σ (tTup ta) (· = .tuple ds) := fun H Q k =>
  h H _ fun vs ds' H1 e s1 hvs => ⟨sz_lit (by subst e; rw [hvs.len]; omega), fun p hp => k _ _ _ (by rw [e]) (s1.trans (Same.new hp)) (.tup (.inl (.inl upd_same)) (hvs.mono (Same.new hp)))⟩
theorem lay_lst {ta : TA} {ds : List PyData} (h : LaysA K σ ta (· = ds)) (hl : ds.length ≤ 1000) : Lays K σ (tLst ta) (· = .list ds) := fun H Q k =>
  h H _ fun vs ds' H1 e s1 hvs => ⟨sz_lit (by subst e; rw [hvs.len]; omega), fun p hp => k _ _ _ (by rw [e]) (s1.trans (Same.new hp)) (.lst (.inl (.inl upd_same)) (hvs.mono (Same.new hp)))⟩
def Menu (n : Nat) (P : PyData → Prop) (ds : List PyData) : Prop := ds.length = n ∧ ∀ d ∈ ds, P d
theorem menu_nil {P : PyData → Prop} : LaysA K σ tNil (Menu 0 P) := fun H Q k => k _ [] H ⟨rfl, fun _ h => (List.not_mem_nil h).elim⟩ (Same.refl _) .nil
theorem menu_cons {te : TE} {ta : TA} {P R : PyData → Prop} {n : Nat} (h : Lays K σ te R) (hR : ∀ d, R d → P d) (t : LaysA K σ ta (Menu n P)) : LaysA K σ (tCons te ta) (Menu (n + 1) P) := fun H Q k =>
  h H _ fun v d' H1 e s1 hv => t H1 _ fun vs ds' H2 e2 s2 hvs => k _ (d' :: ds') H2 ⟨by rw [List.length_cons, e2.1], fun x hx => by
    rcases List.mem_cons.mp hx with rfl | hx
    · exact hR _ e
    · exact e2.2 x hx⟩ (s1.trans s2) (.cons (hv.mono s2) hvs)
theorem menu_of {ta : TA} {ds : List PyData} (h : LaysA K σ ta (· = ds)) : LaysA K σ ta (Menu ds.length (· ∈ ds)) := fun H Q k => h H _ fun vs ds' H1 e s1 hvs => k vs ds' H1 (by subst e; exact ⟨rfl, fun _ h => h⟩) s1 hvs
theorem menu_use {n : Nat} {ta : TA} {P : PyData → Prop} {H : Hp} {Q : VK} (h : LaysA K σ ta (Menu n P)) (hn : n ≤ 1000 := by decide) (k : ∀ D vs ds H', Menu n P ds → Same H H' → DpAll K H' vs ds → H' D = some (.lst vs) → Q (.ref D) H') : tLst ta σ H Q :=
  h H _ fun vs ds H1 hp s1 hd => ⟨sz_lit (by rw [hd.len, hp.1]; omega), fun D hD => k D vs ds _ hp (s1.trans (Same.new hD)) (hd.mono (Same.new hD)) upd_same⟩
theorem one_menu {p c : Addr} {i n : Nat} {ta : TA} {P : PyData → Prop} {H : Hp} {Q : VK} {E : XK} (hs : σ[i]? = some (some (.ref p))) (pl : Pl H p c) (h : LaysA K σ ta (Menu n P)) (h1 : 1 ≤ n) (h2 : n ≤ 1000) (k : ∀ v d H', P d → But p H H' → Pl H' p c → Dp K H' v d → Q v H') :
    tCall (spOne K) [] E (tCons (tVar i) (tCons (tLst ta) tNil)) σ H Q := by
  refine ⟨_, hs, h H _ fun vs ds H1 hp s1 hd => ⟨sz_lit (by rw [hd.len, hp.1]; omega), fun D hD => ?_⟩⟩
  have s2 := Same.new (o := .lst vs) hD
  refine ⟨p, c, D, vs, rfl, (pl.mono s1).mono s2, .inl (.inl upd_same), by rw [hd.len, hp.1]; exact h1, by rw [hd.len, hp.1]; exact h2, fun z H' hz b pl' => ?_⟩
  obtain ⟨j, hj⟩ := List.getElem?_of_mem hz
  obtain ⟨d, hd1, hd2⟩ := hd.get hj
  exact k z d H' (hp.2 d (List.mem_of_getElem? hd1)) ((Same.but (s1.trans s2)).trans b) pl' ((hd2.mono s2).kp (((pl.mono s1).mono s2).kp b))
end
section
variable {K : PySem.W.Frag} {σ : L2.St}
theorem lay_varS {j : Nat} {x : Str} (h : σ[j]? = some (some (.str x))) : Lays K σ (tVar j) (· = .str x) := fun H Q k => ⟨_, h, k _ _ H rfl (Same.refl _) (.str x)⟩
theorem lay_varI {j : Nat} {x : Int} (h : σ[j]? = some (some (.int x))) : Lays K σ (tVar j) (· = .int x) := fun H Q k => ⟨_, h, k _ _ H rfl (Same.refl _) (.int x)⟩
/-- [..][n] -/
theorem rd_pick {ta : TA} {tb : TE} {ds : List PyData} {n : Nat} {H : Hp} {Q : VK} (h : LaysA K σ ta (· = ds)) (hl : ds.length ≤ 1000) (hn : n < ds.length) (hb : ∀ H1 (Q' : VK), Q' (.int (n : Int)) H1 → tb σ H1 Q') (k : ∀ v d H', ds[n]? = some d → Same H H' → Dp K H' v d → Q v H') : tOp (rIxL K) (tLst ta) tb σ H Q :=
  h H _ fun vs ds' H1 e s1 hvs => ⟨sz_lit (by subst e; rw [hvs.len]; omega), fun p hp => hb _ _ (by
    subst e
    have hl := hvs.len
    have hv : vs[n]? = some (vs[n]'(by omega)) := List.getElem?_eq_getElem (by omega)
    obtain ⟨d, hd1, hd2⟩ := hvs.get hv
    exact ⟨p, vs, _, _, rfl, rfl, .inl (.inl upd_same), atI_nat hv, k _ d _ hd1 (s1.trans (Same.new hp)) (hd2.mono (Same.new hp))⟩)⟩
/-- words(bag, 1, most, [])[0] -/
theorem rd_w1 {E : XK} {H : Hp} {Q : VK} {p c : Addr} {i most : Nat} {m : Int} (hs : σ[i]? = some (some (.ref p))) (pl : Pl H p c) (hm : m = most) (h1 : 1 ≤ most) (h8 : most ≤ 8) (k : ∀ z H', isWordS z = true → But p H H' → Pl H' p c → Q (.str z) H') :
    tOp (rIxL K) (tCall (spWords K) [] E (tCons (tVar i) (tCons (tC (.int 1)) (tCons (tC (.int m)) (tCons (tLst tNil) tNil))))) (tC (.int 0)) σ H Q := by
  subst hm
  refine ⟨_, hs, sz_lit (by decide), fun t0 ht0 => ⟨p, c, t0, 1, most, [], rfl, pl.mono (Same.new ht0), .inl (.inl upd_same), h1, h8, by decide, fun l zs H' hl b pl' hl' hzl _ hz => ?_⟩⟩
  have hz0 : zs[0]? = some (zs[0]'(by omega)) := List.getElem?_eq_getElem (by omega)
  refine ⟨l, _, _, .str (zs[0]'(by omega)), rfl, rfl, .inl (.inl hl'), atI_nat (j := 0) (by rw [List.getElem?_map, hz0]; rfl), k _ H' (hz _ (List.mem_of_getElem? hz0)).1 ((Same.but (Same.new ht0)).trans b) pl'⟩
end
end Op
set_option pp.maxSteps 500
namespace Op
open PySem L2 PyProof.Rows
theorem But.updN {x a : Addr} {H H' : Hp} {o : HO} (b : But x H H') (h : H a = none) : But x H (L2.upd H' a o) := fun c u e n => by rw [L2.upd_ne (ne_of_none e h)]; exact b c u e n
structure LH (K : PySem.W.Frag) (H H' : Hp) (p c l rl kl : Addr) (ts : List Tk) (run : List Nat) (kinds : List Str) : Prop where
  q : Pl H p c
  b : But p H H'
  pl : Pl H' p c
  ex : ∃ us, H' l = some (.lst us) ∧ Tks K H' us ts
  hr : H' rl = some (.lst (natsV run))
  hk : H' kl = some (.lst (kinds.map V.str))
  z1 : H l = none
  z2 : H rl = none
  z3 : H kl = none
  n1 : l ≠ rl
  n2 : l ≠ kl
  n3 : rl ≠ kl
section
variable {K : PySem.W.Frag} {H H' H'' : Hp} {p c l rl kl : Addr} {ts : List Tk} {run : List Nat} {kinds : List Str}
theorem LH.but (h : LH K H H' p c l rl kl ts run kinds) (b : But p H' H'') (pl : Pl H'' p c) : LH K H H'' p c l rl kl ts run kinds := by
  obtain ⟨us, e1, e2⟩ := h.ex
  exact ⟨h.q, h.b.trans b, pl, ⟨us, b _ _ e1 (h.q.new h.z1).1, DpAll.kp (h.pl.kp b) e2⟩, b _ _ h.hr (h.q.new h.z2).1, b _ _ h.hk (h.q.new h.z3).1, h.z1, h.z2, h.z3, h.n1, h.n2, h.n3⟩
theorem LH.same (h : LH K H H' p c l rl kl ts run kinds) (s : Same H' H'') : LH K H H'' p c l rl kl ts run kinds := h.but (Same.but s) (h.pl.mono s)
theorem LH.setL {us : List V} {v : V} {t : Tk} (h : LH K H H' p c l rl kl ts run kinds) (hl : H' l = some (.lst us)) (hd : Dp K H' v t.d) : LH K H (upd H' l (.lst (us ++ [v]))) p c l rl kl (ts ++ [t]) run kinds := by
  obtain ⟨us', e1, e2⟩ := h.ex
  obtain rfl : us = us' := by
    rw [hl] at e1
    injection e1 with e1
    injection e1
  exact ⟨h.q, h.b.updN h.z1, h.pl.put (h.q.new h.z1).1 (h.q.new h.z1).2, ⟨_, upd_same, Tks.updL hl (Tks.app e2 (Tks.one hd))⟩, by rw [L2.upd_ne (Ne.symm h.n1)]; exact h.hr, by rw [L2.upd_ne (Ne.symm h.n2)]; exact h.hk, h.z1, h.z2, h.z3, h.n1, h.n2, h.n3⟩
theorem LH.setR {run' : List Nat} (h : LH K H H' p c l rl kl ts run kinds) : LH K H (upd H' rl (.lst (natsV run'))) p c l rl kl ts run' kinds := by
  obtain ⟨us, e1, e2⟩ := h.ex
  exact ⟨h.q, h.b.updN h.z2, h.pl.put (h.q.new h.z2).1 (h.q.new h.z2).2, ⟨us, by rw [L2.upd_ne h.n1]; exact e1, Tks.updL h.hr e2⟩, upd_same, by rw [L2.upd_ne (Ne.symm h.n3)]; exact h.hk, h.z1, h.z2, h.z3, h.n1, h.n2, h.n3⟩
theorem LH.setK {kinds' : List Str} (h : LH K H H' p c l rl kl ts run kinds) : LH K H (upd H' kl (.lst (kinds'.map V.str))) p c l rl kl ts run kinds' := by
  obtain ⟨us, e1, e2⟩ := h.ex
  exact ⟨h.q, h.b.updN h.z3, h.pl.put (h.q.new h.z3).1 (h.q.new h.z3).2, ⟨us, by rw [L2.upd_ne h.n2]; exact e1, Tks.updL h.hk e2⟩, by rw [L2.upd_ne h.n3]; exact h.hr, upd_same, h.z1, h.z2, h.z3, h.n1, h.n2, h.n3⟩
theorem LH.len (h : LH K H H' p c l rl kl ts run kinds) {us : List V} (hl : H' l = some (.lst us)) : us.length = ts.length := by
  obtain ⟨us', e1, e2⟩ := h.ex
  rw [hl] at e1
  injection e1 with e1
  injection e1 with e1
  rw [e1]
  exact e2.len
end
theorem ifE {c : Bool} {A F : Prop} (h : F) (k : c = true → F → A) : (if c then A else F) := by
  cases c
  · exact h
  · exact k rfl h
theorem strV_snoc (zs : List Str) (z : Str) : zs.map V.str ++ [.str z] = (zs ++ [z]).map V.str := by rw [List.map_append]; rfl
section
variable {P : Program} {w : World} {K : PySem.W.Frag} {mg : Str → Option Value} {base : Heap} {pF pO pN pL CH CA : Addr}
def spLHist (K : PySem.W.Frag) : Sp := fun vs H Q _ => ∃ (p c : Addr), vs = [.ref p] ∧ Pl H p c ∧ ∀ l us ts H', H l = none → But p H H' → Pl H' p c → H' l = some (.lst us) → Tks K H' us ts → (∀ t ∈ ts, Okt t) → ts.length ≤ 70 → chkH ts = none → Q (.ref l) H'
theorem sc__law_history : FnScope ["_law_bag_here", "_law_history_here", "_law_running", "_law_kinds", "_law_k", "_law_way", "_law_number", "_law_word"] ["_law_bag_here"] (defScope s__law_history) := ⟨rfl, rfl, rfl, by decide +kernel, rfl, by decide +kernel, by decide +kernel⟩
theorem ok_lhist {f : Addr} {fd : FuncData} (F : Fun K "_law_history" "_law_history" s__law_history f fd) (T : Txt mg) (c__law_draw : Cal P w K mg base CX0 1 "_law_draw" ["_law_bag_here", "_law_many"] spD) (c__law_one : Cal P w K mg base CX0 2 "_law_one" ["_law_bag_here", "_law_items"] (spOne K)) (c__law_words : Cal P w K mg base CX0 2 "_law_words" ["_law_bag_here", "_law_many", "_law_most", "_law_taken"] (spWords K)) : FnOk P w K mg base CX0 3 f fd ["_law_bag_here"] (spLHist K) := by
  refine F.ok sc__law_history (fun vs H Q E h => ?_) (fun cdv A outer s H vs Q E hr h => ?_)
  · obtain ⟨p, c, rfl, _⟩ := h
    rfl
  · obtain ⟨p, c, rfl, hp, k⟩ := h
    refine ⟨_, (pss_cons (ps_set (i := 1) sc__law_history.nd rfl (.inl rfl) (pe_lst (pa_cons (pe_tup (pa_cons pe_str (pa_cons (pe_ix ix_list (pe_cal c__law_words (hr.mono (by omega)) rfl pass0 (pa_cons (pv 0) (pa_cons pe_int (pa_cons pe_int (pa_cons (pe_lst pa_nil) pa_nil))))) pe_int (fun _ _ => rfl)) pa_nil))) pa_nil)))
      (pss_cons (ps_set (i := 2) sc__law_history.nd rfl (.inl rfl) (pe_lst pa_nil))
      (pss_cons (ps_set (i := 3) sc__law_history.nd rfl (.inl rfl) (pe_lst pa_nil))
      (pss_cons (ps_for PassesOwn.never rfl (pi_range1 (by rfl) T.b_range (pa_cons (pe_cal c__law_draw (hr.mono (by omega)) rfl pass0 (pa_cons (pv 0) (pa_cons pe_int pa_nil))) pa_nil)) (pg_name (i := 4) sc__law_history.nd rfl (.inl rfl)) (pss_cons (ps_set (i := 5) sc__law_history.nd rfl (.inl rfl) (pe_cal c__law_draw (hr.mono (by omega)) rfl pass0 (pa_cons (pv 0) (pa_cons pe_int pa_nil))))
      (pss_cons (ps_set (i := 6) sc__law_history.nd rfl (.inl rfl) (pe_un un_neg pe_int))
      (Evl.pss_cut (ps_if (pt_cmpR op_gt (pe_callB call_len_seq (by rfl) T.b_len (by decide +kernel) (pa_cons (pv 2) pa_nil)) pe_int (nomark _)) (pss_one (ps_set (i := 6) sc__law_history.nd rfl (.inl rfl) (pe_cal c__law_one (hr.mono (by omega)) rfl pass0 (pa_cons (pv 0) (pa_cons (pv 2) pa_nil))))) pss_nil)
      (pss_cons (ps_set (i := 7) sc__law_history.nd rfl (.inl rfl) (pe_ix ix_list (pe_cal c__law_words (hr.mono (by omega)) rfl pass0 (pa_cons (pv 0) (pa_cons pe_int (pa_cons pe_int (pa_cons (pe_lst pa_nil) pa_nil))))) pe_int (fun _ _ => rfl)))
      (pss_one (ps_if (PW.pt (pw_and (pt_cmpR op_lt (pv 5) pe_int (nomark _)) (pw_and1 (pt_cmpR op_lt (pe_callB call_len_seq (by rfl) T.b_len (by decide +kernel) (pa_cons (pv 2) pa_nil)) pe_int (nomark _))))) (pss_cons (ps_expr (pe_bm PySem.F.plainAttrs_list PySem.F.slot_list_append PySem.F.type_list_append mt_append (pv 1) (pa_cons (pe_ix ix_list (pe_lst (pa_cons (pe_tup (pa_cons pe_str (pa_cons (pv 7) pa_nil))) (pa_cons (pe_tup (pa_cons pe_str pa_nil)) (pa_cons (pe_tup (pa_cons pe_str (pa_cons (pv 7) pa_nil))) pa_nil)))) (pv 5) (fun _ _ => rfl)) pa_nil)))
      (pss_cons (ps_expr (pe_bm PySem.F.plainAttrs_list PySem.F.slot_list_append PySem.F.type_list_append mt_append (pv 2) (pa_cons (pe_callB call_len_seq (by rfl) T.b_len (by decide +kernel) (pa_cons (pv 3) pa_nil)) pa_nil)))
      (pss_one (ps_expr (pe_bm PySem.F.plainAttrs_list PySem.F.slot_list_append PySem.F.type_list_append mt_append (pv 3) (pa_cons (pe_ix ix_list (pe_lst (pa_cons pe_str (pa_cons pe_str (pa_cons pe_str pa_nil)))) (pv 5) (fun _ _ => rfl)) pa_nil)))))) (pss_one (ps_if (PW.pt (pw_and (pt_cmpR op_lt (pv 5) pe_int (nomark _)) (pw_and1 (pt_cmpR op_ge (pv 6) pe_int (nomark _))))) (pss_cons (ps_expr (pe_bm PySem.F.plainAttrs_list PySem.F.slot_list_remove PySem.F.type_list_remove mt_remove (pv 2) (pa_cons (pv 6) pa_nil)))
      (pss_one (ps_if (pt_cmpR op_eq (pv 5) pe_int (nomark _)) (pss_one (ps_expr (pe_bm PySem.F.plainAttrs_list PySem.F.slot_list_append PySem.F.type_list_append mt_append (pv 1) (pa_cons (pe_tup (pa_cons pe_str (pa_cons (pv 6) pa_nil))) pa_nil)))) (pss_one (ps_expr (pe_bm PySem.F.plainAttrs_list PySem.F.slot_list_append PySem.F.type_list_append mt_append (pv 1) (pa_cons (pe_slice sl_tupA (pe_op op_catA (pe_tup (pa_cons (pe_ix ix_list (pv 3) (pv 6) (fun _ _ => rfl)) (pa_cons (pv 6) pa_nil))) (pe_tup (pa_cons (pv 7) pa_nil))) po_none (po_some (pe_op op_add pe_int (pe_callTy call_int1 (by rfl) T.b_int (by decide +kernel) (pa_cons (pe_cmpR op_eq (pe_ix ix_list (pv 3) (pv 6) (fun _ _ => rfl)) pe_str (nomark _)) pa_nil))))) pa_nil))))))) (pss_one (ps_expr (pe_bm PySem.F.plainAttrs_list PySem.F.slot_list_append PySem.F.type_list_append mt_append (pv 1) (pa_cons (pe_ix ix_list (pe_lst (pa_cons (pe_tup (pa_cons pe_str (pa_cons (pv 7) (pa_cons pe_str pa_nil)))) (pa_cons (pe_tup (pa_cons pe_str (pa_cons (pv 7) pa_nil))) (pa_cons (pe_tup (pa_cons pe_str (pa_cons (pv 7) pa_nil))) pa_nil)))) (pe_op op_modN (pv 5) pe_int) (fun _ _ => rfl)) pa_nil)))))))))))))
      (Evl.pss_cut (ps_if (pt_cmpR op_eq (pe_cal c__law_draw (hr.mono (by omega)) rfl pass0 (pa_cons (pv 0) (pa_cons pe_int pa_nil))) pe_int (nomark _)) (pss_one (ps_expr (pe_bm PySem.F.plainAttrs_list PySem.F.slot_list_append PySem.F.type_list_append mt_append (pv 1) (pa_cons (pe_tup (pa_cons pe_str (pa_cons pe_str pa_nil))) pa_nil)))) pss_nil)
      (pss_one (ps_ret (pv 1)))))))), ?_⟩
    refine rd_w1 rfl hp rfl (by decide) (by decide) fun z0 H1 hz0 b1 pl1 => ?_
    refine ⟨sz2 _ _, fun t1 ht1 => ⟨sz1 _, fun l hl => ?_⟩⟩
    have sa := Same.new (o := .tup [.str "begin", .str z0]) ht1
    have hl1 := new_of sa hl
    have sb := Same.new (o := .lst [.ref t1]) hl
    have zl : H l = none := by
      cases z : H l with
      | none => rfl
      | some o =>
        have hne : l ≠ p := fun e => by
          rw [e] at hl1
          obtain ⟨_, hk⟩ := pl1.at
          rw [hk] at hl1; cases hl1
        rw [b1 _ _ z hne] at hl1; cases hl1
    have d0 : Dp K (upd (upd H1 t1 (.tup [.str "begin", .str z0])) l (.lst [.ref t1])) (.ref t1) (Tk.d ⟨"begin", none, [z0]⟩) := tk_dp (.inl (.inl (sb _ _ upd_same)))
    have e0 : upd (upd H1 t1 (.tup [.str "begin", .str z0])) l (.lst [.ref t1]) l = some (.lst [.ref t1]) := upd_same
    have b2 : But p H (upd (upd H1 t1 (.tup [.str "begin", .str z0])) l (.lst [.ref t1])) := b1.trans (Same.but (sa.trans sb))
    have pl2 := pl1.mono (sa.trans sb)
    revert d0 e0 b2 pl2
    generalize upd (upd H1 t1 _) l _ = H2
    intro d0 e0 b2 pl2
    have old : ∀ {G : Hp} {a : Addr}, But p H G → Pl G p c → G a = none → H a = none := fun {G a} b pl h => by
      cases z : H a with
      | none => rfl
      | some o =>
        have hne : a ≠ p := fun e => by
          rw [e] at h
          obtain ⟨_, hk⟩ := pl.at
          rw [hk] at h; cases h
        rw [b _ _ z hne] at h; cases h
    refine ⟨sz_lit (by decide), fun rl hrl => ?_⟩
    have zr := old b2 pl2 hrl
    have n1 : l ≠ rl := fun e => by rw [← e, e0] at hrl; cases hrl
    have sc := Same.new (o := .lst []) hrl
    have f0 := at_new (o := .lst []) hrl
    have d1 := d0.mono sc
    have e1 := sc _ _ e0
    have b3 := b2.trans (Same.but sc)
    have pl3 := pl2.mono sc
    revert f0 d1 e1 b3 pl3
    generalize upd H2 rl _ = H3
    intro f0 d1 e1 b3 pl3
    refine ⟨sz_lit (by decide), fun kl hkl => ?_⟩
    have zk := old b3 pl3 hkl
    have n2 : l ≠ kl := fun e => by rw [← e, e1] at hkl; cases hkl
    have n3 : rl ≠ kl := fun e => by rw [← e, f0] at hkl; cases hkl
    have sd := Same.new (o := .lst []) hkl
    have g0 := at_new (o := .lst []) hkl
    have d2 := d1.mono sd
    have e2 := sd _ _ e1
    have f1 := sd _ _ f0
    have b4 := b3.trans (Same.but sd)
    have pl4 := pl3.mono sd
    revert g0 d2 e2 f1 b4 pl4
    generalize upd H3 kl _ = H4
    intro g0 d2 e2 f1 b4 pl4
    have L0 : LH K H H4 p c l rl kl [⟨"begin", none, [z0]⟩] [] [] := ⟨hp, b4, pl4, ⟨_, e2, Tks.one d2⟩, f1, g0, zl, zr, zk, n1, n2, n3⟩
    refine ⟨_, rfl, p, c, 60, rfl, pl4, by decide, fun r H5 r1 r2 b5 pl5 => ?_⟩
    obtain ⟨n, rfl⟩ := Int.eq_ofNat_of_zero_le r1
    have hn : n < 60 := by omega
    refine ⟨n, rfl, by omega, by omega, ?_⟩
    rw [Int.toNat_natCast]
    refine for_it (walk_range (lo := 0) (n := n)) (fun i σ H' => ∃ (ts : List Tk) (run : List Nat) (kinds : List Str) (y4 y5 y6 y7 : Option V), σ = [some (.ref p), some (.ref l), some (.ref rl), some (.ref kl), y4, y5, y6, y7] ∧ LH K H H' p c l rl kl ts run kinds ∧ HI ts run kinds ∧ ts.length ≤ i + 1 ∧ kinds.length ≤ i ∧ run.length ≤ i)
      ⟨_, [], [], _, _, _, _, rfl, L0.but b5 pl5, HI.start hz0, Nat.le_refl _, Nat.le_refl _, Nat.le_refl _⟩ (fun _ _ _ _ _ => trivial) ?_ ?_
    · rintro i x σ H' H6 hi ⟨ts, run, kinds, y4, y5, y6, y7, rfl, L, hI, q1, q2, q3⟩ ⟨rfl, rfl⟩
      refine ⟨_, rfl, p, c, 9, rfl, L.pl, by decide, fun way H7 w1 w2 b7 pl7 => ?_⟩
      obtain ⟨wn, rfl⟩ := Int.eq_ofNat_of_zero_le w1
      have hwn : wn < 9 := by omega
      have L7 := L.but b7 pl7
      refine ⟨_, rfl, ?_⟩
      refine ⟨fun σ' H8 => ∃ nv : Int, σ' = [some (.ref p), some (.ref l), some (.ref rl), some (.ref kl), some (.int ((0 : Int) + (i : Nat))), some (.int (wn : Int)), some (.int nv), y7] ∧ (nv = -1 ∨ ∃ n ∈ run, nv = (n : Int)) ∧ LH K H H8 p c l rl kl ts run kinds, ?_, ?_⟩
      · refine ⟨_, rfl, rl, _, rfl, .inl (.inl (.inl L7.hr)), _, _, rfl, rfl, _, rfl, ?_⟩
        by_cases hr0 : run = []
        · subst hr0
          exact ifF rfl ⟨-1, rfl, .inl rfl, L7⟩
        · have hrl : 0 < run.length := List.length_pos_iff.mpr hr0
          refine ifT (decide_eq_true (by rw [natsV_len]; omega)) ⟨_, rfl, _, rfl, p, c, rl, natsV run, rfl, L7.pl, .inl (.inl L7.hr), by rw [natsV_len]; omega, by rw [natsV_len]; omega, fun z H8 hz b8 pl8 => ?_⟩
          obtain ⟨m, hm, rfl⟩ := List.mem_map.mp hz
          exact ⟨(m : Int), rfl, .inr ⟨m, hm, rfl⟩, L7.but b8 pl8⟩
      · rintro σ8 H8 ⟨nv, rfl, hnv, L8⟩
        refine rd_w1 rfl L8.pl rfl (by decide) (by decide) fun w H9 hw b9 pl9 => ?_
        have L9 := L8.but b9 pl9
        obtain ⟨us, e9, t9⟩ := L9.ex
        have hus := L9.len e9
        refine ⟨_, rfl, _, _, rfl, rfl, _, rfl, ?_⟩
        by_cases hA : wn < 3 ∧ run.length < 8
        · refine ifT (decide_eq_true (by omega)) ⟨_, rfl, rl, _, rfl, .inl (.inl (.inl L9.hr)), _, _, rfl, rfl, _, rfl, ifT (decide_eq_true (by rw [natsV_len]; omega)) ⟨_, rfl, .inl ⟨rfl, _, .inl (.inl e9)⟩, ?_⟩⟩
          obtain ⟨t, z, y, ht1, ht2, ht3, ht4, ht5⟩ : ∃ (t : Tk) (z y : Str), Okt t ∧ t.n = none ∧ ((t.k = "asked" ∧ z = "answer" ∧ y = "ask") ∨ (t.k = "set" ∧ z = "rang" ∧ y = "timer")) ∧ [PyData.tuple [.str "asked", .str w], .tuple [.str "set"], .tuple [.str "asked", .str w]][wn]? = some t.d ∧ [PyData.str "answer", .str "rang", .str "answer"][wn]? = some (.str z) := by
            have h3 : wn = 0 ∨ wn = 1 ∨ wn = 2 := by omega
            rcases h3 with rfl | rfl | rfl
            · exact ⟨_, _, _, (TkC.asked hw).ok, rfl, .inl ⟨rfl, rfl, rfl⟩, rfl, rfl⟩
            · exact ⟨_, _, _, TkC.set.ok, rfl, .inr ⟨rfl, rfl, rfl⟩, rfl, rfl⟩
            · exact ⟨_, _, _, (TkC.asked hw).ok, rfl, .inl ⟨rfl, rfl, rfl⟩, rfl, rfl⟩
          refine rd_pick (n := wn) (ds := [.tuple [.str "asked", .str w], .tuple [.str "set"], .tuple [.str "asked", .str w]]) (layA_cons (lay_tup (layA_cons lay_str (layA_cons (lay_varS rfl) layA_nil)) (Nat.le_of_ble_eq_true rfl)) (layA_cons (lay_tup (layA_cons lay_str layA_nil) (Nat.le_of_ble_eq_true rfl)) (layA_cons (lay_tup (layA_cons lay_str (layA_cons (lay_varS rfl) layA_nil)) (Nat.le_of_ble_eq_true rfl)) layA_nil))) (Nat.le_of_ble_eq_true rfl) (by show wn < 3; omega) (fun H1 Q' q => ⟨_, rfl, q⟩) fun v d H10 hd s10 dv => ?_
          obtain rfl := Option.some.inj (hd.symm.trans ht4)
          have L10 := L9.same s10
          refine ⟨l, _, _, rfl, rfl, s10 _ _ e9, lt_sz (by omega), ?_⟩
          have L11 := L10.setL (s10 _ _ e9) dv
          revert L11
          generalize upd H10 l _ = H11
          intro L11
          refine ⟨_, rfl, .inl ⟨rfl, _, .inl (.inl L11.hr)⟩, _, rfl, kl, _, rfl, .inl (.inl (.inl L11.hk)), rl, _, _, rfl, rfl, L11.hr, lt_sz (by rw [natsV_len]; omega), ?_⟩
          rw [List.length_map, natsV_snoc]
          have L12 := L11.setR (run' := run ++ [kinds.length])
          revert L12
          generalize upd H11 rl _ = H12
          intro L12
          refine ⟨_, rfl, .inl ⟨rfl, _, .inl (.inl L12.hk)⟩, ?_⟩
          refine rd_pick (n := wn) (ds := [.str "answer", .str "rang", .str "answer"]) (layA_cons lay_str (layA_cons lay_str (layA_cons lay_str layA_nil))) (Nat.le_of_ble_eq_true rfl) (by show wn < 3; omega) (fun H1 Q' q => ⟨_, rfl, q⟩) fun v2 d H13 hd2 s13 dv2 => ?_
          obtain rfl := Option.some.inj (hd2.symm.trans ht5)
          cases dv2
          have L13 := L12.same s13
          refine ⟨kl, _, _, rfl, rfl, L13.hk, lt_sz (by rw [List.length_map]; omega), ?_⟩
          rw [strV_snoc]
          exact ⟨_, _, _, _, _, _, _, rfl, L13.setK, hI.new ht1 ht2 ht3, by rw [List.length_append]; exact Nat.succ_le_succ q1, by rw [List.length_append]; exact Nat.succ_le_succ q2, by rw [List.length_append]; exact Nat.succ_le_succ q3⟩
        · refine ifE ?_ fun e f => ⟨_, rfl, rl, _, rfl, .inl (.inl (.inl L9.hr)), _, _, rfl, rfl, _, rfl, ifF (decide_eq_false (by have e := of_decide_eq_true e; rw [natsV_len]; omega)) f⟩
          refine ⟨_, rfl, _, _, rfl, rfl, _, rfl, ?_⟩
          by_cases hB : wn < 7 ∧ 0 ≤ nv
          · obtain ⟨n, hn, rfl⟩ : ∃ n ∈ run, nv = (n : Int) := hnv.resolve_left (by omega)
            refine ifT (decide_eq_true (by omega)) ⟨_, rfl, _, _, rfl, rfl, _, rfl, ifT (decide_eq_true (by omega)) ?_⟩
            obtain ⟨j1, j2, j3⟩ := idx_at hn
            refine ⟨_, rfl, .inl ⟨rfl, _, .inl (.inl L9.hr)⟩, _, rfl, rl, run.map (fun n : Nat => (n : Int)), (n : Int), run.idxOf n, rfl, rfl, by rw [L9.hr, natsV_int], by rw [List.getElem?_map, j1]; rfl, fun m hm e => ?_, ?_⟩
            · rw [List.getElem?_map] at e
              cases z : run[m]? with
              | none => rw [z] at e; cases e
              | some q =>
                rw [z] at e
                have e : (q : Int) = (n : Int) := Option.some.inj e
                exact j2 m hm q z (by omega)
            rw [eraseIdx_mapI, j3, ← natsV_int]
            have ler := (List.erase_sublist (a := n) (l := run)).length_le
            have L10 := L9.setR (run' := run.erase n)
            have e10 : upd H9 rl (.lst (natsV (run.erase n))) l = some (.lst us) := by rw [L2.upd_ne L9.n1]; exact e9
            revert L10 e10
            generalize upd H9 rl _ = H10
            intro L10 e10
            refine ⟨_, rfl, rfl, _, rfl, ?_⟩
            by_cases h3 : wn = 3
            · refine ifT (decide_eq_true (by rw [h3]; rfl)) ⟨_, rfl, .inl ⟨rfl, _, .inl (.inl e10)⟩, _, rfl, sz2 _ _, fun tt htt => ?_⟩
              have st := Same.new (o := .tup [.str "dropped", .int (n : Int)]) htt
              have dt : Dp K (upd H10 tt (.tup [.str "dropped", .int (n : Int)])) (.ref tt) (Tk.d ⟨"dropped", some n, []⟩) := tk_dp (.inl (.inl upd_same))
              have L11 := L10.same st
              have e11 := st _ _ e10
              revert dt L11 e11
              generalize upd H10 tt _ = H11
              intro dt L11 e11
              refine ⟨l, _, _, rfl, rfl, e11, lt_sz (by omega), ?_⟩
              exact ⟨_, _, _, _, _, _, _, rfl, L11.setL e11 dt, hI.gone TkC.dropped.ok rfl hn (.inl rfl), by rw [List.length_append]; exact Nat.succ_le_succ q1, by omega, by omega⟩
            · have hkl := hI.lt hn
              obtain ⟨t, ht1, ht2, ht3, ht4⟩ : ∃ t : Tk, Okt t ∧ t.n = some n ∧ kinds[n]? = some t.k ∧ t.vs = cutV [V.str t.k, .int (n : Int), .str w] none (some (2 + if decide (V.str t.k = .str "answer") then 1 else 0)) := by
                obtain ⟨th, _, _, h3⟩ := hI.ex
                rcases h3 n hn with ⟨h, _⟩ | ⟨h, _⟩
                · exact ⟨_, (TkC.answer (n := n) hw).ok, rfl, h, rfl⟩
                · exact ⟨_, (TkC.rang (n := n)).ok, rfl, h, rfl⟩
              refine ifF (decide_eq_false (by intro z; injection z with z; omega)) ⟨_, rfl, .inl ⟨rfl, _, .inl (.inl e10)⟩, ?_⟩
              refine ⟨_, rfl, _, rfl, kl, _, _, .str t.k, rfl, rfl, .inl (.inl L10.hk), atI_nat (by rw [List.getElem?_map, ht3]; rfl), _, rfl, sz2 _ _, fun ta hta => ⟨_, rfl, sz1 _, fun tb htb => ?_⟩⟩
              have st := Same.new (o := .tup [.str t.k, .int (n : Int)]) hta
              have su := Same.new (o := .tup [.str w]) htb
              have qa : SqT K (upd (upd H10 ta (.tup [.str t.k, .int (n : Int)])) tb (.tup [.str w])) ta [.str t.k, .int (n : Int)] := .inl (.inl (su _ _ upd_same))
              have qb : SqT K (upd (upd H10 ta (.tup [.str t.k, .int (n : Int)])) tb (.tup [.str w])) tb [.str w] := .inl (.inl upd_same)
              have L11 := L10.same (st.trans su)
              have e11 := (st.trans su) _ _ e10
              revert qa qb L11 e11
              generalize upd (upd H10 ta _) tb _ = H11
              intro qa qb L11 e11
              refine rd_catA qa qb (by show 2 + 1 ≤ 100000; decide) fun tc H12 s12 qc => ?_
              have L12 := L11.same s12
              refine ⟨_, rfl, _, rfl, kl, _, _, .str t.k, rfl, rfl, .inl (.inl L12.hk), atI_nat (by rw [List.getElem?_map, ht3]; rfl), rfl, .inr ⟨_, rfl, _, _, rfl, rfl, _, rfl, ?_⟩⟩
              refine rd_slA qc fun td H13 s13 qd => ?_
              have qd : SqT K H13 td t.vs := by rw [ht4]; exact qd
              have L13 := L12.same s13
              have e13 := (s12.trans s13) _ _ e11
              refine ⟨l, _, _, rfl, rfl, e13, lt_sz (by omega), ?_⟩
              exact ⟨_, _, _, _, _, _, _, rfl, L13.setL e13 (tk_dp qd), hI.gone ht1 ht2 hn (.inr ht3), by rw [List.length_append]; exact Nat.succ_le_succ q1, by omega, by omega⟩
          · refine ifE ?_ fun e f => ⟨_, rfl, _, _, rfl, rfl, _, rfl, ifF (decide_eq_false (by have e := of_decide_eq_true e; omega)) f⟩
            refine ⟨_, rfl, .inl ⟨rfl, _, .inl (.inl e9)⟩, ?_⟩
            obtain ⟨t, ht1, ht2, ht3⟩ : ∃ t : Tk, Okt t ∧ (t.k = "signal" ∨ t.k = "noted" ∨ t.k = "marked") ∧ [PyData.tuple [.str "signal", .str w, .str "a"], .tuple [.str "noted", .str w], .tuple [.str "marked", .str w]][wn % 3]? = some t.d := by
              have h3 : wn % 3 = 0 ∨ wn % 3 = 1 ∨ wn % 3 = 2 := by omega
              rcases h3 with h | h | h <;> rw [h]
              · exact ⟨_, (TkC.signal (b := "a") hw (by decide +kernel)).ok, .inl rfl, rfl⟩
              · exact ⟨_, (TkC.noted hw).ok, .inr (.inl rfl), rfl⟩
              · exact ⟨_, (TkC.marked hw).ok, .inr (.inr rfl), rfl⟩
            refine rd_pick (n := wn % 3) (ds := [.tuple [.str "signal", .str w, .str "a"], .tuple [.str "noted", .str w], .tuple [.str "marked", .str w]]) (layA_cons (lay_tup (layA_cons lay_str (layA_cons (lay_varS rfl) (layA_cons lay_str layA_nil))) (Nat.le_of_ble_eq_true rfl)) (layA_cons (lay_tup (layA_cons lay_str (layA_cons (lay_varS rfl) layA_nil)) (Nat.le_of_ble_eq_true rfl)) (layA_cons (lay_tup (layA_cons lay_str (layA_cons (lay_varS rfl) layA_nil)) (Nat.le_of_ble_eq_true rfl)) layA_nil))) (Nat.le_of_ble_eq_true rfl) (by show wn % 3 < 3; omega)
              (fun H1 Q' q => ⟨_, rfl, _, _, rfl, rfl, (show (3 : Int) ≠ 0 by decide), by show Q' (.int ((wn : Int).fmod 3)) H1; rw [show (wn : Int).fmod 3 = ((wn % 3 : Nat) : Int) by rw [Int.fmod_eq_emod_of_nonneg _ (by decide)]; rfl]; exact q⟩) fun v d H10 hd s10 dv => ?_
            obtain rfl := Option.some.inj (hd.symm.trans ht3)
            have L10 := L9.same s10
            refine ⟨l, _, _, rfl, rfl, s10 _ _ e9, lt_sz (by omega), ?_⟩
            exact ⟨_, _, _, _, _, _, _, rfl, L10.setL (s10 _ _ e9) dv, hI.free ht1 ht2, by rw [List.length_append]; exact Nat.succ_le_succ q1, by omega, by omega⟩
    · rintro σ H' ⟨ts, run, kinds, y4, y5, y6, y7, rfl, L, hI, q1, q2, q3⟩
      refine ⟨fun σ' H8 => ∃ us ts, σ' = [some (.ref p), some (.ref l), some (.ref rl), some (.ref kl), y4, y5, y6, y7] ∧ But p H H8 ∧ Pl H8 p c ∧ H8 l = some (.lst us) ∧ Tks K H8 us ts ∧ (∀ t ∈ ts, Okt t) ∧ ts.length ≤ 70 ∧ chkH ts = none, ?_, ?_⟩
      · refine ⟨_, rfl, p, c, 3, rfl, L.pl, by decide, fun r H7 r1 r2 b7 pl7 => ⟨rfl, _, rfl, ?_⟩⟩
        have L7 := L.but b7 pl7
        obtain ⟨us, e7, t7⟩ := L7.ex
        have hus := L7.len e7
        by_cases h1 : r = 1
        · refine ifT (decide_eq_true (by rw [h1])) ⟨_, rfl, .inl ⟨rfl, _, .inl (.inl e7)⟩, sz2 _ _, fun tt htt => ?_⟩
          have st := Same.new (o := .tup [.str "ended", .str "x"]) htt
          have dt : Dp K (upd H7 tt (.tup [.str "ended", .str "x"])) (.ref tt) (Tk.d ⟨"ended", none, ["x"]⟩) := tk_dp (.inl (.inl upd_same))
          have L8 := L7.same st
          have e8 := st _ _ e7
          revert dt L8 e8
          generalize upd H7 tt _ = H8
          intro dt L8 e8
          have L9 := L8.setL e8 dt
          obtain ⟨us9, e9, t9⟩ := L9.ex
          exact ⟨l, _, _, rfl, rfl, e8, lt_sz (by omega), us9, _, rfl, L9.b, L9.pl, e9, t9, okt_snoc hI.ok (TkC.ended (by decide +kernel)).ok, by rw [List.length_append]; show ts.length + 1 ≤ 70; omega, hI.ended⟩
        · exact ifF (decide_eq_false fun z => h1 (by injection z)) ⟨us, ts, rfl, L7.b, L7.pl, e7, t7, hI.ok, by omega, hI.valid⟩
      · rintro σ8 H8 ⟨us, ts, rfl, b8, pl8, e8, t8, ok8, l8, c8⟩
        exact ⟨_, rfl, k l us ts H8 zl b8 pl8 e8 t8 ok8 l8 c8⟩
end
end Op
set_option pp.maxSteps 500
namespace Op
open PySem L2 PyProof.Rows
/-! ### empty lists -/
def eds (n : Nat) : List PyData := List.replicate n (.list [])
theorem eds_shaped (n : Nat) : SeqAt.shaped (.list (eds n)) = true := by
  have h : PyData.canLayAll0 (eds n) = true ∧ PyData.depthAll (eds n) ≤ 3 := by
    unfold eds
    induction n with
    | zero => exact ⟨rfl, Nat.zero_le _⟩
    | succ n ih =>
      rw [List.replicate_succ]
      refine ⟨by simp [PyData.canLayAll0, PyData.canLay0, ih.1], ?_⟩
      have h2 := ih.2
      simp only [PyData.depthAll, PyData.depth]
      omega
  have h2 := h.2
  show (PyData.canLay0 (.list (eds n)) && decide (PyData.depth (.list (eds n)) ≤ 64)) = true
  rw [Bool.and_eq_true]
  refine ⟨by simp only [PyData.canLay0]; exact h.1, decide_eq_true ?_⟩
  simp only [PyData.depth]
  omega
theorem eds_eqv (n : Nat) : PyData.eqv (.list (eds n)) (.list []) = decide (n = 0) := by
  unfold eds
  rw [PyData.eqv]
  cases n with
  | zero => rfl
  | succ n => rfl
theorem eds_dp {K : PySem.W.Frag} {H : Hp} : ∀ acc : List Addr, (∀ p ∈ acc, H p = some (.lst [])) → DpAll K H (acc.map V.ref) (eds acc.length)
  | [], _ => .nil
  | p :: r, h => .cons (.lst (.inl (.inl (h p List.mem_cons_self))) .nil) (eds_dp r fun q hq => h q (List.mem_cons_of_mem _ hq))
structure LB (K : PySem.W.Frag) (H H' : Hp) (hl rl kl tl : Addr) (ts : List Tk) (lf : List Nat) (kd : List Str) (th : List Nat) : Prop where
  s : Same H H'
  ex : ∃ us, H' hl = some (.lst us) ∧ Tks K H' us ts
  hr : H' rl = some (.lst (natsV lf))
  hk : H' kl = some (.lst (kd.map V.str))
  ht : H' tl = some (.lst (natsV th))
  z1 : H hl = none
  z2 : H rl = none
  z3 : H kl = none
  z4 : H tl = none
  n1 : hl ≠ rl
  n2 : hl ≠ kl
  n3 : rl ≠ kl
  n4 : hl ≠ tl
  n5 : rl ≠ tl
  n6 : kl ≠ tl
/-- between the turns -/
structure LBo (K : PySem.W.Frag) (H H' : Hp) (hl rl kl : Addr) (ts : List Tk) (lf : List Nat) (kd : List Str) : Prop where
  s : Same H H'
  ex : ∃ us, H' hl = some (.lst us) ∧ Tks K H' us ts
  hr : H' rl = some (.lst (natsV lf))
  hk : H' kl = some (.lst (kd.map V.str))
  z1 : H hl = none
  z2 : H rl = none
  z3 : H kl = none
  n1 : hl ≠ rl
  n2 : hl ≠ kl
  n3 : rl ≠ kl
section
variable {K : PySem.W.Frag} {H H' H'' : Hp} {hl rl kl tl : Addr} {ts : List Tk} {lf th : List Nat} {kd : List Str}
theorem LBo.same (h : LBo K H H' hl rl kl ts lf kd) (s : Same H' H'') : LBo K H H'' hl rl kl ts lf kd := by
  obtain ⟨us, e1, e2⟩ := h.ex
  exact ⟨h.s.trans s, ⟨us, s _ _ e1, e2.mono s⟩, s _ _ h.hr, s _ _ h.hk, h.z1, h.z2, h.z3, h.n1, h.n2, h.n3⟩
theorem LB.o (h : LB K H H' hl rl kl tl ts lf kd th) : LBo K H H' hl rl kl ts lf kd := ⟨h.s, h.ex, h.hr, h.hk, h.z1, h.z2, h.z3, h.n1, h.n2, h.n3⟩
theorem LBo.turn (h : LBo K H H' hl rl kl ts lf kd) (ht : H' tl = none) : LB K H (upd H' tl (.lst (natsV lf))) hl rl kl tl ts lf kd lf := by
  have g := h.same (Same.new (o := .lst (natsV lf)) ht)
  obtain ⟨us, e1, _⟩ := h.ex
  exact ⟨g.s, g.ex, g.hr, g.hk, upd_same, g.z1, g.z2, g.z3, new_of h.s ht, g.n1, g.n2, g.n3, fun e => (by rw [← e, e1] at ht; cases ht), fun e => (by rw [← e, h.hr] at ht; cases ht), fun e => (by rw [← e, h.hk] at ht; cases ht)⟩
theorem LB.same (h : LB K H H' hl rl kl tl ts lf kd th) (s : Same H' H'') : LB K H H'' hl rl kl tl ts lf kd th := by
  obtain ⟨us, e1, e2⟩ := h.ex
  exact ⟨h.s.trans s, ⟨us, s _ _ e1, e2.mono s⟩, s _ _ h.hr, s _ _ h.hk, s _ _ h.ht, h.z1, h.z2, h.z3, h.z4, h.n1, h.n2, h.n3, h.n4, h.n5, h.n6⟩
theorem LB.setL {us : List V} {v : V} {t : Tk} (h : LB K H H' hl rl kl tl ts lf kd th) (e : H' hl = some (.lst us)) (hd : Dp K H' v t.d) : LB K H (upd H' hl (.lst (us ++ [v]))) hl rl kl tl (ts ++ [t]) lf kd th := by
  obtain ⟨us', e1, e2⟩ := h.ex
  obtain rfl : us = us' := by
    rw [e] at e1
    injection e1 with e1
    injection e1
  exact ⟨Same.updN h.s h.z1, ⟨_, upd_same, Tks.updL e (Tks.app e2 (Tks.one hd))⟩, by rw [L2.upd_ne (Ne.symm h.n1)]; exact h.hr, by rw [L2.upd_ne (Ne.symm h.n2)]; exact h.hk, by rw [L2.upd_ne (Ne.symm h.n4)]; exact h.ht, h.z1, h.z2, h.z3, h.z4, h.n1, h.n2, h.n3, h.n4, h.n5, h.n6⟩
theorem LB.setR {lf' : List Nat} (h : LB K H H' hl rl kl tl ts lf kd th) : LB K H (upd H' rl (.lst (natsV lf'))) hl rl kl tl ts lf' kd th := by
  obtain ⟨us, e1, e2⟩ := h.ex
  exact ⟨Same.updN h.s h.z2, ⟨us, by rw [L2.upd_ne h.n1]; exact e1, Tks.updL h.hr e2⟩, upd_same, by rw [L2.upd_ne (Ne.symm h.n3)]; exact h.hk, by rw [L2.upd_ne (Ne.symm h.n5)]; exact h.ht, h.z1, h.z2, h.z3, h.z4, h.n1, h.n2, h.n3, h.n4, h.n5, h.n6⟩
theorem LB.setT {th' : List Nat} (h : LB K H H' hl rl kl tl ts lf kd th) : LB K H (upd H' tl (.lst (natsV th'))) hl rl kl tl ts lf kd th' := by
  obtain ⟨us, e1, e2⟩ := h.ex
  exact ⟨Same.updN h.s h.z4, ⟨us, by rw [L2.upd_ne h.n4]; exact e1, Tks.updL h.ht e2⟩, by rw [L2.upd_ne h.n5]; exact h.hr, by rw [L2.upd_ne h.n6]; exact h.hk, upd_same, h.z1, h.z2, h.z3, h.z4, h.n1, h.n2, h.n3, h.n4, h.n5, h.n6⟩
theorem LB.setK {kd' : List Str} (h : LB K H H' hl rl kl tl ts lf kd th) : LB K H (upd H' kl (.lst (kd'.map V.str))) hl rl kl tl ts lf kd' th := by
  obtain ⟨us, e1, e2⟩ := h.ex
  exact ⟨Same.updN h.s h.z3, ⟨us, by rw [L2.upd_ne h.n2]; exact e1, Tks.updL h.hk e2⟩, by rw [L2.upd_ne h.n3]; exact h.hr, upd_same, by rw [L2.upd_ne (Ne.symm h.n6)]; exact h.ht, h.z1, h.z2, h.z3, h.z4, h.n1, h.n2, h.n3, h.n4, h.n5, h.n6⟩
theorem LBo.len (h : LBo K H H' hl rl kl ts lf kd) {us : List V} (e : H' hl = some (.lst us)) : us.length = ts.length := by
  obtain ⟨us', e1, e2⟩ := h.ex
  rw [e] at e1
  injection e1 with e1
  injection e1 with e1
  rw [e1]
  exact e2.len
end
/-- what the three tests ahead of a token let through -/
def backC (j : Nat) (b : Bk) (t : Tk) : Bool := decide (isOut t = decide (j = 0)) && decide (decide (t.k = "begin") = decide (b.h = [])) && !lastOv b.h
theorem backT_no {j : Nat} {b : Bk} {t : Tk} (h : isOut t ≠ decide (j = 0) ∨ decide (t.k = "begin") ≠ decide (b.h = []) ∨ lastOv b.h = true) : backT j b t = none := by
  unfold backT
  by_cases h1 : isOut t ≠ decide (j = 0)
  · rw [if_pos h1]
  · rw [if_neg h1]
    by_cases h2 : decide (t.k = "begin") ≠ decide (b.h = [])
    · rw [if_pos h2]
    · rw [if_neg h2, if_pos ((h.resolve_left h1).resolve_left h2)]
theorem backT_go {j : Nat} {b : Bk} {t : Tk} (h1 : isOut t = decide (j = 0)) (h2 : decide (t.k = "begin") = decide (b.h = [])) (h3 : lastOv b.h = false) : backT j b t = (match t.n with
  | some i => match b.s.th[i]? with
    | none => none
    | some x => if x ∈ b.s.lf then if t.k ≠ "dropped" ∧ b.kd[x]? ≠ some t.k then none else some ⟨b.h ++ [ren t x], ⟨b.s.th, b.s.lf.erase x, b.s.tk ++ [ren t x], b.s.st⟩, b.kd⟩ else none
  | none => if isNew t = true then some ⟨b.h ++ [t], ⟨b.s.th ++ [b.s.st], b.s.lf ++ [b.s.st], b.s.tk ++ [t], b.s.st + 1⟩, b.kd ++ [kindOf t]⟩ else some ⟨b.h ++ [t], ⟨b.s.th, b.s.lf, b.s.tk ++ [t], b.s.st⟩, b.kd⟩) := by
  unfold backT
  rw [if_neg (fun z => z h1), if_neg (fun z => z h2), if_neg (by rw [h3]; exact Bool.false_ne_true)]
  try (cases t.n <;> rfl)
theorem backTurn_cons {t : Tk} {r : List Tk} {j : Nat} {b : Bk} : backTurn (t :: r) j b = (backT j b t).bind (backTurn r (j + 1)) := by
  conv => lhs; unfold backTurn
  cases backT j b t <;> rfl
theorem backAll_cons {ts : List Tk} {r : List (List Tk)} {b : Bk} : backAll (ts :: r) b = (backTurn ts 0 (backNew b)).bind (backAll r) := by
  conv => lhs; unfold backAll
  cases backTurn ts 0 (backNew b) <;> rfl
theorem last_in (t : Tk) : inV (.str t.k) [.str "ended", .str "anew"] = isLast t := inV_st t.k ["ended", "anew"]
section
variable {P : Program} {w : World} {K : PySem.W.Frag} {mg : Str → Option Value} {base : Heap} {pF pO pN pL CH CA : Addr}
/-- len of a list or a tuple -/
def rLenK (K : PySem.W.Frag) : List V → Hp → VK → Prop := fun xs H Q => ∃ p ys, xs = [.ref p] ∧ (SqL K H p ys ∨ SqT K H p ys) ∧ Q (.int ys.length) H
def spLBack (K : PySem.W.Frag) : Sp := fun vs H Q _ => ∃ (q : Addr) (tss : List (List Tk)), vs = [.ref q] ∧ TR K H q tss ∧ (∀ ts ∈ tss, ∀ t ∈ ts, Okt t) ∧ tss.flatten.length ≤ 1000 ∧ tss.length ≤ 1000 ∧ (lawBack tss = none → ∀ H', Same H H' → Q .non H') ∧ ∀ h, lawBack tss = some h → ∀ l us H', Same H H' → H l = none → H' l = some (.lst us) → Tks K H' us h → Q (.ref l) H'
theorem sc__law_back : FnScope ["_law_turns_here", "_law_history_here", "_law_running", "_law_kinds", "_law_turn", "_law_things", "_law_k", "_law_token"] ["_law_turns_here"] (defScope s__law_back) := ⟨rfl, rfl, rfl, by decide +kernel, rfl, by decide +kernel, by decide +kernel⟩
theorem ok_lback {f : Addr} {fd : FuncData} (F : Fun K "_law_back" "_law_back" s__law_back f fd) (T : Txt mg) : FnOk P w K mg base CX0 1 f fd ["_law_turns_here"] (spLBack K) := by
  refine F.ok sc__law_back (fun vs H Q E h => ?_) (fun cdv A outer s H vs Q E hr h => ?_)
  · obtain ⟨q, tss, rfl, _⟩ := h
    rfl
  · obtain ⟨q, tss, rfl, ⟨ps, hq, hpl, hps⟩, hok, hn1, hn2, kn, k⟩ := h
    have hu := hu_of hr
    refine ⟨_, (pss_cons (ps_set (i := 1) sc__law_back.nd rfl (.inl rfl) (pe_lst pa_nil))
      (pss_cons (ps_set (i := 2) sc__law_back.nd rfl (.inl rfl) (pe_lst pa_nil))
      (pss_cons (ps_set (i := 3) sc__law_back.nd rfl (.inl rfl) (pe_lst pa_nil))
      (pss_cons (ps_for PassesOwn.never rfl (pi_list (pv 0)) (pg_name (i := 4) sc__law_back.nd rfl (.inl rfl)) (pss_cons (ps_set (i := 5) sc__law_back.nd rfl (.inl rfl) (pe_callTy call_list_of (by rfl) T.b_list (by decide +kernel) (pa_cons (pv 2) pa_nil)))
      (pss_one (ps_for PassesOwn.never rfl (pi_range1 (by rfl) T.b_range (pa_cons (pe_callB call_len_seq (by rfl) T.b_len (by decide +kernel) (pa_cons (pv 4) pa_nil)) pa_nil)) (pg_name (i := 6) sc__law_back.nd rfl (.inl rfl)) (pss_cons (ps_set (i := 7) sc__law_back.nd rfl (.inl rfl) (pe_ix ix_list (pv 4) (pv 6) (fun _ _ => rfl)))
      (pss_cons (ps_if (pt_cmpR op_ne (pe_cmpR op_in_seq (pe_ix ix_tup (pv 7) pe_int (fun _ _ => rfl)) (pe_tup (pa_cons pe_str (pa_cons pe_str (pa_cons pe_str (pa_cons pe_str pa_nil))))) (by rfl)) (pe_cmpR op_eq (pv 6) pe_int (nomark _)) (nomark _)) (pss_one (ps_ret pe_non)) pss_nil)
      (pss_cons (ps_if (pt_cmpR op_ne (pe_cmpR op_eq (pe_ix ix_tup (pv 7) pe_int (fun _ _ => rfl)) pe_str (nomark _)) (pe_cmpR op_eq (pe_callB call_len_seq (by rfl) T.b_len (by decide +kernel) (pa_cons (pv 1) pa_nil)) pe_int (nomark _)) (nomark _)) (pss_one (ps_ret pe_non)) pss_nil)
      (Evl.pss_cut (ps_if (PW.pt (pw_and (pt_cmpR op_gt (pe_callB call_len_seq (by rfl) T.b_len (by decide +kernel) (pa_cons (pv 1) pa_nil)) pe_int (nomark _)) (pw_and1 (pt_cmpR op_in_seq (pe_ix ix_tup (pe_ix ix_list (pv 1) (pe_op op_sub (pe_callB call_len_seq (by rfl) T.b_len (by decide +kernel) (pa_cons (pv 1) pa_nil)) pe_int) (fun _ _ => rfl)) pe_int (fun _ _ => rfl)) (pe_tup (pa_cons pe_str (pa_cons pe_str pa_nil))) (by rfl))))) (pss_one (ps_ret pe_non)) pss_nil)
      (Evl.pss_cut (ps_if (pt_cmpR op_in_seq (pe_ix ix_tup (pv 7) pe_int (fun _ _ => rfl)) (pe_tup (pa_cons pe_str (pa_cons pe_str (pa_cons pe_str pa_nil)))) (by rfl)) (pss_cons (ps_if (PW.pt (pw_or (pt_cmpR op_ge (pe_ix ix_tup (pv 7) pe_int (fun _ _ => rfl)) (pe_callB call_len_seq (by rfl) T.b_len (by decide +kernel) (pa_cons (pv 5) pa_nil)) (nomark _)) (pw_or1 (pt_cmpR op_notIn_seq (pe_ix ix_list (pv 5) (pe_ix ix_tup (pv 7) pe_int (fun _ _ => rfl)) (fun _ _ => rfl)) (pv 2) (by rfl))))) (pss_one (ps_ret pe_non)) pss_nil)
      (pss_cons (ps_set (i := 7) sc__law_back.nd rfl (.inl rfl) (pe_op op_catA (pe_tup (pa_cons (pe_ix ix_tup (pv 7) pe_int (fun _ _ => rfl)) (pa_cons (pe_ix ix_list (pv 5) (pe_ix ix_tup (pv 7) pe_int (fun _ _ => rfl)) (fun _ _ => rfl)) pa_nil))) (pe_slice sl_tupA (pv 7) (po_some pe_int) po_none)))
      (pss_cons (ps_if (PW.pt (pw_and (pt_cmpR op_ne (pe_ix ix_tup (pv 7) pe_int (fun _ _ => rfl)) pe_str (nomark _)) (pw_and1 (pt_cmpR op_ne (pe_ix ix_list (pv 3) (pe_ix ix_tup (pv 7) pe_int (fun _ _ => rfl)) (fun _ _ => rfl)) (pe_ix ix_tup (pv 7) pe_int (fun _ _ => rfl)) (nomark _))))) (pss_one (ps_ret pe_non)) pss_nil)
      (pss_one (ps_expr (pe_bm PySem.F.plainAttrs_list PySem.F.slot_list_remove PySem.F.type_list_remove mt_remove (pv 2) (pa_cons (pe_ix ix_tup (pv 7) pe_int (fun _ _ => rfl)) pa_nil))))))) pss_nil)
      (Evl.pss_cut (ps_if (pt_cmpR op_in_seq (pe_ix ix_tup (pv 7) pe_int (fun _ _ => rfl)) (pe_tup (pa_cons pe_str (pa_cons pe_str pa_nil))) (by rfl)) (pss_cons (ps_expr (pe_bm PySem.F.plainAttrs_list PySem.F.slot_list_append PySem.F.type_list_append mt_append (pv 5) (pa_cons (pe_callB call_len_seq (by rfl) T.b_len (by decide +kernel) (pa_cons (pv 3) pa_nil)) pa_nil)))
      (pss_cons (ps_expr (pe_bm PySem.F.plainAttrs_list PySem.F.slot_list_append PySem.F.type_list_append mt_append (pv 2) (pa_cons (pe_callB call_len_seq (by rfl) T.b_len (by decide +kernel) (pa_cons (pv 3) pa_nil)) pa_nil)))
      (pss_one (ps_expr (pe_bm PySem.F.plainAttrs_list PySem.F.slot_list_append PySem.F.type_list_append mt_append (pv 3) (pa_cons (pe_dget hu (pe_disp (pps_cons pe_str pe_str (pps_cons pe_str pe_str pps_nil)) (by rfl) (by rfl) (fun z => by cases z) (by decide)) (pe_ix ix_tup (pv 7) pe_int (fun _ _ => rfl)) (fun _ _ => rfl)) pa_nil)))))) pss_nil)
      (pss_one (ps_expr (pe_bm PySem.F.plainAttrs_list PySem.F.slot_list_append PySem.F.type_list_append mt_append (pv 1) (pa_cons (pv 7) pa_nil))))))))))))))
      (pss_cons (ps_if (PW.pt (pw_or (pt_cmpR (op_neD hr.units) (pe_lc (own := [("_law_turn", 4)]) (g := gName 4) rfl sc__law_back.nd (pi_list (pv 0)) (blkOk_by (own := [("_law_turn", 4)]) (N := ["_law_turns_here", "_law_history_here", "_law_running", "_law_kinds", "_law_turn", "_law_things", "_law_k", "_law_token"]) (sc := defScope s__law_back) (by decide +kernel)) (fun _ _ _ _ _ => (pg_name (i := 4) sc__law_back.nd rfl (.inl rfl))) (fun _ _ _ _ _ => (pts_one (pt_cmpR op_eq (pe_callB (id := "len") (r := rLenK K) call_len_seq (by rfl) T.b_len (by decide +kernel) (pa_cons (pv 4) pa_nil)) pe_int (nomark _)))) (fun _ _ _ _ _ => (pv 4))) (pe_lst pa_nil) (nomark _)) (pw_or1 (pt_cmpR op_eq (pe_callB call_len_seq (by rfl) T.b_len (by decide +kernel) (pa_cons (pv 1) pa_nil)) pe_int (nomark _))))) (pss_one (ps_ret pe_non)) pss_nil)
      (pss_one (ps_ret (pv 1)))))))), ?_⟩
    refine ⟨sz_lit (by decide), fun hl hhl => ?_⟩
    have s1 : Same H (upd H hl (.lst [])) := Same.new hhl
    have c1 : upd H hl (.lst []) hl = some (.lst []) := upd_same
    revert s1 c1
    generalize upd H hl (.lst []) = H1
    intro s1 c1
    refine ⟨sz_lit (by decide), fun rl hrl => ?_⟩
    have s2 : Same H1 (upd H1 rl (.lst [])) := Same.new hrl
    have c2 : upd H1 rl (.lst []) rl = some (.lst []) := upd_same
    have d1 := s2 _ _ c1
    have n1 : hl ≠ rl := fun e => by rw [← e, c1] at hrl; cases hrl
    have zr := new_of s1 hrl
    have s12 := s1.trans s2
    revert s2 c2 d1 s12
    generalize upd H1 rl (.lst []) = H2
    intro s2 c2 d1 s12
    refine ⟨sz_lit (by decide), fun kl hkl => ?_⟩
    have s3 : Same H2 (upd H2 kl (.lst [])) := Same.new hkl
    have c3 : upd H2 kl (.lst []) kl = some (.lst []) := upd_same
    have d2 := s3 _ _ c2
    have e1 := s3 _ _ d1
    have n2 : hl ≠ kl := fun e => by rw [← e, d1] at hkl; cases hkl
    have n3 : rl ≠ kl := fun e => by rw [← e, c2] at hkl; cases hkl
    have zk := new_of s12 hkl
    have s13 := s12.trans s3
    revert s3 c3 d2 e1 s13
    generalize upd H2 kl (.lst []) = H3
    intro s3 c3 d2 e1 s13
    have L0 : LBo K H H3 hl rl kl [] [] [] := ⟨s13, ⟨[], e1, .nil⟩, d2, c3, hhl, zr, zk, n1, n2, n3⟩
    refine ⟨_, rfl, q, rfl, ⟨_, .inl (.inl (s13 _ _ hq))⟩, ?_⟩
    refine for_it (walk_list (xs := ps.map V.ref)) (fun i σ H' => ∃ (b : Bk) (y4 y5 y6 y7 : Option V), σ = [some (.ref q), some (.ref hl), some (.ref rl), some (.ref kl), y4, y5, y6, y7] ∧ LBo K H H' hl rl kl b.h b.s.lf b.kd ∧ backAll tss bk0 = backAll (tss.drop i) b ∧ b.s.st = b.kd.length ∧ b.h.length ≤ (tss.take i).flatten.length ∧ b.kd.length ≤ (tss.take i).flatten.length ∧ b.s.lf.length ≤ (tss.take i).flatten.length ∧ (∀ n ∈ b.s.lf, n < b.kd.length))
      ⟨bk0, _, _, _, _, rfl, L0, rfl, rfl, Nat.le_refl _, Nat.le_refl _, Nat.le_refl _, fun n hn => (List.not_mem_nil hn).elim⟩ (fun i σ H' _ ⟨_, _, _, _, _, _, z, _⟩ => .inl (.inl (z.s _ _ hq))) ?_ ?_
    · rintro i x σ H'' H' hi ⟨b, y4, y5, y6, y7, rfl, L, hb, hst, q1, q2, q3, q4⟩ ⟨rfl, hx⟩
      rw [List.length_map] at hi
      rw [List.getElem?_map, List.getElem?_eq_getElem hi] at hx
      obtain rfl := Option.some.inj hx
      have ht : tss[i]? = some tss[i] := List.getElem?_eq_getElem (by omega)
      have hm : tss[i] ∈ tss := List.mem_of_getElem? ht
      obtain ⟨ws, w1, w2⟩ := hps i _ _ (List.getElem?_eq_getElem hi) ht
      obtain ⟨f1, f2⟩ := flat_take ht
      revert ht hm w2 f1 f2
      generalize tss[i]'(by omega) = ts
      generalize ps[i]'hi = p at w1 ⊢
      intro ht hm w2 f1 f2
      have hws := w2.len
      rw [drop_one ht, backAll_cons] at hb
      refine ⟨_, rfl, rl, _, rfl, .inl (.inl (.inl L.hr)), fun tl htl => ?_⟩
      have L4 := L.turn htl
      revert L4
      generalize upd H' tl _ = H4
      intro L4
      refine ⟨_, rfl, p, _, rfl, .inl (.inl (.inl (L4.s _ _ w1))), (ws.length : Int), rfl, by omega, by omega, ?_⟩
      rw [Int.toNat_natCast]
      refine for_it (walk_range (lo := 0) (n := ws.length)) (fun j σ H5 => ∃ (c : Bk) (y6 y7 : Option V), σ = [some (.ref q), some (.ref hl), some (.ref rl), some (.ref kl), some (.ref p), some (.ref tl), y6, y7] ∧ LB K H H5 hl rl kl tl c.h c.s.lf c.kd c.s.th ∧ backTurn ts 0 (backNew b) = backTurn (ts.drop j) j c ∧ c.s.st = c.kd.length ∧ c.h.length ≤ b.h.length + j ∧ c.kd.length ≤ b.kd.length + j ∧ c.s.lf.length ≤ b.s.lf.length + j ∧ c.s.th.length ≤ b.s.lf.length + j ∧ (∀ n ∈ c.s.lf, n < c.kd.length))
        ⟨backNew b, _, _, rfl, L4, rfl, hst, Nat.le_refl _, Nat.le_refl _, Nat.le_refl _, Nat.le_refl _, q4⟩ (fun _ _ _ _ _ => trivial) ?_ ?_
      · rintro j x σ H6 H5 hj ⟨c, y6, y7, rfl, L5, hc, hct, r1, r2, r3, r4, r5⟩ ⟨rfl, rfl⟩
        have zj : (0 : Int) + (j : Int) = j := by omega
        have hv : ws[j]? = some (ws[j]'hj) := List.getElem?_eq_getElem hj
        obtain ⟨t, ht1, hd⟩ := w2.get hv
        have hkt := hok ts hm t (List.mem_of_getElem? ht1)
        obtain ⟨a, ea, hqa⟩ := tk_at (hd.mono L5.s)
        rw [ea] at hv
        rw [drop_one ht1, backTurn_cons] at hc
        have dead : backT j c t = none → ∀ H', Same H H' → Q .non H' := fun h => kn (by
          rw [h] at hc
          unfold lawBack
          rw [hb, hc]
          rfl)
        refine ⟨_, rfl, _, rfl, p, ws, _, _, rfl, rfl, .inl (.inl (L5.s _ _ w1)), by rw [zj]; exact atI_nat hv, ?_⟩
        refine ⟨_, rfl, a, _, 0, _, rfl, rfl, hqa, atI_zero _ _, sz_lit (by show 4 ≤ 100000; decide), fun o1 ho1 => ⟨o1, _, rfl, .inr (.inl (.inl upd_same)), rfl, flat_strs ["begin", "answer", "rang", "signal"], _, rfl, rfl, rfl, _, rfl, ?_⟩⟩
        rw [isOut_in]
        have so1 := Same.new (o := .tup [.str "begin", .str "answer", .str "rang", .str "signal"]) ho1
        have L6 := L5.same so1
        have qa6 := hqa.mono so1
        revert L6 qa6
        generalize upd H5 o1 _ = H6
        intro L6 qa6
        have zj0 : decide (V.int ((0 : Int) + (j : Int)) = V.int 0) = decide (j = 0) := decide_eq_decide.mpr ⟨fun h => by injection h with h; omega, fun h => by rw [h]; rfl⟩
        rw [zj0]
        by_cases g1 : isOut t = decide (j = 0)
        case neg => exact ifT (by simpa using g1) (dead (backT_no (.inl g1)) _ L6.s)
        refine ifF (by simpa using g1) ?_
        obtain ⟨us, e6, t6⟩ := L6.ex
        have hus := L6.o.len e6
        refine ⟨_, rfl, a, _, 0, _, rfl, rfl, qa6, atI_zero _ _, rfl, _, rfl, hl, _, rfl, .inl (.inl (.inl e6)), rfl, rfl, _, rfl, ?_⟩
        have zh0 : decide (V.int ((us.length : Nat) : Int) = V.int 0) = decide (c.h = []) := decide_eq_decide.mpr ⟨fun h => by injection h with h; exact List.length_eq_zero_iff.mp (by omega), fun h => by rw [hus, h]; rfl⟩
        rw [dec_strV, zh0]
        by_cases g2 : decide (t.k = "begin") = decide (c.h = [])
        case neg => exact ifT (by simpa using g2) (dead (backT_no (.inr (.inl g2))) _ L6.s)
        refine ifF (by simpa using g2) ?_
        -- the token before
        refine ⟨fun σ' H7 => σ' = [some (.ref q), some (.ref hl), some (.ref rl), some (.ref kl), some (.ref p), some (.ref tl), some (.int ((0 : Int) + (j : Nat))), some (.ref a)] ∧ LB K H H7 hl rl kl tl c.h c.s.lf c.kd c.s.th ∧ SqT K H7 a t.vs ∧ lastOv c.h = false, ?_, ?_⟩
        · refine ⟨_, rfl, hl, _, rfl, .inl (.inl (.inl e6)), _, _, rfl, rfl, _, rfl, ?_⟩
          by_cases g3 : c.h = []
          · exact ifF (decide_eq_false (by rw [hus, g3]; decide)) ⟨rfl, L6, qa6, by rw [g3]; rfl⟩
          · have hpos : 0 < c.h.length := List.length_pos_iff.mpr g3
            obtain ⟨tz, htz⟩ : ∃ tz, c.h.getLast? = some tz := ⟨_, List.getLast?_eq_some_getLast g3⟩
            have hz : lastOv c.h = isLast tz := by unfold lastOv; rw [htz]
            rw [List.getLast?_eq_getElem?] at htz
            have hvz : us[us.length - 1]? = some (us[us.length - 1]'(by omega)) := List.getElem?_eq_getElem (by omega)
            obtain ⟨tz', htz', hdz⟩ := t6.get hvz
            rw [hus, htz] at htz'
            obtain rfl := Option.some.inj htz'
            obtain ⟨az, eaz, hqz⟩ := tk_at hdz
            rw [eaz] at hvz
            refine ifT (decide_eq_true (by omega)) ⟨_, rfl, _, rfl, hl, _, rfl, .inl (.inl (.inl e6)), _, _, rfl, rfl, hl, us, ((us.length - 1 : Nat) : Int), .ref az, rfl, congrArg V.int (by omega), .inl (.inl e6), atI_nat hvz, az, _, 0, _, rfl, rfl, hqz, atI_zero _ _, sz2 _ _, fun o2 ho2 => ⟨o2, _, rfl, .inr (.inl (.inl upd_same)), rfl, flat_strs ["ended", "anew"], _, rfl, ?_⟩⟩
            rw [last_in, ← hz]
            have so2 := Same.new (o := .tup [.str "ended", .str "anew"]) ho2
            have L7 := L6.same so2
            have qa7 := qa6.mono so2
            by_cases g4 : lastOv c.h = true
            · exact ifT g4 (dead (backT_no (.inr (.inr g4))) _ L7.s)
            · exact ifF (Bool.eq_false_iff.mpr g4) ⟨rfl, L7, qa7, Bool.eq_false_iff.mpr g4⟩
        rintro σ7 H7 ⟨rfl, L7, qa7, g3⟩
        have hbt := backT_go g1 g2 g3
        -- numbered tokens
        refine ⟨fun σ' H8 => ∃ (a2 : Addr) (t2 : Tk) (lf2 : List Nat), σ' = [some (.ref q), some (.ref hl), some (.ref rl), some (.ref kl), some (.ref p), some (.ref tl), some (.int ((0 : Int) + (j : Nat))), some (.ref a2)] ∧ LB K H H8 hl rl kl tl c.h lf2 c.kd c.s.th ∧ SqT K H8 a2 t2.vs ∧ t2.k = t.k ∧ lf2.length ≤ c.s.lf.length ∧ (∀ n ∈ lf2, n < c.kd.length) ∧
          backT j c t = (if isNew t = true then some ⟨c.h ++ [t2], ⟨c.s.th ++ [c.s.st], lf2 ++ [c.s.st], c.s.tk ++ [t2], c.s.st + 1⟩, c.kd ++ [kindOf t]⟩ else some ⟨c.h ++ [t2], ⟨c.s.th, lf2, c.s.tk ++ [t2], c.s.st⟩, c.kd⟩), ?_, ?_⟩
        · refine ⟨_, rfl, a, _, 0, _, rfl, rfl, qa7, atI_zero _ _, sz_lit (by show 3 ≤ 100000; decide), fun o1 ho1 => ⟨o1, _, rfl, .inr (.inl (.inl upd_same)), rfl, flat_strs ["answer", "rang", "dropped"], _, rfl, ?_⟩⟩
          rw [num_in hkt]
          have so1 := Same.new (o := .tup [.str "answer", .str "rang", .str "dropped"]) ho1
          have L8 := L7.same so1
          have qa8 := qa7.mono so1
          revert L8 qa8
          generalize upd H7 o1 _ = H8
          intro L8 qa8
          cases hnn : t.n with
          | none =>
            rw [hnn] at hbt
            exact ifF rfl ⟨a, t, c.s.lf, rfl, L8, qa8, rfl, Nat.le_refl _, r5, hbt⟩
          | some n =>
            rw [hnn] at hbt
            dsimp only at hbt
            have hN := numQ qa8 hnn
            have nw : isNew t = false := (isNew_n hkt.c hnn).2.2
            refine ifT rfl ⟨_, rfl, a, _, 1, _, rfl, rfl, hN, atI_one _ _ _, _, rfl, tl, _, rfl, .inl (.inl (.inl L8.ht)), _, _, rfl, rfl, _, rfl, ?_⟩
            by_cases h5 : c.s.th.length ≤ n
            · refine ifT (decide_eq_true (by rw [natsV_len]; omega)) (dead ?_ _ L8.s)
              rw [hbt, List.getElem?_eq_none h5]
            have hx : c.s.th[n]? = some (c.s.th[n]'(by omega)) := List.getElem?_eq_getElem (by omega)
            revert hx
            generalize c.s.th[n]'(by omega) = x
            intro hx
            rw [hx] at hbt
            dsimp only at hbt
            refine ifF (decide_eq_false (by rw [natsV_len]; omega)) ⟨_, rfl, _, rfl, a, _, 1, _, rfl, rfl, hN, atI_one _ _ _, tl, _, _, .int (x : Int), rfl, rfl, .inl (.inl L8.ht), atI_nat (by unfold natsV; rw [List.getElem?_map, hx]; rfl), _, rfl, rl, _, rfl, .inl (.inl (.inl L8.hr)), rfl, natsV_flat _, _, rfl, ?_⟩
            by_cases h6 : x ∈ c.s.lf
            case neg =>
              rw [if_neg h6] at hbt
              exact ifT (by show (!inV _ _) = true; rw [inV_nats, decide_eq_false h6]; rfl) (dead hbt _ L8.s)
            rw [if_pos h6] at hbt
            have hxk := r5 x h6
            refine ifF (by show (!inV _ _) = false; rw [inV_nats, decide_eq_true h6]; rfl) ?_
            refine ⟨_, rfl, a, _, 0, _, rfl, rfl, qa8, atI_zero _ _, _, rfl, _, rfl, a, _, 1, _, rfl, rfl, hN, atI_one _ _ _, tl, _, _, .int (x : Int), rfl, rfl, .inl (.inl L8.ht), atI_nat (by unfold natsV; rw [List.getElem?_map, hx]; rfl), sz2 _ _, fun p8 hp8 => ?_⟩
            have s8 : Same H8 (upd H8 p8 (.tup [.str t.k, .int (x : Int)])) := Same.new hp8
            have c8 : SqT K (upd H8 p8 (.tup [.str t.k, .int (x : Int)])) p8 [.str t.k, .int (x : Int)] := .inl (.inl upd_same)
            have q8 := qa8.mono s8
            have L9 := L8.same s8
            revert c8 q8 L9
            generalize upd H8 p8 (.tup [.str t.k, .int (x : Int)]) = H9
            intro c8 q8 L9
            refine ⟨_, rfl, 2, rfl, ?_⟩
            refine rd_slN (lo := some 2) q8 fun p9 H10 s9 q9 => ?_
            rw [tk_tail hnn] at q9
            refine rd_catA (c8.mono s9) q9 (by rw [List.length_map]; have := tk_len hkt; show 2 + t.ws.length ≤ 100000; omega) fun p10 H11 s10 q10 => ?_
            rw [tk_ren hnn] at q10
            have L11 := (L9.same s9).same s10
            have hN2 : SqT K H11 p10 (.str t.k :: .int (x : Int) :: t.ws.map V.str) := q10
            obtain ⟨z, hz⟩ : ∃ z, c.kd[x]? = some z := ⟨_, List.getElem?_eq_getElem hxk⟩
            refine ⟨_, rfl, p10, _, 0, _, rfl, rfl, q10, atI_zero _ _, rfl, _, rfl, ?_⟩
            rw [hz] at hbt
            by_cases h7 : t.k ≠ "dropped" ∧ z ≠ t.k
            · rw [if_pos ⟨h7.1, fun e => h7.2 (Option.some.inj e)⟩] at hbt
              refine ifT (by show (!decide (V.str (ren t x).k = .str "dropped")) = true; rw [decide_eq_false (fun e => h7.1 (by injection e))]; rfl) ⟨_, rfl, _, rfl, p10, _, 1, _, rfl, rfl, hN2, atI_one _ _ _, kl, _, _, .str z, rfl, rfl, .inl (.inl L11.hk), atI_nat (by rw [List.getElem?_map, hz]; rfl), _, rfl, p10, _, 0, _, rfl, rfl, q10, atI_zero _ _, rfl, _, rfl, ifT ?_ (dead hbt _ L11.s)⟩
              show (!decide (V.str z = .str (ren t x).k)) = true
              rw [decide_eq_false (fun e => h7.2 (by injection e))]
              rfl
            · rw [if_neg (fun e => h7 ⟨e.1, fun e' => e.2 (by rw [e'])⟩)] at hbt
              refine ifE ?_ fun e f => ⟨_, rfl, _, rfl, p10, _, 1, _, rfl, rfl, hN2, atI_one _ _ _, kl, _, _, .str z, rfl, rfl, .inl (.inl L11.hk), atI_nat (by rw [List.getElem?_map, hz]; rfl), _, rfl, p10, _, 0, _, rfl, rfl, q10, atI_zero _ _, rfl, _, rfl, ifF ?_ f⟩
              · obtain ⟨j1, j2, j3⟩ := idx_at h6
                refine ⟨_, rfl, .inl ⟨rfl, _, .inl (.inl L11.hr)⟩, _, rfl, p10, _, 1, _, rfl, rfl, hN2, atI_one _ _ _, rl, c.s.lf.map (fun n : Nat => (n : Int)), (x : Int), c.s.lf.idxOf x, rfl, rfl, by rw [L11.hr, natsV_int], by rw [List.getElem?_map, j1]; rfl, fun m hm e => ?_, ?_⟩
                · rw [List.getElem?_map] at e
                  cases z : c.s.lf[m]? with
                  | none => rw [z] at e; cases e
                  | some q =>
                    rw [z] at e
                    have e : (q : Int) = (x : Int) := Option.some.inj e
                    exact j2 m hm q z (by omega)
                rw [eraseIdx_mapI, j3, ← natsV_int]
                refine ⟨p10, ren t x, c.s.lf.erase x, rfl, L11.setR, sqt_updL q10 L11.hr, rfl, (List.erase_sublist (a := x) (l := c.s.lf)).length_le, fun n hn => r5 n (List.mem_of_mem_erase hn), ?_⟩
                rw [nw]
                exact hbt
              · show (!decide (V.str z = .str (ren t x).k)) = false
                have e : (!decide (V.str (ren t x).k = .str "dropped")) = true := e
                have hne : t.k ≠ "dropped" := fun h => by
                  rw [decide_eq_true (show V.str (ren t x).k = .str "dropped" from congrArg V.str h)] at e
                  cases e
                rw [decide_eq_true (show V.str z = .str (ren t x).k from congrArg V.str (Decidable.byContradiction fun h => h7 ⟨hne, h⟩))]
                rfl
        rintro σ8 H8 ⟨a2, t2, lf2, rfl, L8, qa8, hk2, hlf, hlb, hbt⟩
        have l3 := natsV_len c.s.th
        have l4 := natsV_len lf2
        refine ⟨fun σ' H9 => ∃ b' : Bk, backT j c t = some b' ∧ σ' = [some (.ref q), some (.ref hl), some (.ref rl), some (.ref kl), some (.ref p), some (.ref tl), some (.int ((0 : Int) + (j : Nat))), some (.ref a2)] ∧ LB K H H9 hl rl kl tl c.h b'.s.lf b'.kd b'.s.th ∧ SqT K H9 a2 t2.vs ∧ b'.h = c.h ++ [t2] ∧ b'.s.st = b'.kd.length ∧ b'.kd.length ≤ c.kd.length + 1 ∧ b'.s.lf.length ≤ c.s.lf.length + 1 ∧ b'.s.th.length ≤ c.s.th.length + 1 ∧ (∀ n ∈ b'.s.lf, n < b'.kd.length), ?_, ?_⟩
        · refine ⟨_, rfl, a2, _, 0, _, rfl, rfl, qa8, atI_zero _ _, sz2 _ _, fun o1 ho1 => ⟨o1, _, rfl, .inr (.inl (.inl upd_same)), rfl, flat_strs ["asked", "set"], _, rfl, ?_⟩⟩
          rw [new_in]
          have so1 := Same.new (o := .tup [.str "asked", .str "set"]) ho1
          have L9 := L8.same so1
          have qa9 := qa8.mono so1
          revert L9 qa9
          generalize upd H8 o1 _ = H9
          intro L9 qa9
          have ew : isNew t2 = isNew t := by unfold isNew; rw [hk2]
          rw [ew]
          by_cases hw : isNew t = true
          · rw [hw]
            refine ifT rfl ⟨_, rfl, .inl ⟨rfl, _, .inl (.inl L9.ht)⟩, _, rfl, kl, _, rfl, .inl (.inl (.inl L9.hk)), tl, _, _, rfl, rfl, L9.ht, lt_sz (by omega), ?_⟩
            rw [List.length_map, natsV_snoc]
            have L10 := L9.setT (th' := c.s.th ++ [c.kd.length])
            have q10 : SqT K (upd H9 tl (.lst (natsV (c.s.th ++ [c.kd.length])))) a2 t2.vs := sqt_updL qa9 L9.ht
            revert L10 q10
            generalize upd H9 tl _ = H10
            intro L10 q10
            refine ⟨_, rfl, .inl ⟨rfl, _, .inl (.inl L10.hr)⟩, _, rfl, kl, _, rfl, .inl (.inl (.inl L10.hk)), rl, _, _, rfl, rfl, L10.hr, lt_sz (by omega), ?_⟩
            rw [List.length_map, natsV_snoc]
            have L11 := L10.setR (lf' := lf2 ++ [c.kd.length])
            have q11 : SqT K (upd H10 rl (.lst (natsV (lf2 ++ [c.kd.length])))) a2 t2.vs := sqt_updL q10 L10.hr
            revert L11 q11
            generalize upd H10 rl _ = H11
            intro L11 q11
            have hkind : (t2.k = "asked" ∧ kindOf t = "answer") ∨ (t2.k = "set" ∧ kindOf t = "rang") := by
              have hw := of_decide_eq_true hw
              unfold kindOf
              rw [hk2]
              rcases List.mem_cons.mp hw with e | e
              · exact .inl ⟨e, if_pos e⟩
              · have e := List.mem_singleton.mp e
                exact .inr ⟨e, if_neg (by rw [e]; decide +kernel)⟩
            refine ⟨_, rfl, .inl ⟨rfl, _, .inl (.inl L11.hk)⟩, ?_⟩
            refine fun dd hdd => ⟨upd_same, [(.inr "asked", .str "answer"), (.inr "set", .str "rang")], rfl, by show 2 ≤ 15; decide, ?_⟩
            rw [show mergeK [] [((.inr "asked" : Key), V.str "answer"), (.inr "set", .str "rang")] = [((.inr "asked" : Key), V.str "answer"), (.inr "set", .str "rang")] by first | rfl | kernel_rfl]
            have sd : Same H11 (upd (upd H11 dd (.dK [])) dd (.dK [((.inr "asked" : Key), V.str "answer"), (.inr "set", .str "rang")])) := fun b o hb => by
              have hne := ne_of_none hb hdd
              rw [L2.upd_ne hne, L2.upd_ne hne]
              exact hb
            have hdk : upd (upd H11 dd (.dK [])) dd (.dK [((.inr "asked" : Key), V.str "answer"), (.inr "set", .str "rang")]) dd = some (.dK [((.inr "asked" : Key), V.str "answer"), (.inr "set", .str "rang")]) := upd_same
            have L12 := L11.same sd
            have q12 := q11.mono sd
            revert hdk L12 q12
            generalize upd (upd H11 dd (.dK [])) dd _ = H12
            intro hdk L12 q12
            have hget : DGet H12 dd (.str t2.k) (some (.str (kindOf t))) := by
              rcases hkind with ⟨e1, e2⟩ | ⟨e1, e2⟩
              · rw [e1, e2]; exact DGet.k (k := (.inr "asked" : Key)) hdk
              · rw [e1, e2]; exact DGet.k (k := (.inr "set" : Key)) hdk
            refine ⟨_, rfl, a2, _, 0, _, rfl, rfl, q12, atI_zero _ _, dd, _, rfl, hget, kl, _, _, rfl, rfl, L12.hk, lt_sz (by rw [List.length_map]; omega), ?_⟩
            rw [strV_snoc]
            rw [if_pos hw] at hbt
            have hst' : c.s.st + 1 = (c.kd ++ [kindOf t]).length := by rw [List.length_append, hct]; rfl
            rw [hct] at hbt
            refine ⟨_, hbt, rfl, L12.setK, sqt_updL q12 L12.hk, rfl, by rw [List.length_append]; rfl, by rw [List.length_append]; exact Nat.le_refl _, ?_, ?_, fun n hn => ?_⟩
            · show (lf2 ++ [c.kd.length]).length ≤ _
              rw [List.length_append, List.length_singleton]
              omega
            · show (c.s.th ++ [c.kd.length]).length ≤ _
              rw [List.length_append, List.length_singleton]
              exact Nat.le_refl _
            · show n < (c.kd ++ [kindOf t]).length
              rw [List.length_append, List.length_singleton]
              rcases List.mem_append.mp hn with hn | hn
              · exact Nat.lt_succ_of_lt (hlb n hn)
              · rw [List.mem_singleton.mp hn]
                exact Nat.lt_succ_self _
          · have hw := Bool.eq_false_iff.mpr hw
            rw [if_neg (by rw [hw]; exact Bool.false_ne_true)] at hbt
            rw [hw]
            exact ifF rfl ⟨_, hbt, rfl, L9, qa9, rfl, hct, Nat.le_succ _, by show lf2.length ≤ _; omega, Nat.le_succ _, hlb⟩
        · rintro σ9 H9 ⟨b', hb', rfl, L9, qa9, h1, h2, h3, h4, h5, h6⟩
          obtain ⟨us9, e9, t9⟩ := L9.ex
          have hus9 := L9.o.len e9
          rw [hb'] at hc
          refine ⟨_, rfl, .inl ⟨rfl, _, .inl (.inl e9)⟩, _, rfl, hl, _, _, rfl, rfl, e9, lt_sz (by omega), ?_⟩
          have L10 := L9.setL e9 (tk_dp qa9)
          refine ⟨b', _, _, rfl, by rw [h1]; exact L10, hc, h2, by rw [h1, List.length_append]; exact Nat.succ_le_succ r1, by omega, by omega, by omega, h6⟩
      · rintro σ H5 ⟨c, y6, y7, rfl, L5, hc, hct, r1, r2, r3, r4, r5⟩
        rw [List.drop_of_length_le (by omega)] at hc
        rw [hc] at hb
        exact ⟨c, _, _, _, _, rfl, L5.o, hb, hct, by omega, by omega, by omega, r5⟩
    · rintro σ H' ⟨b, y4, y5, y6, y7, rfl, L, hb, hst, q1, q2, q3, q4⟩
      rw [List.length_map, List.drop_of_length_le (by omega)] at hb
      have hlb : lawBack tss = if [] ∈ tss ∨ b.h = [] then none else some b.h := by
        unfold lawBack
        rw [hb]
        rfl
      obtain ⟨us, e1, t1⟩ := L.ex
      have hus := L.len e1
      refine ⟨_, rfl, q, rfl, ⟨_, .inl (.inl (L.s _ _ hq))⟩, fun D hD => ?_⟩
      refine lc_it (walk_list (xs := ps.map V.ref)) (fun i H2 => Same H' H2 ∧ ∃ acc : List Addr, H2 D = some (.lst (acc.map V.ref)) ∧ (∀ p ∈ acc, H' p = some (.lst [])) ∧ acc.length ≤ i ∧ (acc = [] ↔ [] ∉ tss.take i)) ⟨Same.new hD, [], upd_same, fun p hp => (List.not_mem_nil hp).elim, Nat.le_refl _, fun _ => List.not_mem_nil, fun _ => rfl⟩ (fun i H2 _ z => .inl (.inl (z.1 _ _ (L.s _ _ hq)))) ?_ ?_
      · rintro i x H4 H2 hi ⟨s2, acc, a1, a2, a3, a4⟩ ⟨rfl, hx⟩
        rw [List.length_map] at hi
        rw [List.getElem?_map, List.getElem?_eq_getElem hi] at hx
        obtain rfl := Option.some.inj hx
        have ht : tss[i]? = some tss[i] := List.getElem?_eq_getElem (by omega)
        obtain ⟨ws, w1, w2⟩ := hps i _ _ (List.getElem?_eq_getElem hi) ht
        revert ht w2
        generalize tss[i]'(by omega) = ts
        generalize ps[i]'hi = p at w1 ⊢
        intro ht w2
        have hws := w2.len
        have w1 := L.s _ _ w1
        refine ⟨rfl, _, rfl, p, ws, rfl, .inl (.inl (.inl (s2 _ _ w1))), rfl, _, rfl, ?_⟩
        by_cases he : ts = []
        · subst he
          obtain rfl : ws = [] := List.length_eq_zero_iff.mp hws
          refine ifT rfl ⟨_, rfl, _, a1, lt_sz (by rw [List.length_map]; omega), Same.updN s2 hD, acc ++ [p], by rw [upd_same, List.map_append]; rfl, fun z hz => ?_, by rw [List.length_append]; exact Nat.succ_le_succ a3, fun e => by simp at e, fun e => (e ?_).elim⟩
          · rcases List.mem_append.mp hz with hz | hz
            · exact a2 z hz
            · rw [List.mem_singleton.mp hz]; exact w1
          · rw [TS.take_one ht]
            exact List.mem_append_right _ List.mem_cons_self
        · refine ifF (decide_eq_false (fun z => he (List.length_eq_zero_iff.mp (by injection z with z; omega)))) ⟨s2, acc, a1, a2, by omega, ?_⟩
          rw [TS.take_one ht, List.mem_append, List.mem_singleton, a4]
          exact ⟨fun h z => z.elim h fun e => he e.symm, fun h z => h (.inl z)⟩
      · rintro H2 ⟨s2, acc, a1, a2, a3, a4⟩
        rw [List.length_map] at a3
        rw [List.length_map, List.take_of_length_le (by omega)] at a4
        have dD : Dp K H2 (.ref D) (.list (eds acc.length)) := .lst (.inl (.inl a1)) (eds_dp acc fun p hp => s2 _ _ (a2 p hp))
        refine ⟨by decide, fun e2 he2 => ⟨_, _, dD.mono (Same.new he2), .lst (.inl (.inl upd_same)) .nil, eds_shaped _, eds_shaped 0, _, rfl, ?_⟩⟩
        rw [eds_eqv]
        have so := Same.new (o := .lst []) he2
        have L2 := (L.same s2).same so
        have e3 := (s2.trans so) _ _ e1
        revert L2 e3
        generalize upd H2 e2 _ = H3
        intro L2 e3
        by_cases h1 : [] ∈ tss
        · have : acc.length ≠ 0 := fun e => a4.mp (List.length_eq_zero_iff.mp e) h1
          rw [if_pos (.inl h1)] at hlb
          exact ifT (by rw [decide_eq_false this]; rfl) (kn hlb _ L2.s)
        · have : acc.length = 0 := by rw [a4.mpr h1]; rfl
          refine ifF (by rw [decide_eq_true this]; rfl) ⟨_, rfl, hl, _, rfl, .inl (.inl (.inl e3)), rfl, _, rfl, ?_⟩
          by_cases h2 : b.h = []
          · rw [if_pos (.inr h2)] at hlb
            exact ifT (decide_eq_true (by rw [hus, h2]; rfl)) (kn hlb _ L2.s)
          · rw [if_neg (fun z => z.elim h1 h2)] at hlb
            have hpos : 0 < b.h.length := List.length_pos_iff.mpr h2
            obtain ⟨us3, e4, t4⟩ := L2.ex
            refine ifF (decide_eq_false (fun z => by injection z with z; omega)) ⟨_, rfl, k b.h hlb hl us3 _ L2.s hhl e4 t4⟩
end
end Op
set_option pp.maxSteps 500
namespace L2
open PySem PySem.Spec PyProof.Rows
/-- what a callee may let out is taken, whatever the names hold -/
theorem passes_len {X : Cx} {W : WX} {E : XK} (tk : Takes X W) (hW : ∀ cls d σ H, σ.length = X.N.length → E cls d H → W cls d σ H) : Passes (L2.CX X.prog X.w) X E :=
  fun _ σ _ _ e s' I c => tk e s' (XE.of_call I (fun cls d H' h => hW cls d σ H' I.len h) c)
end L2
namespace Op
open PySem L2 PyProof.Rows
theorem numH_one {tss : List (List Tk)} {h h' : List Tk} (a : numH tss (some h)) (b : numH tss (some h')) : h = h' := by
  obtain ⟨t1, e1, e2, _⟩ := a
  obtain ⟨t2, f1, f2, _⟩ := b
  rw [e1] at f1
  obtain rfl := Option.some.inj f1
  exact e2.symm.trans f2
theorem numH_not {tss : List (List Tk)} {h : List Tk} (a : numH tss (some h)) (b : numH tss none) : False := by
  obtain ⟨t1, e1, e2, e3, e4⟩ := a
  subst e2
  rcases b t1 e1 with b | b
  · exact b e3
  · exact b e4
def refD : PyData := .tuple [.str "refused", .str "turns"]
def toldD : Option (List Tk) → PyData
  | some h => .tuple [.str "told", .list (h.map Tk.d)]
  | none => refD
/-- a value, and what the law tells of it -/
def TD (K : PySem.W.Frag) (H : Hp) (v : V) (r : PyData) : Prop :=
  (∃ (l : Addr) (tss : List (List Tk)) (o : Option (List Tk)), v = .ref l ∧ TR K H l tss ∧ (∀ ts ∈ tss, ∀ t ∈ ts, Okt t) ∧ tss.flatten.length ≤ 1000 ∧ tss.length ≤ 1000 ∧ numH tss o ∧ r = toldD o) ∨
  (∃ d, Dp K H v d ∧ ShortT d ∧ areT d = false ∧ r = refD) ∨ (∃ p o, v = .ref p ∧ H p = some (.dK o) ∧ r = refD)
theorem TD.mono {K : PySem.W.Frag} {H H' : Hp} {v : V} {r : PyData} (h : TD K H v r) (s : Same H H') : TD K H' v r := by
  rcases h with ⟨l, tss, o, h1, h2, h3⟩ | ⟨d, h1, h2⟩ | ⟨p, o, h1, h2, h3⟩
  · exact .inl ⟨l, tss, o, h1, h2.mono s, h3⟩
  · exact .inr (.inl ⟨d, h1.mono s, h2⟩)
  · exact .inr (.inr ⟨p, o, h1, s _ _ h2, h3⟩)
theorem set1 {σ : L2.St} {v : V} (h : σ.length = 2) : (σ.set 1 (some v))[1]? = some (some v) := by
  rw [List.getElem?_set_self (by omega)]
section
variable {P : Program} {w : World} {K : PySem.W.Frag} {mg : Str → Option Value} {base : Heap} {pF pO pN pL CH CA : Addr}
def spLTold (K : PySem.W.Frag) : Sp := fun vs H Q _ => ∃ (v : V) (r : PyData), vs = [v] ∧ TD K H v r ∧ ∀ v' H', Same H H' → Dp K H' v' r → Q v' H'
theorem sc__law_told : FnScope ["_law_turns_here", "e"] ["_law_turns_here"] (defScope s__law_told) := ⟨rfl, rfl, rfl, by decide +kernel, rfl, by decide +kernel, by decide +kernel⟩
theorem ok_ltold {f : Addr} {fd : FuncData} (F : Fun K "_law_told" "_law_told" s__law_told f fd) (T : TxtH P w K mg pF pO pN pL CH CA) (xf : XfC K CA) (n1 : PySem.W.findIn K (.ref CA) "part" = some none) (hex : PySem.W.exmOne K (.ref CA) (.ref CA) = some true)
    (c_numbered : Cal P w K mg base (L2.CX P w) 10 "numbered" ["turns"] (spNumd K CA)) : FnOk P w K mg base CX0 11 f fd ["_law_turns_here"] (spLTold K) := by
  refine F.ok sc__law_told (fun vs H Q E h => ?_) (fun cdv A outer s H vs Q E hr h => ?_)
  · obtain ⟨v, r, rfl, _⟩ := h
    rfl
  · obtain ⟨v, r, rfl, h, k⟩ := h
    refine ⟨_, pss_one (ps_try_as (i := 1) rfl rfl sc__law_told.nd rfl rfl ⟨rfl, by decide, .inl T.g_InvalidArgument⟩ takes0
        (fun W pn xe tk own => pss_one (ps_ret (pe_tup (pa_cons pe_str (pa_cons (pe_cal c_numbered (hr.mono (by omega)) rfl (passes_len (E := fun cls d H => ∀ σ : L2.St, σ.length = 2 → W cls d σ H) tk (fun _ _ σ _ hl h => h σ hl)) (pa_cons (pv 0) pa_nil)) pa_nil)))))
        (fun a oe cls d pn hz hf => pss_one (ps_ret (pe_tup (pa_cons pe_str (pa_cons (pe_xf xf n1 hz hf (pv 1)) pa_nil)))))), ?_⟩
    have fin : ∀ (q : Addr) (H3 : Hp), Same H H3 → H3 q = none → r = refD → Q (.ref q) (upd H3 q (.tup [.str "refused", .str "turns"])) := fun q H3 s3 hq e => by
      refine k _ _ (s3.trans (Same.new hq)) ?_
      rw [e]
      exact .tup (.inl (.inl upd_same)) (.cons (.str _) (.cons (.str _) .nil))
    refine ⟨_, rfl, v, rfl, ?_⟩
    rcases h with ⟨l, tss, o, rfl, hT, hok, hn1, hn2, hh, hr'⟩ | ⟨d, hd, hsh, har, hr'⟩ | ⟨p, o, rfl, hp, hr'⟩
    · refine .inl ⟨l, tss, rfl, hT, hok, hn1, hn2, fun h' nh q us H3 s3 hq hl ht => ⟨sz2 _ _, fun t htt => ?_⟩, fun nn H3 d s3 hx σ hl => ⟨true, hex, fun _ a hfree => ⟨.ref a, set1 hl, rfl, rfl, d, _, _, rfl, hx, rfl, sz2 _ _, fun q hq => fin q _ s3 hq ?_⟩, nofun⟩⟩
      · cases o with
        | none => exact (numH_not nh hh).elim
        | some h2 =>
          obtain rfl := numH_one nh hh
          have s4 := Same.new (o := .tup [.str "told", .ref q]) htt
          refine k _ _ (s3.trans s4) ?_
          rw [hr']
          exact .tup (.inl (.inl upd_same)) (.cons (.str _) (.cons (.lst (.inl (.inl (s4 _ _ hl))) (ht.mono s4)) .nil))
      · cases o with
        | none => exact hr'
        | some h2 => exact (numH_not hh nn).elim
    · exact .inr (.inl ⟨d, hd, hsh, har, fun H3 d s3 hx σ hl => ⟨true, hex, fun _ a hfree => ⟨.ref a, set1 hl, rfl, rfl, d, _, _, rfl, hx, rfl, sz2 _ _, fun q hq => fin q _ s3 hq hr'⟩, nofun⟩⟩)
    · exact .inr (.inr ⟨p, o, rfl, hp, fun H3 d s3 hx σ hl => ⟨true, hex, fun _ a hfree => ⟨.ref a, set1 hl, rfl, rfl, d, _, _, rfl, hx, rfl, sz2 _ _, fun q hq => fin q _ s3 hq hr'⟩, nofun⟩⟩)
end
end Op
set_option pp.maxSteps 500
namespace Op
open PySem L2 PyProof.Rows
section
variable {K : PySem.W.Frag} {H H0 H' : Hp}
theorem Tks.take : ∀ {vs : List V} {ts : List Tk} (n : Nat), Tks K H vs ts → Tks K H (vs.take n) (ts.take n)
  | _, [], n, .nil => by rw [List.take_nil, List.take_nil]; exact .nil
  | _, t :: r, 0, _ => .nil
  | _, t :: r, n + 1, .cons h1 h2 => .cons h1 (Tks.take (ts := r) n h2)
theorem Tks.drop : ∀ {vs : List V} {ts : List Tk} (n : Nat), Tks K H vs ts → Tks K H (vs.drop n) (ts.drop n)
  | _, [], n, .nil => by rw [List.drop_nil, List.drop_nil]; exact .nil
  | _, t :: r, 0, h => h
  | _, t :: r, n + 1, .cons h1 h2 => Tks.drop (ts := r) n h2
theorem Tks.set {v : V} {u : Tk} (hv : Dp K H v u.d) : ∀ {vs : List V} {ts : List Tk} (n : Nat), Tks K H vs ts → Tks K H (vs.set n v) (ts.set n u)
  | _, [], n, .nil => .nil
  | _, t :: r, 0, .cons h1 h2 => .cons hv h2
  | _, t :: r, n + 1, .cons h1 h2 => .cons h1 (Tks.set hv (ts := r) n h2)
theorem TT.set {q p : Addr} {ps : List Addr} {tss : List (List Tk)} {i : Nat} {ts : List Tk} (h : TT K H0 H q tss) (hq : H q = some (.lst (ps.map V.ref))) (hp : ps[i]? = some p) (ht : tss[i]? = some ts) :
    ∃ vs, H p = some (.lst vs) ∧ Tks K H vs ts ∧ H0 p = none ∧ p ≠ q ∧ ∀ vs' ts', Tks K H vs' ts' → TT K H0 (L2.upd H p (.lst vs')) q (tss.set i ts') := by
  obtain ⟨ps', h1, h2, h3, h4, h5, h6, h7⟩ := h
  obtain rfl : ps' = ps := by
    rw [hq] at h1
    injection h1 with h1
    injection h1 with h1
    exact (List.map_inj_right (fun a b e => by injection e)).mp h1.symm
  obtain ⟨vs, h8, h9⟩ := h7 i p ts hp ht
  have hm := List.mem_of_getElem? hp
  have hpq : p ≠ q := fun e => h4 (e ▸ hm)
  refine ⟨vs, h8, h9, h5 p hm, hpq, fun vs' ts' h' => ⟨ps', by rw [L2.upd_ne (Ne.symm hpq)]; exact hq, h2, h3, h4, h5, by rw [List.length_set]; exact h6, fun j b us e1 e2 => ?_⟩⟩
  rw [List.getElem?_set] at e2
  by_cases hij : i = j
  · subst hij
    obtain rfl : p = b := Option.some.inj (hp.symm.trans e1)
    rw [if_pos rfl, if_pos (List.getElem?_eq_some_iff.mp ht).1] at e2
    obtain rfl := Option.some.inj e2
    exact ⟨_, upd_same, h'.updL h8⟩
  · rw [if_neg hij] at e2
    obtain ⟨ws, h10, h11⟩ := h7 j b us e1 e2
    have hb : b ≠ p := fun e => hij ((List.getElem?_inj (List.getElem?_eq_some_iff.mp hp).1 h3).mp (by rw [hp, e1, e]))
    exact ⟨ws, by rw [L2.upd_ne hb]; exact h10, h11.updL h8⟩
theorem lst_ne {p c a : Addr} {xs : List V} (pl : Pl H p c) (h : H a = some (.lst xs)) : a ≠ p := fun e => by
  obtain ⟨_, hk⟩ := pl.at
  rw [e, hk] at h
  cases h
theorem TT.but {p c q : Addr} {tss : List (List Tk)} (h : TT K H0 H q tss) (pl : Pl H p c) (b : But p H H') : TT K H0 H' q tss := by
  obtain ⟨ps, h1, h2, h3, h4, h5, h6, h7⟩ := h
  refine ⟨ps, b _ _ h1 (lst_ne pl h1), h2, h3, h4, h5, h6, fun i a us e1 e2 => ?_⟩
  obtain ⟨ws, h8, h9⟩ := h7 i a us e1 e2
  exact ⟨ws, b _ _ h8 (lst_ne pl h8), DpAll.kp (pl.kp b) h9⟩
/-- turns by pairs -/
theorem TR.prs : ∀ {ps : List Addr} {tss : List (List Tk)}, ps.length = tss.length → (∀ (i : Nat) (p : Addr) (ts : List Tk), ps[i]? = some p → tss[i]? = some ts → ∃ vs, H p = some (.lst vs) ∧ Tks K H vs ts) →
    ∃ prs : List (Addr × List Tk), prs.map (·.1) = ps ∧ prs.map (·.2) = tss ∧ ∀ r ∈ prs, ∃ vs, H r.1 = some (.lst vs) ∧ Tks K H vs r.2
  | [], [], _, _ => ⟨[], rfl, rfl, fun r hr => (List.not_mem_nil hr).elim⟩
  | [], _ :: _, h, _ => by cases h
  | _ :: _, [], h, _ => by cases h
  | p :: ps, ts :: tss, h, g => by
    obtain ⟨prs, h1, h2, h3⟩ := TR.prs (ps := ps) (tss := tss) (Nat.succ.inj h) fun i p ts a b => g (i + 1) p ts a b
    refine ⟨(p, ts) :: prs, by rw [List.map_cons, h1], by rw [List.map_cons, h2], fun r hr => ?_⟩
    rcases List.mem_cons.mp hr with rfl | hr
    · exact g 0 p ts rfl rfl
    · exact h3 r hr
theorem TR.of_prs {q : Addr} {prs : List (Addr × List Tk)} (h : H q = some (.lst (prs.map fun r => V.ref r.1))) (g : ∀ r ∈ prs, ∃ vs, H r.1 = some (.lst vs) ∧ Tks K H vs r.2) : TR K H q (prs.map (·.2)) := by
  refine ⟨prs.map (·.1), by rw [List.map_map]; exact h, by rw [List.length_map, List.length_map], fun i p ts e1 e2 => ?_⟩
  rw [List.getElem?_map] at e1 e2
  cases z : prs[i]? with
  | none => rw [z] at e1; cases e1
  | some r =>
    rw [z] at e1 e2
    obtain rfl := Option.some.inj e1
    obtain rfl := Option.some.inj e2
    exact g r (List.mem_of_getElem? z)
end
theorem seq_nat {n len : Nat} (h : n < len) : seqIndex? (n : Int) len = some n := by
  have h0 : ¬ ((n : Int) < 0) := by omega
  simp [seqIndex?, h0, h]
theorem flat_set {tss : List (List Tk)} {i : Nat} {ts' : List Tk} : (tss.set i ts').flatten.length ≤ tss.flatten.length + ts'.length := by
  induction tss generalizing i with
  | nil => exact Nat.zero_le _
  | cons a r ih =>
    cases i with
    | zero =>
      rw [List.set_cons_zero, List.flatten_cons, List.flatten_cons, List.length_append, List.length_append]
      omega
    | succ i =>
      rw [List.set_cons_succ, List.flatten_cons, List.flatten_cons, List.length_append, List.length_append]
      have := ih (i := i)
      omega
theorem flat_td {tss : List (List Tk)} {i j : Nat} (h : i ≤ j) : ((tss.take i).flatten ++ (tss.drop j).flatten).length ≤ tss.flatten.length := by
  have e : tss = tss.take i ++ (tss.drop i) := (List.take_append_drop i tss).symm
  have e2 : tss.drop i = (tss.drop i).take (j - i) ++ tss.drop j := by
    conv => lhs; rw [← List.take_append_drop (j - i) (tss.drop i)]
    rw [List.drop_drop, show i + (j - i) = j by omega]
  conv => rhs; rw [e, e2]
  rw [List.flatten_append, List.flatten_append, List.length_append, List.length_append, List.length_append]
  omega
theorem okt_set {tss : List (List Tk)} {i : Nat} {ts' : List Tk} (h : ∀ ts ∈ tss, ∀ t ∈ ts, Okt t) (h' : ∀ t ∈ ts', Okt t) : ∀ ts ∈ tss.set i ts', ∀ t ∈ ts, Okt t := fun ts hts => by
  rcases List.mem_or_eq_of_mem_set hts with h2 | rfl
  · exact h ts h2
  · exact h'
def menu5 : List PyData := [.tuple [.str "set"], .tuple [.str "asked", .str "a"], .tuple [.str "dropped", .int 0], .tuple [.str "rang", .int 0], .tuple [.str "begin", .str "a"]]
def menu4 : List PyData := [.tuple [.str "rang", .int 0], .tuple [.str "answer", .int 0, .str "a"], .tuple [.str "signal", .str "a", .str "b"], .tuple [.str "set"]]
theorem w_a : isWordS "a" = true := by decide +kernel
theorem w_b : isWordS "b" = true := by decide +kernel
theorem menu5_ok {d : PyData} (h : d ∈ menu5) : ∃ t, Okt t ∧ d = t.d := by
  simp only [menu5, List.mem_cons, List.not_mem_nil, or_false] at h
  rcases h with rfl | rfl | rfl | rfl | rfl
  · exact ⟨_, TkC.set.ok, rfl⟩
  · exact ⟨_, (TkC.asked w_a).ok, rfl⟩
  · exact ⟨_, (TkC.dropped (n := 0)).ok, rfl⟩
  · exact ⟨_, (TkC.rang (n := 0)).ok, rfl⟩
  · exact ⟨_, (TkC.begin w_a).ok, rfl⟩
theorem menu4_ok {d : PyData} (h : d ∈ menu4) : ∃ t, Okt t ∧ d = t.d := by
  simp only [menu4, List.mem_cons, List.not_mem_nil, or_false] at h
  rcases h with rfl | rfl | rfl | rfl
  · exact ⟨_, (TkC.rang (n := 0)).ok, rfl⟩
  · exact ⟨_, (TkC.answer (n := 0) w_a).ok, rfl⟩
  · exact ⟨_, (TkC.signal w_a w_b).ok, rfl⟩
  · exact ⟨_, TkC.set.ok, rfl⟩
section
variable {P : Program} {w : World} {K : PySem.W.Frag} {mg : Str → Option Value} {base : Heap} {pF pO pN pL CH CA : Addr}
/-- list(..) of a list or a tuple -/
def rListOf (K : PySem.W.Frag) : List V → Hp → VK → Prop := fun xs H Q => ∃ p ys, xs = [.ref p] ∧ (SqL K H p ys ∨ SqT K H p ys) ∧ ∀ l, H l = none → Q (.ref l) (upd H l (.lst ys))
def spLChg (K : PySem.W.Frag) : Sp := fun vs H Q _ => ∃ (p c q : Addr) (tss : List (List Tk)), vs = [.ref p, .ref q] ∧ Pl H p c ∧ TR K H q tss ∧ (∀ ts ∈ tss, ∀ t ∈ ts, Okt t) ∧ tss ≠ [] ∧ [] ∉ tss ∧ tss.flatten.length ≤ 100 ∧ tss.length ≤ 100 ∧
  ∀ q' tss' H', But p H H' → Pl H' p c → TR K H' q' tss' → (∀ ts ∈ tss', ∀ t ∈ ts, Okt t) → tss'.flatten.length ≤ 500 → tss'.length ≤ 500 → Q (.ref q') H'
theorem sc__law_changed : FnScope ["_law_bag_here", "_law_turns_here", "_law_turn", "_law_changed_here", "_law_place", "_law_at", "_law_way", "_law_token"] ["_law_bag_here", "_law_turns_here"] (defScope s__law_changed) := ⟨rfl, rfl, rfl, by decide +kernel, rfl, by decide +kernel, by decide +kernel⟩
theorem ok_lchg {f : Addr} {fd : FuncData} (F : Fun K "_law_changed" "_law_changed" s__law_changed f fd) (T : Txt mg) (c__law_draw : Cal P w K mg base CX0 1 "_law_draw" ["_law_bag_here", "_law_many"] spD) (c__law_one : Cal P w K mg base CX0 2 "_law_one" ["_law_bag_here", "_law_items"] (spOne K)) : FnOk P w K mg base CX0 3 f fd ["_law_bag_here", "_law_turns_here"] (spLChg K) := by
  refine F.ok sc__law_changed (fun vs H Q E h => ?_) (fun cdv A outer s H vs Q E hr h => ?_)
  · obtain ⟨p, c, q, tss, rfl, _⟩ := h
    rfl
  · obtain ⟨p, c, q, tss, rfl, hp, ⟨ps, hq, hpl, hps⟩, hok, hne, hnn, hn1, hn2, k⟩ := h
    refine ⟨_, (pss_cons (ps_setLc (i := 3) (own := [("_law_turn", 2)]) (g := gName 2) (tt := tYes) rfl sc__law_changed.nd rfl rfl (sw_true rfl rfl rfl (by decide +kernel)) (pi_list (pv 1)) (blkOk_by (own := [("_law_turn", 2)]) (N := ["_law_bag_here", "_law_turns_here", "_law_turn", "_law_changed_here", "_law_place", "_law_at", "_law_way", "_law_token"]) (sc := defScope s__law_changed) (by decide +kernel)) (fun _ _ _ _ _ => (pg_name (i := 2) sc__law_changed.nd rfl (.inl rfl))) (fun _ _ _ _ _ => pts_nil) (fun _ _ _ _ _ => (pe_callTy (T := "list") (r := rListOf K) call_list_of (by rfl) T.b_list (by decide +kernel) (pa_cons (pv 2) pa_nil))))
      (pss_cons (ps_set (i := 4) sc__law_changed.nd rfl (.inl rfl) (pe_cal c__law_draw (hr.mono (by omega)) rfl pass0 (pa_cons (pv 0) (pa_cons (pe_callB call_len_seq (by rfl) T.b_len (by decide +kernel) (pa_cons (pv 3) pa_nil)) pa_nil))))
      (pss_cons (ps_set (i := 2) sc__law_changed.nd rfl (.inl rfl) (pe_ix ix_list (pv 3) (pv 4) (fun _ _ => rfl)))
      (pss_cons (ps_set (i := 5) sc__law_changed.nd rfl (.inl rfl) (pe_cal c__law_draw (hr.mono (by omega)) rfl pass0 (pa_cons (pv 0) (pa_cons (pe_callB call_len_seq (by rfl) T.b_len (by decide +kernel) (pa_cons (pv 2) pa_nil)) pa_nil))))
      (pss_cons (ps_set (i := 6) sc__law_changed.nd rfl (.inl rfl) (pe_cal c__law_draw (hr.mono (by omega)) rfl pass0 (pa_cons (pv 0) (pa_cons pe_int pa_nil))))
      (pss_cons (ps_set (i := 7) sc__law_changed.nd rfl (.inl rfl) (pe_ix ix_list (pv 2) (pv 5) (fun _ _ => rfl)))
      (Evl.pss_cut (ps_if (pt_cmpR op_eq (pv 6) pe_int (nomark _)) (pss_one (ps_expr (pe_bm PySem.F.plainAttrs_list PySem.F.slot_list_pop PySem.F.type_list_pop mt_popAt (pv 2) (pa_cons (pv 5) pa_nil)))) (pss_one (ps_if (pt_cmpR op_eq (pv 6) pe_int (nomark _)) (pss_one (ps_expr (pe_bm PySem.F.plainAttrs_list PySem.F.slot_list_insert PySem.F.type_list_insert mt_insert (pv 2) (pa_cons (pv 5) (pa_cons (pe_cal c__law_one (hr.mono (by omega)) rfl pass0 (pa_cons (pv 0) (pa_cons (pe_lst (pa_cons (pe_tup (pa_cons pe_str pa_nil)) (pa_cons (pe_tup (pa_cons pe_str (pa_cons pe_str pa_nil))) (pa_cons (pe_tup (pa_cons pe_str (pa_cons pe_int pa_nil))) (pa_cons (pe_tup (pa_cons pe_str (pa_cons pe_int pa_nil))) (pa_cons (pe_tup (pa_cons pe_str (pa_cons pe_str pa_nil))) pa_nil)))))) pa_nil))) pa_nil))))) (pss_one (ps_if (PW.pt (pw_and (pt_cmpR op_eq (pv 6) pe_int (nomark _)) (pw_and1 (pt_cmpR op_in_seq (pe_ix ix_tup (pv 7) pe_int (fun _ _ => rfl)) (pe_tup (pa_cons pe_str (pa_cons pe_str (pa_cons pe_str pa_nil)))) (by rfl))))) (pss_one (ps_asg (pe_op op_catA (pe_tup (pa_cons (pe_ix ix_tup (pv 7) pe_int (fun _ _ => rfl)) (pa_cons (pe_cal c__law_draw (hr.mono (by omega)) rfl pass0 (pa_cons (pv 0) (pa_cons pe_int pa_nil))) pa_nil))) (pe_slice sl_tupA (pv 7) (po_some pe_int) po_none)) (pg_sub (pv 2) (pv 5) set_list))) (pss_one (ps_if (pt_cmpR op_eq (pv 6) pe_int (nomark _)) (pss_one (ps_expr (pe_bm PySem.F.plainAttrs_list PySem.F.slot_list_pop PySem.F.type_list_pop mt_popAt (pv 3) (pa_cons (pv 4) pa_nil)))) (pss_one (ps_if (pt_cmpR op_eq (pv 6) pe_int (nomark _)) (pss_one (ps_expr (pe_bm PySem.F.plainAttrs_list PySem.F.slot_list_insert PySem.F.type_list_insert mt_insert (pv 3) (pa_cons (pv 4) (pa_cons (pv 2) pa_nil))))) (pss_one (ps_if (pt_cmpR op_eq (pv 6) pe_int (nomark _)) (pss_one (ps_expr (pe_bm PySem.F.plainAttrs_list PySem.F.slot_list_insert PySem.F.type_list_insert mt_insert (pv 3) (pa_cons (pv 4) (pa_cons (pe_lst pa_nil) pa_nil))))) (pss_one (ps_expr (pe_bm PySem.F.plainAttrs_list PySem.F.slot_list_append PySem.F.type_list_append mt_append (pv 3) (pa_cons (pe_lst (pa_cons (pe_cal c__law_one (hr.mono (by omega)) rfl pass0 (pa_cons (pv 0) (pa_cons (pe_lst (pa_cons (pe_tup (pa_cons pe_str (pa_cons pe_int pa_nil))) (pa_cons (pe_tup (pa_cons pe_str (pa_cons pe_int (pa_cons pe_str pa_nil)))) (pa_cons (pe_tup (pa_cons pe_str (pa_cons pe_str (pa_cons pe_str pa_nil)))) (pa_cons (pe_tup (pa_cons pe_str pa_nil)) pa_nil))))) pa_nil))) pa_nil)) pa_nil)))))))))))))))
      (pss_one (ps_ret (pv 3)))))))))), ?_⟩
    refine ⟨_, rfl, q, rfl, ⟨_, .inl (.inl hq)⟩, fun D hD => ?_⟩
    refine lc_it (walk_list (xs := ps.map V.ref)) (fun i H2 => Same H H2 ∧ TT K H H2 D (tss.take i)) ⟨Same.new hD, TT.nil upd_same hD⟩ (fun i H2 _ z => .inl (.inl (z.1 _ _ hq))) ?_ ?_
    · rintro i x H4 H2 hi ⟨s2, t2⟩ ⟨rfl, hx⟩
      rw [List.length_map] at hi
      rw [List.getElem?_map, List.getElem?_eq_getElem hi] at hx
      obtain rfl := Option.some.inj hx
      have ht : tss[i]? = some tss[i] := List.getElem?_eq_getElem (by omega)
      obtain ⟨ws, w1, w2⟩ := hps i _ _ (List.getElem?_eq_getElem hi) ht
      revert ht w2
      generalize tss[i]'(by omega) = ts
      generalize ps[i]'hi = pp at w1 ⊢
      intro ht w2
      refine ⟨rfl, ?_⟩
      refine ⟨_, rfl, pp, ws, rfl, .inl (.inl (.inl (s2 _ _ w1))), fun l hl => ?_⟩
      have sn := Same.new (o := .lst ws) hl
      obtain ⟨ps2, p1, _⟩ := id t2
      have hp2 := t2.ps p1
      refine ⟨_, sn _ _ p1, lt_sz (by rw [List.length_map, hp2.1, List.length_take]; omega), Same.updN (s2.trans sn) hD, ?_⟩
      rw [TS.take_one ht]
      exact (t2.mono sn).push (sn _ _ p1) upd_same (fun hm => by obtain ⟨vs, hv⟩ := hp2.2.1 l hm; rw [hv] at hl; cases hl) (fun e => by rw [e, p1] at hl; cases hl) (new_of s2 hl) (w2.mono (s2.trans sn))
    · rintro H2 ⟨s2, t2⟩
      rw [List.length_map, List.take_of_length_le (by omega)] at t2
      obtain ⟨qs, p1, _⟩ := id t2
      have hqs := (t2.ps p1).1
      have hlen : 0 < tss.length := List.length_pos_iff.mpr hne
      have pl2 := hp.mono s2
      have hDc := (hp.new hD).2
      have hDp := (hp.new hD).1
      refine ⟨_, rfl, _, rfl, D, _, rfl, .inl (.inl (.inl p1)), p, c, _, rfl, pl2, by rw [List.length_map]; omega, fun r H3 r1 r2 b3 pl3 => ?_⟩
      rw [List.length_map] at r2
      obtain ⟨pn, rfl⟩ := Int.eq_ofNat_of_zero_le r1
      have hpn : pn < tss.length := by omega
      have t3 := t2.but pl2 b3
      have p3 := b3 _ _ p1 hDp
      have q3 := (Same.but s2 : But p H H2).trans b3
      have hq1 : qs[pn]? = some (qs[pn]'(by omega)) := List.getElem?_eq_getElem (by omega)
      have ht1 : tss[pn]? = some (tss[pn]'hpn) := List.getElem?_eq_getElem hpn
      revert hq1 ht1
      generalize qs[pn]'(by omega) = tp
      generalize tss[pn]'hpn = ts
      intro hq1 ht1
      have hmt := List.mem_of_getElem? ht1
      have hokt := hok ts hmt
      have hlt := len_flat hmt
      have htsn : 0 < ts.length := List.length_pos_iff.mpr fun e => hnn (e ▸ hmt)
      obtain ⟨vs3, v3, k3, z3, n3, _⟩ := t3.set p3 hq1 ht1
      have htc := (hp.new z3).2
      have htp := (hp.new z3).1
      have l3 := k3.len
      refine ⟨_, rfl, _, rfl, D, _, _, .ref tp, rfl, rfl, .inl (.inl p3), atI_nat (by rw [List.getElem?_map, hq1]; rfl), ?_⟩
      refine ⟨_, rfl, _, rfl, tp, _, rfl, .inl (.inl (.inl v3)), p, c, _, rfl, pl3, by omega, fun r H4 r1 r2 b4 pl4 => ?_⟩
      obtain ⟨an, rfl⟩ := Int.eq_ofNat_of_zero_le r1
      have han : an < ts.length := by omega
      have t4 := t3.but pl3 b4
      have p4 := b4 _ _ p3 hDp
      have v4 := b4 _ _ v3 htp
      have q4 := q3.trans b4
      refine ⟨_, rfl, p, c, 7, rfl, pl4, by decide, fun way H5 w1 w2 b5 pl5 => ?_⟩
      obtain ⟨wn, rfl⟩ := Int.eq_ofNat_of_zero_le w1
      have hwn : wn < 7 := by omega
      have t5 := t4.but pl4 b5
      have p5 := b5 _ _ p4 hDp
      have v5 := b5 _ _ v4 htp
      have q5 := q4.trans b5
      clear b3 b4 b5 t2 t3 t4 p1 p3 p4 v4 q3 q4 pl2 pl3 pl4
      obtain ⟨vs, v5', k5, z5, n5, st5⟩ := t5.set p5 hq1 ht1
      obtain rfl : vs3 = vs := by
        rw [v5] at v5'
        injection v5' with e
        injection e
      have hva : vs3[an]? = some (vs3[an]'(by omega)) := List.getElem?_eq_getElem (by omega)
      obtain ⟨t, ht2, hd⟩ := k5.get hva
      obtain ⟨a, ea, hqa⟩ := tk_at hd
      rw [ea] at hva
      have hkt := hokt t (List.mem_of_getElem? ht2)
      obtain ⟨prs, pr1, pr2, pr3⟩ : ∃ prs : List (Addr × List Tk), prs.map (·.1) = qs ∧ prs.map (·.2) = tss ∧ ∀ r ∈ prs, ∃ vs, H5 r.1 = some (.lst vs) ∧ Tks K H5 vs r.2 := by
        obtain ⟨qs', g1, _, _, _, _, g6, g7⟩ := id t5
        obtain rfl : qs' = qs := by
          rw [p5] at g1
          injection g1 with g1
          injection g1 with g1
          exact (List.map_inj_right (fun a b e => by injection e)).mp g1.symm
        exact TR.prs g6 g7
      have hprl : prs.length = tss.length := by rw [← pr2, List.length_map]
      have hqv : qs.map V.ref = prs.map fun r => V.ref r.1 := by rw [← pr1, List.map_map]; rfl
      have hpk : ∃ r, prs[pn]? = some r ∧ r.1 = tp ∧ r.2 = ts := by
        have hx : prs[pn]? = some (prs[pn]'(by omega)) := List.getElem?_eq_getElem (by omega)
        refine ⟨_, hx, ?_, ?_⟩
        · have := hq1
          rw [← pr1, List.getElem?_map, hx] at this
          exact Option.some.inj this
        · have := ht1
          rw [← pr2, List.getElem?_map, hx] at this
          exact Option.some.inj this
      -- a turn that changed
      have turnD : ∀ (H6 : Hp) (vs' : List V) (ts' : List Tk), Same H5 H6 ∨ But p H5 H6 → Pl H6 p c → Tks K H6 vs' ts' → (∀ t ∈ ts', Okt t) → ts'.length ≤ 200 →
          ∃ tss', But p H (upd H6 tp (.lst vs')) ∧ Pl (upd H6 tp (.lst vs')) p c ∧ TR K (upd H6 tp (.lst vs')) D tss' ∧ (∀ ts ∈ tss', ∀ t ∈ ts, Okt t) ∧ tss'.flatten.length ≤ 500 ∧ tss'.length ≤ 500 := by
        intro H6 vs' ts' hb pl6 hk6 hok6 hl6
        have b6 : But p H5 H6 := hb.elim (fun s => Same.but s) id
        obtain ⟨_, _, _, _, _, st6⟩ := (t5.but pl5 b6).set (b6 _ _ p5 hDp) hq1 ht1
        refine ⟨tss.set pn ts', (q5.trans b6).updN z3, pl6.put htp htc, (st6 vs' ts' hk6).r, okt_set hok hok6, ?_, by rw [List.length_set]; omega⟩
        have := flat_set (tss := tss) (i := pn) (ts' := ts')
        omega
      -- the list of turns changed
      have listD : ∀ (H6 : Hp) (prs' : List (Addr × List Tk)), But p H5 H6 → Pl H6 p c → H6 D = some (.lst (qs.map V.ref)) → (∀ r ∈ prs', r ∈ prs ∨ ∃ vs, H6 r.1 = some (.lst vs) ∧ r.1 ≠ D ∧ Tks K H6 vs r.2 ∧ ∀ t ∈ r.2, Okt t) → (prs'.map (·.2)).flatten.length ≤ 500 → prs'.length ≤ 500 →
          ∃ tss', But p H (upd H6 D (.lst (prs'.map fun r => V.ref r.1))) ∧ Pl (upd H6 D (.lst (prs'.map fun r => V.ref r.1))) p c ∧ TR K (upd H6 D (.lst (prs'.map fun r => V.ref r.1))) D tss' ∧ (∀ ts ∈ tss', ∀ t ∈ ts, Okt t) ∧ tss'.flatten.length ≤ 500 ∧ tss'.length ≤ 500 := by
        intro H6 prs' b6 pl6 d6 hr hl1 hl2
        refine ⟨prs'.map (·.2), (q5.trans b6).updN hD, pl6.put hDp hDc, TR.of_prs upd_same fun r hrm => ?_, fun us hus t htu => ?_, hl1, by rw [List.length_map]; exact hl2⟩
        · rcases hr r hrm with h | ⟨vs, h1, h2, h3, _⟩
          · obtain ⟨vs, h1, h2⟩ := pr3 r h
            have h3 : r.1 ≠ D := fun e => by
              have hm : r.1 ∈ qs := by rw [← pr1]; exact List.mem_map.mpr ⟨r, h, rfl⟩
              exact (t5.ps p5).2.2 (e ▸ hm)
            exact ⟨vs, by rw [L2.upd_ne h3]; exact b6 _ _ h1 (lst_ne pl5 h1), Tks.updL d6 (DpAll.kp (pl5.kp b6) h2)⟩
          · exact ⟨vs, by rw [L2.upd_ne h2]; exact h1, h3.updL d6⟩
        · obtain ⟨r, hrm, rfl⟩ := List.mem_map.mp hus
          rcases hr r hrm with h | ⟨_, _, _, _, h4⟩
          · exact hok r.2 (by rw [← pr2]; exact List.mem_map.mpr ⟨r, h, rfl⟩) t htu
          · exact h4 t htu
      refine ⟨_, rfl, _, rfl, tp, _, _, .ref a, rfl, rfl, .inl (.inl v5), atI_nat hva, ?_⟩
      refine ⟨fun σ' H' => (∃ y2 y4 y5 y6 y7 : Option V, σ' = [some (.ref p), some (.ref q), y2, some (.ref D), y4, y5, y6, y7]) ∧ ∃ tss', But p H H' ∧ Pl H' p c ∧ TR K H' D tss' ∧ (∀ ts ∈ tss', ∀ t ∈ ts, Okt t) ∧ tss'.flatten.length ≤ 500 ∧ tss'.length ≤ 500, ?_, ?_⟩
      · refine ⟨_, rfl, rfl, _, rfl, ?_⟩
        by_cases e0 : wn = 0
        · refine ifT (decide_eq_true (by rw [e0]; rfl)) ⟨_, rfl, .inl ⟨rfl, _, .inl (.inl v5)⟩, _, rfl, tp, vs3, (an : Int), an, _, rfl, rfl, v5, by omega, by omega, seq_nat (by omega), hva, ⟨⟨_, _, _, _, _, rfl⟩, ?_⟩⟩
          rw [List.eraseIdx_eq_take_drop_succ]
          refine turnD H5 _ (ts.take an ++ ts.drop (an + 1)) (.inl (Same.refl _)) pl5 ((k5.take an).app (k5.drop (an + 1))) (fun x hx => ?_) ?_
          · rcases List.mem_append.mp hx with hx | hx
            · exact hokt x (List.mem_of_mem_take hx)
            · exact hokt x (List.mem_of_mem_drop hx)
          · rw [List.length_append, List.length_take, List.length_drop]; omega
        refine ifF (decide_eq_false (by intro z; injection z with z; omega)) ⟨_, rfl, rfl, _, rfl, ?_⟩
        by_cases e1 : wn = 1
        · refine ifT (decide_eq_true (by rw [e1]; rfl)) ⟨_, rfl, .inl ⟨rfl, _, .inl (.inl v5)⟩, _, rfl, ?_⟩
          refine one_menu rfl pl5 (menu_of (ds := menu5) (by repeat' (first | exact layA_nil | refine layA_cons ?_ ?_ | exact lay_str | exact lay_int | exact lay_bl | exact lay_non | refine lay_tup ?_ (by decide) | refine lay_lst ?_ (by decide)))) (by decide) (by decide) fun v d H6 hd b6 pl6 dv => ?_
          obtain ⟨t1, ht1, rfl⟩ := menu5_ok hd
          have k6 : Tks K H6 vs3 ts := DpAll.kp (pl5.kp b6) k5
          refine ⟨tp, vs3, (an : Int), v, rfl, rfl, b6 _ _ v5 htp, lt_sz (by omega), by omega, by omega, ⟨⟨_, _, _, _, _, rfl⟩, ?_⟩⟩
          rw [Int.toNat_natCast]
          refine turnD H6 _ (ts.take an ++ [t1] ++ ts.drop an) (.inr b6) pl6 (((k6.take an).app (Tks.one dv)).app (k6.drop an)) (fun x hx => ?_) ?_
          · rcases List.mem_append.mp hx with hx | hx
            · rcases List.mem_append.mp hx with hx | hx
              · exact hokt x (List.mem_of_mem_take hx)
              · rw [List.mem_singleton.mp hx]; exact ht1
            · exact hokt x (List.mem_of_mem_drop hx)
          · rw [List.length_append, List.length_append, List.length_take, List.length_drop, List.length_singleton]; omega
        refine ifF (decide_eq_false (by intro z; injection z with z; omega)) ⟨_, rfl, rfl, _, rfl, ?_⟩
        have takeL : (prs.take pn ++ prs.drop (pn + 1)).length ≤ 500 := by rw [List.length_append, List.length_take, List.length_drop]; omega
        -- the last way, at any heap
        have appD : ∀ (H6 : Hp) (l : Addr) (v : V) (t1 : Tk), But p H5 H6 → Pl H6 p c → H6 l = none → Dp K H6 v t1.d → Okt t1 → ∃ tss', But p H (upd (upd H6 l (.lst [v])) D (.lst (qs.map V.ref ++ [.ref l]))) ∧ Pl (upd (upd H6 l (.lst [v])) D (.lst (qs.map V.ref ++ [.ref l]))) p c ∧ TR K (upd (upd H6 l (.lst [v])) D (.lst (qs.map V.ref ++ [.ref l]))) D tss' ∧ (∀ ts ∈ tss', ∀ t ∈ ts, Okt t) ∧ tss'.flatten.length ≤ 500 ∧ tss'.length ≤ 500 := by
          intro H6 l v t1 b6 pl6 hl dv ho
          have sl := Same.new (o := .lst [v]) hl
          have e : qs.map V.ref ++ [.ref l] = (prs ++ [(l, [t1])]).map fun r => V.ref r.1 := by rw [List.map_append, hqv]; rfl
          rw [e]
          have d6 := b6 _ _ p5 hDp
          refine listD (upd H6 l (.lst [v])) (prs ++ [(l, [t1])]) (b6.trans (Same.but sl)) (pl6.mono sl) (sl _ _ d6) (fun r hr => ?_) ?_ ?_
          · rcases List.mem_append.mp hr with hr | hr
            · exact .inl hr
            · rw [List.mem_singleton.mp hr]
              exact .inr ⟨[v], upd_same, fun e => (by rw [show l = D from e, d6] at hl; cases hl), Tks.one (dv.mono sl), fun x hx => (by rw [List.mem_singleton.mp hx]; exact ho)⟩
          · rw [List.map_append, List.flatten_append, List.length_append, pr2]
            show _ + 1 ≤ _
            omega
          · rw [List.length_append, hprl]
            show _ + 1 ≤ _
            omega
        by_cases e2 : wn = 2
        · subst e2
          refine ifT rfl ⟨_, rfl, a, _, 0, _, rfl, rfl, hqa, atI_zero _ _, sz_lit (by show 3 ≤ 100000; decide), fun o1 ho1 => ⟨o1, _, rfl, .inr (.inl (.inl upd_same)), rfl, flat_strs ["answer", "rang", "dropped"], _, rfl, ?_⟩⟩
          rw [num_in hkt]
          have so := Same.new (o := .tup [.str "answer", .str "rang", .str "dropped"]) ho1
          have v6 := so _ _ v5
          have p6 := so _ _ p5
          have qa6 := hqa.mono so
          have pl6 := pl5.mono so
          revert so v6 p6 qa6 pl6
          generalize upd H5 o1 _ = H6
          intro so v6 p6 qa6 pl6
          cases hnn2 : t.n with
          | some n =>
            refine ifT rfl ⟨_, rfl, a, _, 0, _, rfl, rfl, qa6, atI_zero _ _, _, rfl, p, c, 9, rfl, pl6, by decide, fun r H7 r1 r2 b7 pl7 => ⟨sz2 _ _, fun p8 hp8 => ?_⟩⟩
            obtain ⟨m, rfl⟩ := Int.eq_ofNat_of_zero_le r1
            have qa7 := qa6.kp (pl6.kp b7)
            have s8 := Same.new (o := .tup [.str t.k, .int (m : Int)]) hp8
            have c8 : SqT K (upd H7 p8 (.tup [.str t.k, .int (m : Int)])) p8 [.str t.k, .int (m : Int)] := .inl (.inl upd_same)
            have q8 := qa7.mono s8
            have b8 := ((Same.but so : But p H5 H6).trans b7).trans (Same.but s8)
            have pl8 := pl7.mono s8
            revert c8 q8 b8 pl8
            generalize upd H7 p8 (.tup [.str t.k, .int (m : Int)]) = H8
            intro c8 q8 b8 pl8
            refine ⟨_, rfl, 2, rfl, ?_⟩
            refine rd_slN (lo := some 2) q8 fun p9 H9 s9 q9 => ?_
            rw [tk_tail hnn2] at q9
            refine rd_catA (c8.mono s9) q9 (by rw [List.length_map]; have := tk_len hkt; show 2 + t.ws.length ≤ 100000; omega) fun p10 H10 s10 q10 => ?_
            rw [tk_ren hnn2] at q10
            have b10 := (b8.trans (Same.but s9)).trans (Same.but s10)
            have pl10 := (pl8.mono s9).mono s10
            refine ⟨_, rfl, _, rfl, tp, vs3, (an : Int), an, rfl, rfl, b10 _ _ v5 htp, ixN_nat (by omega), ⟨⟨_, _, _, _, _, rfl⟩, ?_⟩⟩
            have k10 : Tks K H10 vs3 ts := DpAll.kp (pl5.kp b10) k5
            refine turnD H10 _ (ts.set an (ren t m)) (.inr b10) pl10 (k10.set (tk_dp q10) an) (fun x hx => ?_) (by rw [List.length_set]; omega)
            rcases List.mem_or_eq_of_mem_set hx with h2 | rfl
            · exact hokt x h2
            · exact ren_ok hkt (by rw [hnn2]; rfl)
          | none =>
            refine ifF rfl ⟨_, rfl, rfl, _, rfl, ifF rfl ⟨_, rfl, rfl, _, rfl, ifF rfl ⟨_, rfl, rfl, _, rfl, ifF rfl ⟨_, rfl, .inl ⟨rfl, _, .inl (.inl p6)⟩, ?_⟩⟩⟩⟩
            refine one_menu rfl pl6 (menu_of (ds := menu4) (by repeat' (first | exact layA_nil | refine layA_cons ?_ ?_ | exact lay_str | exact lay_int | exact lay_bl | exact lay_non | refine lay_tup ?_ (by decide) | refine lay_lst ?_ (by decide)))) (by decide) (by decide) fun v d H7 hd b7 pl7 dv => ⟨sz1 _, fun l hl => ?_⟩
            obtain ⟨t1, ht1, rfl⟩ := menu4_ok hd
            have b57 := (Same.but so : But p H5 H6).trans b7
            refine ⟨D, _, _, rfl, rfl, Same.new (o := .lst [v]) hl _ _ (b57 _ _ p5 hDp), lt_sz (by rw [List.length_map]; omega), ⟨⟨_, _, _, _, _, rfl⟩, appD H7 l v t1 b57 pl7 hl dv ht1⟩⟩
        refine ifF (decide_eq_false (by intro z; injection z with z; omega)) ⟨_, rfl, rfl, _, rfl, ?_⟩
        obtain ⟨rr, hrr, hr1, hr2⟩ := hpk
        by_cases e3 : wn = 3
        · refine ifT (decide_eq_true (by rw [e3]; rfl)) ⟨_, rfl, .inl ⟨rfl, _, .inl (.inl p5)⟩, _, rfl, D, qs.map V.ref, (pn : Int), pn, .ref tp, rfl, rfl, p5, by omega, by omega, seq_nat (by rw [List.length_map]; omega), by rw [List.getElem?_map, hq1]; rfl, ⟨⟨_, _, _, _, _, rfl⟩, ?_⟩⟩
          rw [List.eraseIdx_eq_take_drop_succ, hqv, ← List.map_take, ← List.map_drop, ← List.map_append]
          refine listD H5 (prs.take pn ++ prs.drop (pn + 1)) (Same.but (Same.refl _)) pl5 p5 (fun r hr => .inl ?_) ?_ takeL
          · rcases List.mem_append.mp hr with hr | hr
            · exact List.mem_of_mem_take hr
            · exact List.mem_of_mem_drop hr
          · rw [List.map_append, List.map_take, List.map_drop, pr2, List.flatten_append]
            exact Nat.le_trans (flat_td (Nat.le_succ _)) (by omega)
        refine ifF (decide_eq_false (by intro z; injection z with z; omega)) ⟨_, rfl, rfl, _, rfl, ?_⟩
        by_cases e4 : wn = 4
        · refine ifT (decide_eq_true (by rw [e4]; rfl)) ⟨_, rfl, .inl ⟨rfl, _, .inl (.inl p5)⟩, _, rfl, _, rfl, D, qs.map V.ref, (pn : Int), .ref tp, rfl, rfl, p5, lt_sz (by rw [List.length_map]; omega), by omega, by omega, ⟨⟨_, _, _, _, _, rfl⟩, ?_⟩⟩
          rw [Int.toNat_natCast, hqv, ← List.map_take, ← List.map_drop, show [V.ref tp] = [rr].map (fun r => V.ref r.1) by rw [← hr1]; rfl, ← List.map_append, ← List.map_append]
          refine listD H5 (prs.take pn ++ [rr] ++ prs.drop pn) (Same.but (Same.refl _)) pl5 p5 (fun r hr => .inl ?_) ?_ ?_
          · rcases List.mem_append.mp hr with hr | hr
            · rcases List.mem_append.mp hr with hr | hr
              · exact List.mem_of_mem_take hr
              · rw [List.mem_singleton.mp hr]; exact List.mem_of_getElem? hrr
            · exact List.mem_of_mem_drop hr
          · rw [List.map_append, List.map_append, List.map_take, List.map_drop, pr2, List.flatten_append, List.flatten_append, List.length_append, List.length_append]
            have h1 := flat_td (tss := tss) (Nat.le_refl pn)
            rw [List.length_append] at h1
            show _ + ([rr.2].flatten).length + _ ≤ _
            rw [List.flatten_singleton, hr2]
            omega
          · rw [List.length_append, List.length_append, List.length_take, List.length_drop, List.length_singleton]; omega
        refine ifF (decide_eq_false (by intro z; injection z with z; omega)) ⟨_, rfl, rfl, _, rfl, ?_⟩
        by_cases e5 : wn = 5
        · refine ifT (decide_eq_true (by rw [e5]; rfl)) ⟨_, rfl, .inl ⟨rfl, _, .inl (.inl p5)⟩, _, rfl, sz_lit (by decide), fun l hl => ?_⟩
          have sl := Same.new (o := .lst []) hl
          refine ⟨D, qs.map V.ref, (pn : Int), .ref l, rfl, rfl, sl _ _ p5, lt_sz (by rw [List.length_map]; omega), by omega, by omega, ⟨⟨_, _, _, _, _, rfl⟩, ?_⟩⟩
          rw [Int.toNat_natCast, hqv, ← List.map_take, ← List.map_drop, show [V.ref l] = [(l, ([] : List Tk))].map (fun r => V.ref r.1) from rfl, ← List.map_append, ← List.map_append]
          refine listD (upd H5 l (.lst [])) (prs.take pn ++ [(l, [])] ++ prs.drop pn) (Same.but sl) (pl5.mono sl) (sl _ _ p5) (fun r hr => ?_) ?_ ?_
          · rcases List.mem_append.mp hr with hr | hr
            · rcases List.mem_append.mp hr with hr | hr
              · exact .inl (List.mem_of_mem_take hr)
              · rw [List.mem_singleton.mp hr]
                exact .inr ⟨[], upd_same, fun e => (by rw [show l = D from e, p5] at hl; cases hl), .nil, fun x hx => (List.not_mem_nil hx).elim⟩
            · exact .inl (List.mem_of_mem_drop hr)
          · rw [List.map_append, List.map_append, List.map_take, List.map_drop, pr2, List.flatten_append, List.flatten_append, List.length_append, List.length_append]
            have h1 := flat_td (tss := tss) (Nat.le_refl pn)
            rw [List.length_append] at h1
            show _ + 0 + _ ≤ _
            omega
          · rw [List.length_append, List.length_append, List.length_take, List.length_drop, List.length_singleton]; omega
        refine ifF (decide_eq_false (by intro z; injection z with z; omega)) ⟨_, rfl, .inl ⟨rfl, _, .inl (.inl p5)⟩, ?_⟩
        refine one_menu rfl pl5 (menu_of (ds := menu4) (by repeat' (first | exact layA_nil | refine layA_cons ?_ ?_ | exact lay_str | exact lay_int | exact lay_bl | exact lay_non | refine lay_tup ?_ (by decide) | refine lay_lst ?_ (by decide)))) (by decide) (by decide) fun v d H7 hd b7 pl7 dv => ⟨sz1 _, fun l hl => ?_⟩
        obtain ⟨t1, ht1, rfl⟩ := menu4_ok hd
        exact ⟨D, _, _, rfl, rfl, Same.new (o := .lst [v]) hl _ _ (b7 _ _ p5 hDp), lt_sz (by rw [List.length_map]; omega), ⟨⟨_, _, _, _, _, rfl⟩, appD H7 l v t1 b7 pl7 hl dv ht1⟩⟩
      · rintro σ' H' ⟨⟨y2, y4, y5, y6, y7, rfl⟩, tss', b', pl', tr', ok', l1', l2'⟩
        exact ⟨_, rfl, k D tss' H' b' pl' tr' ok' l1' l2'⟩
end
end Op
set_option pp.maxSteps 500
namespace Op
open PySem L2 PyProof.Rows
/-! ### histories are data that may be compared -/
theorem word_ok {w : Str} (h : isWordS w = true) : PyData.canLay0 (.str w) = true := by
  have h2 := (Bool.and_eq_true_iff.mp h).2
  have h3 : ∀ c ∈ letters.cps.toList, c < 0x110000 := by decide +kernel
  simp only [PyData.canLay0]
  show w.cps.all _ = true
  rw [← Array.all_toList]
  exact List.all_eq_true.mpr fun c hc => decide_eq_true (h3 c (of_decide_eq_true (List.all_eq_true.mp h2 c hc)))
theorem key_ok {t : Tk} (h : Okt t) : PyData.canLay0 (.str t.k) = true := by
  obtain ⟨f, h1, _⟩ := h
  have h2 : ∀ p ∈ forms, PyData.canLay0 (.str p.1) = true := by decide +kernel
  exact h2 _ (look_mem h1)
theorem lay_words : ∀ ws : List Str, (∀ w ∈ ws, isWordS w = true) → PyData.canLayAll0 (ws.map .str) = true ∧ PyData.depthAll (ws.map .str) ≤ 1
  | [], _ => ⟨by simp [PyData.canLayAll0], by simp [PyData.depthAll]⟩
  | x :: r, h => by
    have g := lay_words r fun w hw => h w (List.mem_cons_of_mem _ hw)
    have hx := word_ok (h x List.mem_cons_self)
    refine ⟨by simp [PyData.canLayAll0, hx, g.1], ?_⟩
    have h2 := g.2
    simp only [List.map_cons, PyData.depthAll, PyData.depth]
    omega
theorem lay_tk {t : Tk} (h : Okt t) : PyData.canLay0 t.d = true ∧ PyData.depth t.d ≤ 2 := by
  have hk := key_ok h
  obtain ⟨f, _, _, hw⟩ := id h
  have g := lay_words t.ws hw
  have e : t.d = .tuple (.str t.k :: ((t.n.toList.map fun n : Nat => PyData.int (n : Int)) ++ t.ws.map .str)) := rfl
  rw [e]
  have g2 := g.2
  cases t.n with
  | none =>
    show PyData.canLay0 (.tuple (.str t.k :: t.ws.map .str)) = true ∧ PyData.depth (.tuple (.str t.k :: t.ws.map .str)) ≤ 2
    refine ⟨by simp [PyData.canLay0, PyData.canLayAll0, g.1] at hk ⊢; exact hk, ?_⟩
    simp only [PyData.depthAll, PyData.depth]
    omega
  | some n =>
    show PyData.canLay0 (.tuple (.str t.k :: .int (n : Int) :: t.ws.map .str)) = true ∧ PyData.depth (.tuple (.str t.k :: .int (n : Int) :: t.ws.map .str)) ≤ 2
    refine ⟨by simp [PyData.canLay0, PyData.canLayAll0, g.1] at hk ⊢; exact hk, ?_⟩
    simp only [PyData.depthAll, PyData.depth]
    omega
theorem lay_tks : ∀ ts : List Tk, (∀ t ∈ ts, Okt t) → PyData.canLayAll0 (ts.map Tk.d) = true ∧ PyData.depthAll (ts.map Tk.d) ≤ 2
  | [], _ => ⟨by simp [PyData.canLayAll0], by simp [PyData.depthAll]⟩
  | x :: r, h => by
    have g := lay_tks r fun w hw => h w (List.mem_cons_of_mem _ hw)
    have hx := lay_tk (h x List.mem_cons_self)
    refine ⟨by simp [PyData.canLayAll0, hx.1, g.1], ?_⟩
    have h2 := g.2
    have h3 := hx.2
    simp only [List.map_cons, PyData.depthAll]
    omega
theorem tks_shaped {ts : List Tk} (h : ∀ t ∈ ts, Okt t) : SeqAt.shaped (.list (ts.map Tk.d)) = true ∧ PyData.eqv (.list (ts.map Tk.d)) (.list (ts.map Tk.d)) = true := by
  have g := lay_tks ts h
  have g2 := g.2
  have c : PyData.canLay0 (.list (ts.map Tk.d)) = true := by simp only [PyData.canLay0]; exact g.1
  refine ⟨?_, SeqAt.eqv_refl _ c⟩
  show (PyData.canLay0 (.list (ts.map Tk.d)) && decide (PyData.depth (.list (ts.map Tk.d)) ≤ 64)) = true
  rw [Bool.and_eq_true]
  refine ⟨c, decide_eq_true ?_⟩
  simp only [PyData.depth]
  omega
/-! ### values that are no turns -/
def wsB : PyData → Bool
  | .tuple (_ :: ps) => ps.all fun x => match x with | .str s => decide (s.length ≤ 100000) | _ => true
  | _ => true
def shortB : PyData → Bool
  | .list ds => ds.all fun e => match e with | .list es => es.all wsB | _ => true
  | _ => true
theorem short_of {d : PyData} (h : wsB d = true) : Short d := by
  intro k ps e x hx
  subst e
  exact of_decide_eq_true (List.all_eq_true.mp h _ hx)
theorem shortT_of {d : PyData} (h : shortB d = true) : ShortT d := by
  intro ds e es hes t ht
  subst e
  exact short_of (List.all_eq_true.mp (List.all_eq_true.mp h _ hes) t ht)
/-- more turns behind the law's own -/
theorem areT_more {tss : List (List Tk)} {d : PyData} (h : hasForm d = false) : areT (.list ((tss.map fun ts => .list (ts.map Tk.d)) ++ [.list [d]])) = false := by
  refine Bool.eq_false_iff.mpr fun z => ?_
  have h1 := List.all_eq_true.mp z (.list [d]) (List.mem_append_right _ List.mem_cons_self)
  have h2 := List.all_eq_true.mp h1 d List.mem_cons_self
  rw [h] at h2
  cases h2
theorem shortT_more {tss : List (List Tk)} {d : PyData} (hok : ∀ ts ∈ tss, ∀ t ∈ ts, Okt t) (h : wsB d = true) : ShortT (.list ((tss.map fun ts => .list (ts.map Tk.d)) ++ [.list [d]])) := by
  intro ds e es hes t ht
  injection e with e
  subst e
  rcases List.mem_append.mp hes with hes | hes
  · exact tss_short hok _ rfl es hes t ht
  · have := List.mem_singleton.mp hes
    injection this with this
    subst this
    rw [List.mem_singleton.mp ht]
    exact short_of h
theorem TR.all {K : PySem.W.Frag} {H : Hp} {q : Addr} {tss : List (List Tk)} (h : TR K H q tss) : ∃ ps : List Addr, H q = some (.lst (ps.map V.ref)) ∧ ps.length = tss.length ∧ DpAll K H (ps.map V.ref) (tss.map fun ts => .list (ts.map Tk.d)) := by
  obtain ⟨ps, h1, h2, h3⟩ := h
  refine ⟨ps, h1, h2, ?_⟩
  clear h1
  induction ps generalizing tss with
  | nil =>
    cases tss with
    | nil => exact .nil
    | cons _ _ => cases h2
  | cons p r ih =>
    cases tss with
    | nil => cases h2
    | cons ts tr =>
      obtain ⟨vs, e1, e2⟩ := h3 0 p ts rfl rfl
      exact .cons (.lst (.inl (.inl e1)) e2) (ih (tss := tr) (Nat.succ.inj h2) fun i p ts a b => h3 (i + 1) p ts a b)
section
variable {K : PySem.W.Frag} {σ : L2.St} {I : Hp → Prop}
def LayT (I : Hp → Prop) (K : PySem.W.Frag) (σ : L2.St) (te : TE) : Prop := ∀ (H : Hp) (Q : VK), I H → (∀ v H', Same H H' → TD K H' v refD → Q v H') → te σ H Q
def LaysT (I : Hp → Prop) (K : PySem.W.Frag) (σ : L2.St) (ta : TA) (n : Nat) : Prop := ∀ (H : Hp) (Q : List V → Hp → Prop), I H → (∀ vs H', Same H H' → (∀ v ∈ vs, TD K H' v refD) → vs.length = n → Q vs H') → ta σ H Q
theorem layT_nil : LaysT I K σ tNil 0 := fun H Q _ k => k [] H (Same.refl _) (fun v hv => (List.not_mem_nil hv).elim) rfl
theorem layT_cons {te : TE} {ta : TA} {n : Nat} (hI : ∀ H H', Same H H' → I H → I H') (h : LayT I K σ te) (t : LaysT I K σ ta n) : LaysT I K σ (tCons te ta) (n + 1) := fun H Q i k =>
  h H _ i fun v H1 s1 hv => t H1 _ (hI _ _ s1 i) fun vs H2 s2 hvs hn => k (v :: vs) H2 (s1.trans s2) (fun x hx => by
    rcases List.mem_cons.mp hx with rfl | hx
    · exact hv.mono s2
    · exact hvs x hx) (by rw [List.length_cons, hn])
theorem layT_lay {te : TE} {d : PyData} (h : Lays K σ te (· = d)) (h1 : shortB d = true) (h2 : areT d = false) : LayT I K σ te := fun H Q _ k =>
  h H _ fun v d' H1 e s1 hv => k v H1 s1 (.inr (.inl ⟨d', hv, by rw [e]; exact shortT_of h1, by rw [e]; exact h2, rfl⟩))
theorem numH_nil : numH [] none := fun told h => .inl (by
  obtain rfl := Option.some.inj h
  exact fun e => by cases e)
theorem numH_nil1 : numH [[]] none := fun told h => .inl (by
  obtain rfl := Option.some.inj h
  exact fun e => by cases e)
theorem layT_e : LayT I K σ (tLst tNil) := fun H Q _ k => ⟨sz_lit (by decide), fun p hp => k _ _ (Same.new hp) (.inl ⟨p, [], none, rfl, ⟨[], upd_same, rfl, fun i p ts e => by cases e⟩, fun ts hts => (List.not_mem_nil hts).elim, Nat.zero_le _, Nat.zero_le _, numH_nil, rfl⟩)⟩
theorem layT_ee : LayT I K σ (tLst (tCons (tLst tNil) tNil)) := fun H Q _ k => ⟨sz_lit (by decide), fun p hp => ⟨sz1 _, fun p2 hp2 => k _ _ ((Same.new hp).trans (Same.new hp2)) (.inl ⟨p2, [[]], none, rfl, ⟨[p], upd_same, rfl, fun i a ts e1 e2 => by
  cases i with
  | zero =>
    obtain rfl := Option.some.inj e1
    obtain rfl := Option.some.inj e2
    exact ⟨[], Same.new hp2 _ _ upd_same, .nil⟩
  | succ i => cases e1⟩, fun ts hts t ht => (by rw [List.mem_singleton.mp hts] at ht; cases ht), Nat.zero_le _, by decide, numH_nil1, rfl⟩)⟩⟩
theorem lstT_use {ta : TA} {n : Nat} {H : Hp} {Q : VK} (h : LaysT I K σ ta n) (hn : n ≤ 1000) (i : I H) (k : ∀ D vs H', Same H H' → H' D = some (.lst vs) → (∀ v ∈ vs, TD K H' v refD) → vs.length = n → Q (.ref D) H') : tLst ta σ H Q :=
  h H _ i fun vs H1 s1 hv hl => ⟨sz_lit (by omega), fun D hD => k D vs _ (s1.trans (Same.new hD)) upd_same (fun v hv' => (hv v hv').mono (Same.new hD)) hl⟩
theorem tups_upd {H : Hp} {D : Addr} {ys : List V} {o : HO} (hD : H D = some (.lst ys)) : ∀ {vs : List V} {tss : List (List Tk)}, DpAll K H vs (tss.map fun ts => .tuple (ts.map Tk.d)) → DpAll K (upd H D o) vs (tss.map fun ts => .tuple (ts.map Tk.d))
  | _, [], .nil => .nil
  | _, ts :: r, .cons (.tup h1 h2) h3 => .cons (.tup (sqt_updL h1 hD) (Tks.updL hD (ts := ts) h2)) (tups_upd hD (tss := r) h3)
theorem dpAll_app {H : Hp} : ∀ {vs us : List V} {ds es : List PyData}, DpAll K H vs ds → DpAll K H us es → DpAll K H (vs ++ us) (ds ++ es)
  | _, _, _, _, .nil, h => h
  | _, _, _, _, .cons a b, h => .cons a (dpAll_app b h)
theorem layT_more {q : Addr} {j : Nat} {tss : List (List Tk)} {tt : TE} {d : PyData} (hs : σ[j]? = some (some (.ref q))) (h : Lays K σ tt (· = d)) (h1 : wsB d = true) (h2 : hasForm d = false) (hok : ∀ ts ∈ tss, ∀ t ∈ ts, Okt t) (hn : tss.length ≤ 1000) : LayT (fun G => TR K G q tss) K σ (tOp rCat (tVar j) (tLst (tCons (tLst (tCons tt tNil)) tNil))) := fun H Q i k =>
  ⟨_, hs, h H _ fun v d' H1 e s1 hv => ⟨sz1 _, fun l1 g1 => ⟨sz1 _, fun l2 g2 => by
    obtain ⟨ps, p1, p2, p3⟩ := TR.all i
    have sa := Same.new (o := .lst [v]) g1
    have sb := Same.new (o := .lst [.ref l1]) g2
    have v1 : upd (upd H1 l1 (.lst [v])) l2 (.lst [.ref l1]) l1 = some (.lst [v]) := sb _ _ upd_same
    have v2 : upd (upd H1 l1 (.lst [v])) l2 (.lst [.ref l1]) l2 = some (.lst [.ref l1]) := upd_same
    have hv2 := (hv.mono sa).mono sb
    have s2 := (s1.trans sa).trans sb
    refine ⟨q, l2, _, _, rfl, rfl, s2 _ _ p1, v2, sz_lit (by rw [List.length_map]; show ps.length + 1 ≤ _; omega), fun l3 g3 => k _ _ (s2.trans (Same.new g3)) ?_⟩
    refine .inr (.inl ⟨.list ((tss.map fun ts => .list (ts.map Tk.d)) ++ [.list [d']]), .lst (.inl (.inl upd_same)) (dpAll_app (DpAll.mono (s2.trans (Same.new g3)) p3) (.cons (.lst (.inl (.inl (Same.new g3 _ _ v1))) (.cons (hv2.mono (Same.new g3)) .nil)) .nil)), ?_, ?_, rfl⟩)
    · rw [e]; exact shortT_more hok h1
    · rw [e]; exact areT_more h2⟩⟩⟩
theorem layT_dict : LayT I K σ tDNewK := fun H Q _ k p hp => k _ _ (Same.new hp) (.inr (.inr ⟨p, [], rfl, upd_same, rfl⟩))
end
end Op
set_option pp.maxSteps 500
namespace Op
open PySem L2 PyProof.Rows
/-- tuple(..) of a list or a tuple -/
def rTupOf (K : PySem.W.Frag) : List V → Hp → VK → Prop := fun xs H Q => ∃ p ys, xs = [.ref p] ∧ ((SqL K H p ys ∧ ∀ l, H l = none → Q (.ref l) (upd H l (.tup ys))) ∨ (SqT K H p ys ∧ Q (.ref p) H))
section
variable {K : PySem.W.Frag} {H H' : Hp}
theorem TR.but {p c q : Addr} {tss : List (List Tk)} (h : TR K H q tss) (pl : Pl H p c) (b : But p H H') : TR K H' q tss := by
  obtain ⟨ps, h1, h2, h3⟩ := h
  refine ⟨ps, b _ _ h1 (lst_ne pl h1), h2, fun i a us e1 e2 => ?_⟩
  obtain ⟨ws, h8, h9⟩ := h3 i a us e1 e2
  exact ⟨ws, b _ _ h8 (lst_ne pl h8), DpAll.kp (pl.kp b) h9⟩
/-- the law's own values -/
structure LS (K : PySem.W.Frag) (H : Hp) (p c l q : Addr) (us : List V) (ts : List Tk) (tss : List (List Tk)) : Prop where
  pl : Pl H p c
  el : H l = some (.lst us)
  tk : Tks K H us ts
  tr : TR K H q tss
theorem LS.same {p c l q : Addr} {us : List V} {ts : List Tk} {tss : List (List Tk)} (h : LS K H p c l q us ts tss) (s : Same H H') : LS K H' p c l q us ts tss := ⟨h.pl.mono s, s _ _ h.el, h.tk.mono s, h.tr.mono s⟩
theorem LS.but {p c l q : Addr} {us : List V} {ts : List Tk} {tss : List (List Tk)} (h : LS K H p c l q us ts tss) (b : But p H H') (pl : Pl H' p c) : LS K H' p c l q us ts tss := ⟨pl, b _ _ h.el (lst_ne h.pl h.el), DpAll.kp (h.pl.kp b) h.tk, h.tr.but h.pl b⟩
theorem LS.dp {p c l q : Addr} {us : List V} {ts : List Tk} {tss : List (List Tk)} (h : LS K H p c l q us ts tss) : Dp K H (.ref l) (.list (ts.map Tk.d)) := .lst (.inl (.inl h.el)) h.tk
end
theorem ageTurns_ne {tss : List (List Tk)} {ns : List Nat} {st : Nat} (h : tss ≠ []) : ageTurns tss ns st ≠ [] := by
  cases tss with
  | nil => exact absurd rfl h
  | cons a r => exact fun e => by cases e
theorem ageTurns_nn : ∀ {tss : List (List Tk)} {ns : List Nat} {st : Nat}, [] ∉ tss → [] ∉ ageTurns tss ns st
  | [], _, _, _ => List.not_mem_nil
  | a :: r, ns, st, h => fun hm => by
    rcases List.mem_cons.mp hm with e | hm
    · have := age_len a ⟨ns, ns, [], st⟩
      have e2 : ((a.foldl ageT ⟨ns, ns, [], st⟩).tk).length = 0 := congrArg List.length e.symm
      have h0 : a.length = 0 := by
        have h3 : ((a.foldl ageT ⟨ns, ns, [], st⟩).tk).length = 0 + a.length := this
        omega
      exact h (List.mem_cons.mpr (.inl (List.length_eq_zero_iff.mp h0).symm))
    · exact ageTurns_nn (fun z => h (List.mem_cons_of_mem _ z)) hm
theorem smK_told {o : Option (List Tk)} (h : ∀ ts, o = some ts → (∀ t ∈ ts, Okt t) ∧ ts.length ≤ 1000) {n : Nat} : smK (n + 4) (toldD o) := by
  cases o with
  | none =>
    refine ⟨by decide, fun d hd => ?_⟩
    rcases List.mem_cons.mp hd with rfl | hd
    · show ("refused" : Str).length ≤ 100000
      decide +kernel
    · rw [List.mem_singleton.mp hd]
      show ("turns" : Str).length ≤ 100000
      decide +kernel
  | some ts =>
    obtain ⟨h1, h2⟩ := h ts rfl
    refine ⟨by show 2 ≤ 10000; decide, fun d hd => ?_⟩
    rcases List.mem_cons.mp hd with rfl | hd
    · show ("told" : Str).length ≤ 100000
      decide +kernel
    · rw [List.mem_singleton.mp hd]
      exact smK_tks h1 h2
theorem back_ok {tss : List (List Tk)} {h : List Tk} (hok : ∀ ts ∈ tss, ∀ t ∈ ts, Okt t) (hn : tss.flatten.length ≤ 1000) (e : lawBack tss = some h) : (∀ t ∈ h, Okt t) ∧ h.length ≤ 1000 := by
  obtain ⟨told, e1, e2, _⟩ := back_some hok e
  subst e2
  obtain ⟨_, t2, t3⟩ := numTurns_tk e1
  exact ⟨t3 hok, by omega⟩
section
variable {P : Program} {w : World} {K : PySem.W.Frag} {mg : Str → Option Value} {base : Heap} {pF pO pN pL CH CA : Addr}
/-- name = e, then the rest: what is read of e -/
theorem seq_asg {te : TE} {g : TG} {u : TS} {D : Ends} {σ : L2.St} {H : Hp} (h : te σ H fun x H1 => g x σ H1 (u D)) : tSeq (tAsg te g) u D σ H := h
theorem seq_asg2 {r : R2} {tb : TE} {j : Nat} {v : V} {g : TG} {u : TS} {D : Ends} {σ : L2.St} {H : Hp} (hs : σ[j]? = some (some v)) (h : tb σ H fun y H1 => r v y H1 fun x H2 => g x σ H2 (u D)) : tSeq (tAsg (tOp r (tVar j) tb) g) u D σ H := ⟨v, hs, h⟩
def spLaw (K : PySem.W.Frag) : Sp := fun vs H Q _ => ∃ (a : Addr) (ns : List Int), vs = [.ref a] ∧ SqL K H a (ns.map V.int) ∧ ns.length ≤ 63 ∧ ∀ H', Q (.bl true) H'
theorem sc_law : FnScope ["_law_script", "_law_bag_here", "_law_history_here", "_law_turns_here", "_law_handed", "_law_given", "_law_changed_here", "_law_due", "_law_bad", "_law_value", "_law_turn"] ["_law_script"] (defScope s_law) := ⟨rfl, rfl, rfl, by decide +kernel, rfl, by decide +kernel, by decide +kernel⟩
theorem ok_law {f : Addr} {fd : FuncData} (F : Fun K "law" "law" s_law f fd) (T : Txt mg) (c__law_bag : Cal P w K mg base CX0 1 "_law_bag" ["_law_script"] (spBag K)) (c__law_history : Cal P w K mg base CX0 3 "_law_history" ["_law_bag_here"] (spLHist K)) (c__law_turns : Cal P w K mg base CX0 1 "_law_turns" ["_law_history_here"] (spLTurns K))
    (c__law_same : Cal P w K mg base CX0 9 "_law_same" ["_law_told_here", "_law_due"] (spSame K 8)) (c__law_told : Cal P w K mg base CX0 11 "_law_told" ["_law_turns_here"] (spLTold K)) (c__law_back : Cal P w K mg base CX0 1 "_law_back" ["_law_turns_here"] (spLBack K)) (c__law_changed : Cal P w K mg base CX0 3 "_law_changed" ["_law_bag_here", "_law_turns_here"] (spLChg K))
    (c_aged : Cal P w K mg base (L2.CX P w) 4 "aged" ["history"] (spAged K)) (c_numbered : Cal P w K mg base (L2.CX P w) 10 "numbered" ["turns"] (spNumd K CA)) : FnOk P w K mg base CX0 12 f fd ["_law_script"] (spLaw K) := by
  refine F.ok sc_law (fun vs H Q E h => ?_) (fun cdv A outer s H vs Q E hr h => ?_)
  · obtain ⟨a, ns, rfl, _⟩ := h
    rfl
  · obtain ⟨a, ns, rfl, ha, hns, k⟩ := h
    refine ⟨_, (pss_cons (ps_set (i := 1) sc_law.nd rfl (.inl rfl) (pe_cal c__law_bag (hr.mono (by omega)) rfl pass0 (pa_cons (pv 0) pa_nil)))
      (pss_cons (ps_set (i := 2) sc_law.nd rfl (.inl rfl) (pe_cal c__law_history (hr.mono (by omega)) rfl pass0 (pa_cons (pv 1) pa_nil)))
      (pss_cons (ps_set (i := 3) sc_law.nd rfl (.inl rfl) (pe_cal c__law_turns (hr.mono (by omega)) rfl pass0 (pa_cons (pv 2) pa_nil)))
      (pss_cons (ps_set (i := 4) sc_law.nd rfl (.inl rfl) (pe_callTy call_list_of (by rfl) T.b_list (by decide +kernel) (pa_cons (pv 2) pa_nil)))
      (pss_cons (ps_if (PW.pt (pw_or (pt_not (pt_val (pe_cal c__law_same (hr.mono (by omega)) rfl pass0 (pa_cons (pe_cal c_aged (hr.mono (by omega)) rfl (passes_call takes0 (fun _ _ _ _ h => h)) (pa_cons (pv 4) pa_nil)) (pa_cons (pv 3) pa_nil))))) (pw_or1 (pt_cmpR (op_neD hr.units) (pv 4) (pv 2) (nomark _))))) (pss_one (ps_ret pe_bl)) pss_nil)
      (pss_cons (ps_expr (pe_bm PySem.F.plainAttrs_list PySem.F.slot_list_append PySem.F.type_list_append mt_append (pe_ix ix_list (pe_cal c_aged (hr.mono (by omega)) rfl (passes_call takes0 (fun _ _ _ _ h => h)) (pa_cons (pv 4) pa_nil)) pe_int (fun _ _ => rfl)) (pa_cons (pe_tup (pa_cons pe_str pa_nil)) pa_nil)))
      (pss_cons (ps_setLc (i := 5) (own := [("_law_turn", 10)]) (g := gName 10) (tt := tYes) rfl sc_law.nd rfl rfl (sw_true rfl rfl rfl (by decide +kernel)) (pi_list (pv 3)) (blkOk_by (own := [("_law_turn", 10)]) (N := ["_law_script", "_law_bag_here", "_law_history_here", "_law_turns_here", "_law_handed", "_law_given", "_law_changed_here", "_law_due", "_law_bad", "_law_value", "_law_turn"]) (sc := defScope s_law) (by decide +kernel)) (fun _ _ _ _ _ => (pg_name (i := 10) sc_law.nd rfl (.inl rfl))) (fun _ _ _ _ _ => pts_nil) (fun _ _ _ _ _ => (pe_callTy (T := "list") (r := rListOf K) call_list_of (by rfl) T.b_list (by decide +kernel) (pa_cons (pv 10) pa_nil))))
      (pss_cons (ps_if (PW.pt (pw_or (pt_not (pt_val (pe_cal c__law_same (hr.mono (by omega)) rfl pass0 (pa_cons (pe_cal c__law_told (hr.mono (by omega)) rfl pass0 (pa_cons (pv 5) pa_nil)) (pa_cons (pe_tup (pa_cons pe_str (pa_cons (pv 2) pa_nil))) pa_nil))))) (pw_or1 (pt_not (pt_val (pe_cal c__law_same (hr.mono (by omega)) rfl pass0 (pa_cons (pv 5) (pa_cons (pv 3) pa_nil)))))))) (pss_one (ps_ret pe_bl)) pss_nil)
      (pss_cons (ps_expr (pe_bm0 PySem.F.plainAttrs_list PySem.F.slot_list_clear PySem.F.type_list_clear mt_clear (pe_cal c_numbered (hr.mono (by omega)) rfl (passes_call takes0 (fun _ _ _ _ h => h)) (pa_cons (pv 5) pa_nil))))
      (pss_cons (ps_if (pt_not (pt_val (pe_cal c__law_same (hr.mono (by omega)) rfl pass0 (pa_cons (pe_cal c_numbered (hr.mono (by omega)) rfl (passes_call takes0 (fun _ _ _ _ h => h)) (pa_cons (pv 5) pa_nil)) (pa_cons (pv 2) pa_nil))))) (pss_one (ps_ret pe_bl)) pss_nil)
      (pss_cons (ps_set (i := 6) sc_law.nd rfl (.inl rfl) (pe_cal c__law_changed (hr.mono (by omega)) rfl pass0 (pa_cons (pv 1) (pa_cons (pv 3) pa_nil))))
      (Evl.pss_cut (ps_set (i := 7) sc_law.nd rfl (.inl rfl) (pe_cal c__law_back (hr.mono (by omega)) rfl pass0 (pa_cons (pv 6) pa_nil)))
      (Evl.pss_cut (ps_if (PW.pt (pw_and (pt_cmpR op_isN (pv 7) pe_non (nomark _)) (pw_and1 (pt_not (pt_val (pe_cal c__law_same (hr.mono (by omega)) rfl pass0 (pa_cons (pe_cal c__law_told (hr.mono (by omega)) rfl pass0 (pa_cons (pv 6) pa_nil)) (pa_cons (pe_tup (pa_cons pe_str (pa_cons pe_str pa_nil))) pa_nil)))))))) (pss_one (ps_ret pe_bl)) pss_nil)
      (Evl.pss_cut (ps_if (PW.pt (pw_and (pt_cmpR op_notN (pv 7) pe_non (nomark _)) (pw_and1 (pt_not (pt_val (pe_cal c__law_same (hr.mono (by omega)) rfl pass0 (pa_cons (pe_cal c__law_told (hr.mono (by omega)) rfl pass0 (pa_cons (pv 6) pa_nil)) (pa_cons (pe_tup (pa_cons pe_str (pa_cons (pv 7) pa_nil))) pa_nil)))))))) (pss_one (ps_ret pe_bl)) pss_nil)
      (pss_cons (ps_set (i := 8) sc_law.nd rfl (.inl rfl) (pe_lst (pa_cons pe_non (pa_cons (pe_lst pa_nil) (pa_cons (pe_lst (pa_cons (pe_lst pa_nil) pa_nil)) (pa_cons (pe_tup pa_nil) (pa_cons pe_str (pa_cons (pe_lst (pa_cons pe_non pa_nil)) (pa_cons (pe_lst (pa_cons (pe_tup (pa_cons pe_str (pa_cons pe_str pa_nil))) pa_nil)) (pa_cons (pe_callTy call_tuple_of (by rfl) T.b_tuple (by decide +kernel) (pa_cons (pv 3) pa_nil)) (pa_cons (pe_lc (own := [("_law_turn", 10)]) (g := gName 10) (tt := tYes) rfl sc_law.nd (pi_list (pv 3)) (blkOk_by (own := [("_law_turn", 10)]) (N := ["_law_script", "_law_bag_here", "_law_history_here", "_law_turns_here", "_law_handed", "_law_given", "_law_changed_here", "_law_due", "_law_bad", "_law_value", "_law_turn"]) (sc := defScope s_law) (by decide +kernel)) (fun _ _ _ _ _ => (pg_name (i := 10) sc_law.nd rfl (.inl rfl))) (fun _ _ _ _ _ => pts_nil) (fun _ _ _ _ _ => (pe_callTy (T := "tuple") (r := rTupOf K) call_tuple_of (by rfl) T.b_tuple (by decide +kernel) (pa_cons (pv 10) pa_nil)))) pa_nil)))))))))))
      (pss_cons (ps_set (i := 8) sc_law.nd rfl (.inl rfl) (pe_op op_cat (pv 8) (pe_lst (pa_cons (pe_op op_cat (pv 3) (pe_lst (pa_cons (pe_lst (pa_cons (pe_tup (pa_cons pe_str (pa_cons pe_bl pa_nil))) pa_nil)) pa_nil))) (pa_cons (pe_op op_cat (pv 3) (pe_lst (pa_cons (pe_lst (pa_cons (pe_tup (pa_cons pe_str (pa_cons pe_str (pa_cons pe_str pa_nil)))) pa_nil)) pa_nil))) (pa_cons (pe_lst (pa_cons (pe_lst (pa_cons (pe_tup (pa_cons pe_str pa_nil)) pa_nil)) pa_nil)) (pa_cons pe_dnewK (pa_cons (pe_lst (pa_cons (pe_lst (pa_cons (pe_lst (pa_cons pe_str (pa_cons pe_str pa_nil))) pa_nil)) pa_nil)) pa_nil))))))))
      (pss_cons (ps_for PassesOwn.never rfl (pi_list (pv 8)) (pg_name (i := 9) sc_law.nd rfl (.inl rfl)) (pss_one (ps_if (pt_not (pt_val (pe_cal c__law_same (hr.mono (by omega)) rfl pass0 (pa_cons (pe_cal c__law_told (hr.mono (by omega)) rfl pass0 (pa_cons (pv 9) pa_nil)) (pa_cons (pe_tup (pa_cons pe_str (pa_cons pe_str pa_nil))) pa_nil))))) (pss_one (ps_ret pe_bl)) pss_nil)))
      (pss_one (ps_ret (pe_cal c__law_same (hr.mono (by omega)) rfl pass0 (pa_cons (pe_cal c_aged (hr.mono (by omega)) rfl (passes_call takes0 (fun _ _ _ _ h => h)) (pa_cons (pv 4) pa_nil)) (pa_cons (pv 3) pa_nil)))))))))))))))))))))), ?_⟩
    refine ⟨_, rfl, a, ns, rfl, ha, hns, fun p c H1 hp s1 pl1 => ?_⟩
    refine ⟨_, rfl, p, c, rfl, pl1, fun l us ts H2 zl b2 pl2 e2 k2 ok2 n2 hc => ?_⟩
    refine ⟨_, rfl, l, us, ts, rfl, e2, k2, ok2, by omega, hc, fun q H3 s3 t3 => ?_⟩
    have sp := split_flat (chk_out hc)
    have spok := split_ok (chk_out hc) ok2
    have hages := chk_ages ok2 hc
    have hnum := numH_of ok2 hc
    obtain ⟨al1, al2⟩ := ageTurns_len (split ts) [] 0
    rw [sp] at al2
    have okS := ageTurns_ok (ns := []) (st := 0) spok
    have hsc : (split ts).length ≤ ts.length := split_count
    have hne : ts ≠ [] := fun e => by rw [e] at hc; cases hc
    have hsn := ageTurns_ne (ns := []) (st := 0) (split_ne hne (chk_out hc))
    have hnn := ageTurns_nn (ns := []) (st := 0) (fun hm => (split_patH (chk_out hc) [] hm).1 rfl : [] ∉ split ts)
    have L3 : LS K H3 p c l q us ts (ageTurns (split ts) [] 0) := ⟨pl2.mono s3, s3 _ _ e2, k2.mono s3, t3.r⟩
    have hus := k2.len
    revert hnum al1 al2 okS hsn hnn L3
    generalize htss : ageTurns (split ts) [] 0 = tss
    intro hnum al1 al2 okS hsn hnn L3
    have smS : ∀ {n : Nat}, smK (n + 4) (tssD tss) := fun {n} => smK_tss okS (by omega) (by omega)
    -- handed
    refine ⟨_, rfl, l, us, rfl, .inl (.inl (.inl L3.el)), fun h hh => ?_⟩
    have s4 := Same.new (o := .lst us) hh
    have L4 := L3.same s4
    have e4 : upd H3 h (.lst us) h = some (.lst us) := upd_same
    revert L4 e4
    generalize upd H3 h _ = H4
    intro L4 e4
    refine ⟨_, rfl, h, us, ts, rfl, e4, L4.tk, ok2, by omega, hc, hages, fun q5 H5 s5 t5 => ?_⟩
    rw [htss] at t5
    have L5 := L4.same s5
    have e5 := s5 _ _ e4
    refine ⟨_, rfl, .ref q5, .ref q, tssD tss, rfl, t5.r.dp, L5.tr.dp, smS, fun H6 s6 => ⟨_, rfl, ?_⟩⟩
    have L6 := L5.same s6
    have e6 := s6 _ _ e5
    obtain ⟨sh1, sh2⟩ := tks_shaped ok2
    refine ifF rfl ⟨_, rfl, _, rfl, .list (ts.map Tk.d), .list (ts.map Tk.d), .lst (.inl (.inl e6)) L6.tk, L6.dp, sh1, sh1, _, rfl, ifF (by rw [sh2]; rfl) ?_⟩
    -- aged(handed)[0].append(..)
    refine ⟨_, rfl, h, us, ts, rfl, e6, L6.tk, ok2, by omega, hc, hages, fun q7 H7 s7 t7 => ?_⟩
    rw [htss] at t7
    have L7 := L6.same s7
    have e7 := s7 _ _ e6
    obtain ⟨ps7, g1, g2, g3, g4, g5, g6, g7⟩ := id t7
    have hp7 : ps7[0]? = some (ps7[0]'(by have := List.length_pos_iff.mpr hsn; omega)) := List.getElem?_eq_getElem _
    have ht7 : tss[0]? = some (tss[0]'(List.length_pos_iff.mpr hsn)) := List.getElem?_eq_getElem _
    obtain ⟨vs7, v7, w7⟩ := g7 0 _ _ hp7 ht7
    have z7 := g5 _ (List.mem_of_getElem? hp7)
    have hv7 := w7.len
    have hl7 := len_flat (List.mem_of_getElem? ht7)
    revert hp7 v7 z7
    generalize ps7[0]'(by have := List.length_pos_iff.mpr hsn; omega) = p7
    intro hp7 v7 z7
    refine ⟨q7, _, 0, .ref p7, rfl, rfl, .inl (.inl g1), atI_nat (j := 0) (by rw [List.getElem?_map, hp7]; rfl), ?_⟩
    refine ⟨.inl ⟨rfl, _, .inl (.inl v7)⟩, sz1 _, fun t8 ht8 => ?_⟩
    have s8 := Same.new (o := .tup [.str "set"]) ht8
    refine ⟨p7, vs7, _, rfl, rfl, s8 _ _ v7, lt_sz (by omega), ?_⟩
    have s9 := Same.updN (o := .lst (vs7 ++ [.ref t8])) (s7.trans s8) z7
    have L9 := L6.same s9
    have e9 := s9 _ _ e6
    clear g1 g2 g3 g4 g5 g6 g7 t7 w7 hp7 ht7
    revert L9 e9
    generalize upd (upd H7 t8 _) p7 _ = H9
    intro L9 e9
    -- given
    have trq := L9.tr
    obtain ⟨psq, q1, q2, q3⟩ := trq
    refine ⟨_, rfl, q, rfl, ⟨_, .inl (.inl q1)⟩, fun g hg => ?_⟩
    refine lc_it (walk_list (xs := psq.map V.ref)) (fun i G => Same H9 G ∧ TT K H9 G g (tss.take i)) ⟨Same.new hg, TT.nil upd_same hg⟩ (fun i G _ z => .inl (.inl (z.1 _ _ q1))) ?_ ?_
    · rintro i x G4 G2 hi ⟨s2, t2⟩ ⟨rfl, hx⟩
      rw [List.length_map] at hi
      rw [List.getElem?_map, List.getElem?_eq_getElem hi] at hx
      obtain rfl := Option.some.inj hx
      have ht : tss[i]? = some tss[i] := List.getElem?_eq_getElem (by omega)
      obtain ⟨ws, w1, w2⟩ := q3 i _ _ (List.getElem?_eq_getElem hi) ht
      revert ht w2
      generalize tss[i]'(by omega) = us
      generalize psq[i]'hi = pp at w1 ⊢
      intro ht w2
      refine ⟨rfl, ?_⟩
      refine ⟨_, rfl, pp, ws, rfl, .inl (.inl (.inl (s2 _ _ w1))), fun l hl => ?_⟩
      have sn := Same.new (o := .lst ws) hl
      obtain ⟨ps2, p1, _⟩ := id t2
      have hp2 := t2.ps p1
      refine ⟨_, sn _ _ p1, lt_sz (by rw [List.length_map, hp2.1, List.length_take]; omega), Same.updN (s2.trans sn) hg, ?_⟩
      rw [TS.take_one ht]
      exact (t2.mono sn).push (sn _ _ p1) upd_same (fun hm => by obtain ⟨vs, hv⟩ := hp2.2.1 l hm; rw [hv] at hl; cases hl) (fun e => by rw [e, p1] at hl; cases hl) (new_of s2 hl) (w2.mono (s2.trans sn))
    rintro H10 ⟨s10, t10⟩
    rw [List.length_map, List.take_of_length_le (by omega)] at t10
    have L10 := L9.same s10
    have e10 := s10 _ _ e9
    have g10 := t10.r
    clear t10 q1 q2 q3
    -- told(given)
    refine ⟨_, rfl, .ref g, toldD (some ts), rfl, .inl ⟨g, tss, some ts, rfl, g10, okS, by omega, by omega, hnum, rfl⟩, fun v11 H11 s11 d11 => ?_⟩
    have L11 := L10.same s11
    refine ⟨_, rfl, sz2 _ _, fun t12 ht12 => ?_⟩
    have s12 := Same.new (o := .tup [.str "told", .ref l]) ht12
    have L12 := L11.same s12
    have d12 : Dp K (upd H11 t12 (.tup [.str "told", .ref l])) (.ref t12) (toldD (some ts)) := .tup (.inl (.inl upd_same)) (.cons (.str _) (.cons L12.dp .nil))
    have d11' := d11.mono s12
    have smT : ∀ {n : Nat}, smK (n + 4) (toldD (some ts)) := fun {n} => smK_told fun us e => by obtain rfl := Option.some.inj e; exact ⟨ok2, by omega⟩
    have e12 := (s11.trans s12) _ _ e10
    have g12 := g10.mono (s11.trans s12)
    revert L12 d12 d11' e12 g12
    generalize upd H11 t12 _ = H12
    intro L12 d12 d11' e12 g12
    refine ⟨_, _, _, rfl, d11', d12, smT, fun H13 s13 => ⟨_, rfl, ifF rfl ?_⟩⟩
    have L13 := L12.same s13
    have g13 := g12.mono s13
    refine ⟨_, rfl, _, rfl, .ref g, .ref q, tssD tss, rfl, g13.dp, L13.tr.dp, smS, fun H14 s14 => ⟨_, rfl, ifF rfl ?_⟩⟩
    have L14 := L13.same s14
    have g14 := g13.mono s14
    have e14 := (s13.trans s14) _ _ e12
    -- numbered(given).clear()
    refine ⟨_, rfl, .ref g, rfl, .inl ⟨g, tss, rfl, g14, okS, by omega, by omega, fun h' nh q15 us15 H15 s15 hq15 hl15 ht15 => ?_, fun nn => (numH_not hnum nn).elim⟩⟩
    refine ⟨.inl ⟨rfl, _, .inl (.inl hl15)⟩, q15, us15, rfl, rfl, hl15, ?_⟩
    have s16 := Same.updN (o := .lst []) s15 hq15
    have L16 := L14.same s16
    have g16 := g14.mono s16
    have e16 := s16 _ _ e14
    revert L16 g16 e16
    generalize upd H15 q15 _ = H16
    intro L16 g16 e16
    -- numbered(given)
    refine ⟨_, rfl, .ref g, rfl, .inl ⟨g, tss, rfl, g16, okS, by omega, by omega, fun h' nh q17 us17 H17 s17 hq17 hl17 ht17 => ?_, fun nn => (numH_not hnum nn).elim⟩⟩
    obtain rfl := numH_one hnum nh
    have L17 := L16.same s17
    refine ⟨_, rfl, .ref q17, .ref l, .list (ts.map Tk.d), rfl, .lst (.inl (.inl hl17)) ht17, L17.dp, smK_tks ok2 (by omega), fun H18 s18 => ⟨_, rfl, ifF rfl ?_⟩⟩
    have L18 := L17.same s18
    have e18 := (s17.trans s18) _ _ e16
    -- changed
    refine ⟨_, rfl, _, rfl, p, c, q, tss, rfl, L18.pl, L18.tr, okS, hsn, hnn, by omega, by omega, fun qc tc H19 b19 pl19 tr19 ok19 n19 m19 => ?_⟩
    have L19 := L18.but b19 pl19
    have e19 := b19 _ _ e18 (lst_ne L18.pl e18)
    have hb := back_numH ok19
    clear L3 L4 L5 L6 L7 L9 L10 L11 L12 L13 L14 L16 L17 L18
    -- due
    refine ⟨fun σ' G => ∃ v, σ' = [some (.ref a), some (.ref p), some (.ref l), some (.ref q), some (.ref h), some (.ref g), some (.ref qc), some v, none, none, none] ∧ Same H19 G ∧ ((v = .non ∧ lawBack tc = none) ∨ ∃ (l20 : Addr) (us20 : List V) (h20 : List Tk), v = .ref l20 ∧ lawBack tc = some h20 ∧ G l20 = some (.lst us20) ∧ Tks K G us20 h20), ?_, ?_⟩
    · exact ⟨_, rfl, qc, tc, rfl, tr19, ok19, by omega, by omega, fun hb0 H20 s20 => ⟨_, rfl, s20, .inl ⟨rfl, hb0⟩⟩, fun hh hb1 l20 us20 H20 s20 z20 e20 k20 => ⟨_, rfl, s20, .inr ⟨l20, us20, hh, rfl, hb1, e20, k20⟩⟩⟩
    rintro σ20 H20 ⟨v20, rfl, s20, hdue⟩
    have toldC : ∀ {G : Hp}, Same H19 G → TD K G (.ref qc) (toldD (lawBack tc)) := fun s => .inl ⟨qc, tc, lawBack tc, rfl, tr19.mono s, ok19, by omega, by omega, hb, rfl⟩
    refine ⟨fun σ' G => σ' = [some (.ref a), some (.ref p), some (.ref l), some (.ref q), some (.ref h), some (.ref g), some (.ref qc), some v20, none, none, none] ∧ Same H20 G, ?_, ?_⟩
    · rcases hdue with ⟨rfl, hb0⟩ | ⟨l20, us20, h20, rfl, hb1, e20, k20⟩
      · refine ⟨_, rfl, rfl, _, rfl, ifT rfl ⟨_, rfl, .ref qc, _, rfl, toldC s20, fun v21 H21 s21 d21 => ⟨sz2 _ _, fun t22 ht22 => ?_⟩⟩⟩
        have s22 := Same.new (o := .tup [.str "refused", .str "turns"]) ht22
        rw [hb0] at d21
        exact ⟨_, _, _, rfl, d21.mono s22, .tup (.inl (.inl upd_same)) (.cons (.str _) (.cons (.str _) .nil)), smK_told (o := none) (fun ts e => by cases e), fun H23 s23 => ⟨_, rfl, ifF rfl ⟨rfl, (s21.trans s22).trans s23⟩⟩⟩
      · exact ⟨_, rfl, rfl, _, rfl, ifF rfl ⟨rfl, Same.refl _⟩⟩
    rintro σ23 H23 ⟨rfl, s23⟩
    refine ⟨fun σ' G => σ' = [some (.ref a), some (.ref p), some (.ref l), some (.ref q), some (.ref h), some (.ref g), some (.ref qc), some v20, none, none, none] ∧ Same H23 G, ?_, ?_⟩
    · rcases hdue with ⟨rfl, hb0⟩ | ⟨l20, us20, h20, rfl, hb1, e20, k20⟩
      · exact ⟨_, rfl, rfl, _, rfl, ifF rfl ⟨rfl, Same.refl _⟩⟩
      · refine ⟨_, rfl, rfl, _, rfl, ifT rfl ⟨_, rfl, .ref qc, _, rfl, toldC (s20.trans s23), fun v24 H24 s24 d24 => ⟨_, rfl, sz2 _ _, fun t25 ht25 => ?_⟩⟩⟩
        have s25 := Same.new (o := .tup [.str "told", .ref l20]) ht25
        rw [hb1] at d24
        have s2325 := (s23.trans s24).trans s25
        obtain ⟨ok20, n20⟩ := back_ok ok19 (by omega) hb1
        exact ⟨_, _, _, rfl, d24.mono s25, .tup (.inl (.inl upd_same)) (.cons (.str _) (.cons (.lst (.inl (.inl (s2325 _ _ e20))) (k20.mono s2325)) .nil)), smK_told (o := some h20) (fun ts e => by obtain rfl := Option.some.inj e; exact ⟨ok20, n20⟩), fun H26 s26 => ⟨_, rfl, ifF rfl ⟨rfl, (s24.trans s25).trans s26⟩⟩⟩
    rintro σ26 H26 ⟨rfl, s26⟩
    have L26 := L19.same ((s20.trans s23).trans s26)
    have e26 := ((s20.trans s23).trans s26) _ _ e19
    clear s20 s23 s26 hdue toldC L19 e19 tr19 pl19 b19
    have hI : ∀ G G', Same G G' → TR K G q tss → TR K G' q tss := fun G G' s i => i.mono s
    have ntss : tss.length ≤ 1000 := by omega
    refine seq_asg ?_
    refine lstT_use (K := K) (I := fun G => TR K G q tss) (n := 9) (layT_cons hI (layT_lay lay_non rfl rfl) (layT_cons hI layT_e (layT_cons hI layT_ee (layT_cons hI (layT_lay (lay_tup (K := K) (layA_nil (K := K)) (by decide)) rfl rfl) (layT_cons hI (layT_lay lay_str rfl rfl) (layT_cons hI (layT_lay (lay_lst (K := K) (layA_cons (K := K) lay_non (layA_nil (K := K))) (by decide)) rfl rfl) (layT_cons hI (layT_lay (lay_lst (K := K) (layA_cons (K := K) (lay_tup (K := K) (layA_cons (K := K) lay_str (layA_cons lay_str layA_nil)) (Nat.le_of_ble_eq_true rfl)) layA_nil) (Nat.le_of_ble_eq_true rfl)) rfl rfl) (layT_cons hI ?_ (layT_cons hI ?_ layT_nil))))))))) (by decide) L26.tr fun D1 vs1 H27 s27 d27 td27 n27 => ?_
    · intro G Q' i kk
      obtain ⟨ps, p1, p2, p3⟩ := TR.all i
      exact ⟨_, rfl, q, _, rfl, .inl ⟨.inl (.inl p1), fun lt hlt => kk _ _ (Same.new hlt) (.inr (.inl ⟨.tuple (tss.map fun ts => .list (ts.map Tk.d)), .tup (.inl (.inl upd_same)) (DpAll.mono (Same.new hlt) p3), fun ds e => (by cases e), rfl, rfl⟩))⟩⟩
    · intro G Q' i kk
      obtain ⟨ps, p1, p2, p3⟩ := i
      refine ⟨_, rfl, q, rfl, ⟨_, .inl (.inl p1)⟩, fun D hD => ?_⟩
      refine lc_it (walk_list (xs := ps.map V.ref)) (fun i G2 => Same G G2 ∧ ∃ vs, G2 D = some (.lst vs) ∧ DpAll K G2 vs ((tss.take i).map fun ts => .tuple (ts.map Tk.d))) ⟨Same.new hD, [], upd_same, .nil⟩ (fun i G2 _ z => .inl (.inl (z.1 _ _ p1))) ?_ ?_
      · rintro i x G4 G2 hi ⟨s2, vs, d2, a2⟩ ⟨rfl, hx⟩
        rw [List.length_map] at hi
        rw [List.getElem?_map, List.getElem?_eq_getElem hi] at hx
        obtain rfl := Option.some.inj hx
        have ht : tss[i]? = some tss[i] := List.getElem?_eq_getElem (by omega)
        obtain ⟨ws, w1, w2⟩ := p3 i _ _ (List.getElem?_eq_getElem hi) ht
        revert ht w2
        generalize tss[i]'(by omega) = us
        generalize ps[i]'hi = pp at w1 ⊢
        intro ht w2
        refine ⟨rfl, ?_⟩
        refine ⟨_, rfl, pp, ws, rfl, .inl ⟨.inl (.inl (s2 _ _ w1)), fun lt hlt => ?_⟩⟩
        have sn := Same.new (o := .tup ws) hlt
        have hvl := a2.len
        rw [List.length_map, List.length_take] at hvl
        refine ⟨vs, sn _ _ d2, lt_sz (by omega), Same.updN (s2.trans sn) hD, _, upd_same, ?_⟩
        rw [TS.take_one ht, List.map_append]
        have := dpAll_app (DpAll.mono sn a2) (.cons (.tup (.inl (.inl upd_same)) (w2.mono (s2.trans sn))) .nil : DpAll K (upd G2 lt (.tup ws)) [.ref lt] [.tuple (us.map Tk.d)])
        have e : ((tss.take i).map fun ts => PyData.tuple (ts.map Tk.d)) ++ [.tuple (us.map Tk.d)] = (tss.take i ++ [us]).map fun ts => PyData.tuple (ts.map Tk.d) := by rw [List.map_append]; rfl
        rw [e] at this
        rw [← List.map_append]
        exact tups_upd (sn _ _ d2) this
      · rintro G2 ⟨s2, vs, d2, a2⟩
        rw [List.length_map, List.take_of_length_le (by omega)] at a2
        refine kk _ _ s2 (.inr (.inl ⟨.list (tss.map fun ts => .tuple (ts.map Tk.d)), .lst (.inl (.inl d2)) a2, fun ds e es hes => ?_, ?_, rfl⟩))
        · injection e with e
          subst e
          obtain ⟨ts, _, e⟩ := List.mem_map.mp hes
          cases e
        · cases tss with
          | nil => exact absurd rfl hsn
          | cons a r => rfl
    have L27 := L26.same s27
    refine seq_asg2 (j := 8) (v := .ref D1) rfl ?_
    refine lstT_use (K := K) (I := fun G => TR K G q tss) (n := 5) (layT_cons hI (layT_more (j := 3) rfl (lay_tup (K := K) (layA_cons (K := K) lay_str (layA_cons lay_bl layA_nil)) (Nat.le_of_ble_eq_true rfl)) rfl (by decide +kernel) okS ntss) (layT_cons hI (layT_more (j := 3) rfl (lay_tup (K := K) (layA_cons (K := K) lay_str (layA_cons lay_str (layA_cons lay_str layA_nil))) (Nat.le_of_ble_eq_true rfl)) (by decide +kernel) (by decide +kernel) okS ntss) (layT_cons hI (layT_lay (lay_lst (K := K) (layA_cons (K := K) (lay_lst (K := K) (layA_cons (K := K) (lay_tup (K := K) (layA_cons (K := K) lay_str layA_nil) (Nat.le_of_ble_eq_true rfl)) layA_nil) (Nat.le_of_ble_eq_true rfl)) layA_nil) (Nat.le_of_ble_eq_true rfl)) rfl (by decide +kernel)) (layT_cons hI layT_dict (layT_cons hI (layT_lay (lay_lst (K := K) (layA_cons (K := K) (lay_lst (K := K) (layA_cons (K := K) (lay_lst (K := K) (layA_cons (K := K) lay_str (layA_cons lay_str layA_nil)) (Nat.le_of_ble_eq_true rfl)) layA_nil) (Nat.le_of_ble_eq_true rfl)) layA_nil) (Nat.le_of_ble_eq_true rfl)) rfl (by decide +kernel)) layT_nil))))) (by decide) L27.tr fun D2 vs2 H28 s28 d28 td28 n28 => ?_
    refine ⟨D1, D2, vs1, vs2, rfl, rfl, s28 _ _ d27, d28, sz_lit (by omega), fun D3 hD3 => ?_⟩
    have s29 := Same.new (o := .lst (vs1 ++ vs2)) hD3
    have d29 : upd H28 D3 (.lst (vs1 ++ vs2)) D3 = some (.lst (vs1 ++ vs2)) := upd_same
    have td29 : ∀ v ∈ vs1 ++ vs2, TD K (upd H28 D3 (.lst (vs1 ++ vs2))) v refD := fun v hv => by
      rcases List.mem_append.mp hv with hv | hv
      · exact (td27 v hv).mono (s28.trans s29)
      · exact (td28 v hv).mono s29
    have L29 := (L27.same s28).same s29
    have e29 := ((s27.trans s28).trans s29) _ _ e26
    clear td27 td28 d27 d28 s27 s28 s29
    revert d29 td29 L29 e29
    generalize upd H28 D3 _ = H29
    intro d29 td29 L29 e29
    refine ⟨_, rfl, D3, rfl, ⟨_, .inl (.inl d29)⟩, ?_⟩
    refine for_it (walk_list (xs := vs1 ++ vs2)) (fun i σ G => (∃ y, σ = [some (.ref a), some (.ref p), some (.ref l), some (.ref q), some (.ref h), some (.ref g), some (.ref qc), some v20, some (.ref D3), y, none]) ∧ Same H29 G) ⟨⟨_, rfl⟩, Same.refl _⟩ (fun i σ G _ z => .inl (.inl (z.2 _ _ d29))) ?_ ?_
    · rintro i x σ G1 G hi ⟨⟨y, rfl⟩, sG⟩ ⟨rfl, hx⟩
      refine ⟨_, rfl, x, refD, rfl, (td29 x (List.mem_of_getElem? hx)).mono sG, fun v30 G2 s30 d30 => ⟨sz2 _ _, fun t31 ht31 => ?_⟩⟩
      have s31 := Same.new (o := .tup [.str "refused", .str "turns"]) ht31
      exact ⟨_, _, _, rfl, d30.mono s31, .tup (.inl (.inl upd_same)) (.cons (.str _) (.cons (.str _) .nil)), smK_told (o := none) (fun ts e => by cases e), fun G3 s32 => ⟨_, rfl, ifF rfl ⟨⟨_, rfl⟩, ((sG.trans s30).trans s31).trans s32⟩⟩⟩
    · rintro σ G ⟨⟨y, rfl⟩, sG⟩
      have L30 := L29.same sG
      have e30 := sG _ _ e29
      refine ⟨_, rfl, h, us, ts, rfl, e30, L30.tk, ok2, by omega, hc, hages, fun q31 H31 s31 t31 => ?_⟩
      rw [htss] at t31
      have L31 := L30.same s31
      exact ⟨_, rfl, .ref q31, .ref q, tssD tss, rfl, t31.r.dp, L31.tr.dp, smS, fun H32 s32 => k H32⟩
end
end Op
namespace Op
open PySem L2 PyProof.Rows PySem.XL
theorem exm_own {K : PySem.W.Frag} {C : Addr} (hb : PySem.W.subIn K (.ref C) (.type "BaseException") = some true) (hi : PySem.W.isClsIn K C = true) (ht : PySem.W.typeIn K (.ref C) = some (.type "type")) (hs : PySem.W.subIn K (.ref C) (.ref C) = some true) : PySem.W.exmOne K (.ref C) (.ref C) = some true := by
  unfold PySem.W.exmOne
  rw [hb, if_pos (by simp)]
  have hi' : (PySem.W.clsIn K C).isSome = true := hi
  show (if ((PySem.W.clsIn K C).isSome && PySem.W.typeIn K (.ref C) == some (.type "type")) = true then PySem.W.subIn K (.ref C) (.ref C) else none) = some true
  rw [hi', ht, if_pos (by simp)]
  exact hs
theorem Sh_InvalidHistory : ∃ (Ps : Ps1) (a1 a2 : Pos), defArgs s_InvalidHistory___init__ = args1 a1 a2 "at" ∧ defBody s_InvalidHistory___init__ = body1 Ps "invalid history" "at" ∧ defScope s_InvalidHistory___init__ = scope1 "at" ∧ ∀ fI, EvOk "InvalidHistory.__init__" (scope1 "at") fI Ps "invalid history" :=
  ⟨⟨_, _, _, _, _, _, _, _, _, _, _⟩, _, _, rfl, rfl, rfl, fun fI L cda cc => ⟨_, rfl, rfl, rfl⟩⟩
theorem Xm_InvalidHistory {P : Program} {w : World} {K : PySem.W.Frag} {C fI : Addr} (T : XCls P K C) (Fn : XFn P K C fI "InvalidHistory.__init__" (defArgs s_InvalidHistory___init__) (defBody s_InvalidHistory___init__) (defScope s_InvalidHistory___init__)) (nof : PySem.W.findIn K (.ref C) "at" = some none) :
    XMk P w K C 1 [] (fun vs _ => [("at", vs.headD .non)]) ∧ XMk P w K C 0 ["at"] (fun _ zs => [("at", zs.headD .non)]) := by
  obtain ⟨Ps, a1, a2, e1, e2, e3, ev⟩ := Sh_InvalidHistory
  rw [e1, e2, e3] at Fn
  exact ⟨xmk1 T Fn (by decide +kernel) nof (ev fI) fun s x v kV doc pm an cdv ct cc => .of_eq rfl, xmk1k T Fn (by decide +kernel) nof (ev fI) fun s x v kV doc pm an cdv ct cc => .of_eq rfl⟩
theorem Sh_InvalidArgument : ∃ (Ps : Ps1) (a1 a2 : Pos), defArgs s_InvalidArgument___init__ = args1 a1 a2 "part" ∧ defBody s_InvalidArgument___init__ = body1 Ps "invalid argument" "part" ∧ defScope s_InvalidArgument___init__ = scope1 "part" ∧ ∀ fI, EvOk "InvalidArgument.__init__" (scope1 "part") fI Ps "invalid argument" :=
  ⟨⟨_, _, _, _, _, _, _, _, _, _, _⟩, _, _, rfl, rfl, rfl, fun fI L cda cc => ⟨_, rfl, rfl, rfl⟩⟩
theorem Xm_InvalidArgument {P : Program} {w : World} {K : PySem.W.Frag} {C fI : Addr} (T : XCls P K C) (Fn : XFn P K C fI "InvalidArgument.__init__" (defArgs s_InvalidArgument___init__) (defBody s_InvalidArgument___init__) (defScope s_InvalidArgument___init__)) (nof : PySem.W.findIn K (.ref C) "part" = some none) :
    XMk P w K C 1 [] (fun vs _ => [("part", vs.headD .non)]) ∧ XMk P w K C 0 ["part"] (fun _ zs => [("part", zs.headD .non)]) := by
  obtain ⟨Ps, a1, a2, e1, e2, e3, ev⟩ := Sh_InvalidArgument
  rw [e1, e2, e3] at Fn
  exact ⟨xmk1 T Fn (by decide +kernel) nof (ev fI) fun s x v kV doc pm an cdv ct cc => .of_eq rfl, xmk1k T Fn (by decide +kernel) nof (ev fI) fun s x v kV doc pm an cdv ct cc => .of_eq rfl⟩
theorem all_mk {w : World} {K : PySem.W.Frag} {h : Heap} {mg : Str → Option Value} {fa p_FORMS p_OUTER p_NUMBERED p_LAST c_InputError c_OpenError c_InvalidHistory i_InvalidHistory c_InvalidArgument i_InvalidArgument g_is_integer g_is_word g_same g_same_items g_has_form g_is_outer g_suits_things g_enter_token g_check_tokens g_split_turns g_renamed g_turn_by_age g_turn_by_number g_turns_by_age g_turns_by_number g_joined g_aged g_are_turns g_numbered g__law_bag g__law_draw g__law_one g__law_words g__law_same g__law_history g__law_turns g__law_back g__law_told g__law_changed g_law : Addr} (X : K.In h) (G : h.Ns mainGlobals mg) (hfa : mg "law" = some (.ref fa))
    {tk_LETTERS : Tok}
    {es_FORMS : Array DictEntry} {en_FORMS : Nat}
    {d_OUTER : Option Addr} {n_OUTER : Nat} {s_OUTER : Array (Option Value)} {t0_OUTER t1_OUTER t2_OUTER t3_OUTER : Tok}
    {d_NUMBERED : Option Addr} {n_NUMBERED : Nat} {s_NUMBERED : Array (Option Value)} {t0_NUMBERED t1_NUMBERED t2_NUMBERED : Tok}
    {d_LAST : Option Addr} {n_LAST : Nat} {s_LAST : Array (Option Value)} {t0_LAST t1_LAST : Tok}
    {nm_InvalidHistory q_InvalidHistory : Str} {N_InvalidHistory : Addr} {bs_InvalidHistory : List Value} {sn_InvalidHistory : List Str} {sub_InvalidHistory : List Value} {ab_InvalidHistory : Bool} {col_InvalidHistory : Option Bool} {dd_InvalidHistory : Option Addr} {ka_InvalidHistory kb_InvalidHistory kc_InvalidHistory kd_InvalidHistory ke_InvalidHistory : Option Value}
    {oc_InvalidHistory kV_InvalidHistory dc_InvalidHistory pm_InvalidHistory ct_InvalidHistory ccl_InvalidHistory cll_InvalidHistory : Value} {od_InvalidHistory an_InvalidHistory cdd_InvalidHistory cld_InvalidHistory : Option Addr} {cd_InvalidHistory cc_InvalidHistory : Addr} {sl_InvalidHistory ccs_InvalidHistory csl_InvalidHistory : Array (Option Value)} {vs_InvalidHistory : Array Value} {fl_InvalidHistory : Str} {tf_InvalidHistory : Tok}
    {nm_InvalidArgument q_InvalidArgument : Str} {N_InvalidArgument : Addr} {bs_InvalidArgument : List Value} {sn_InvalidArgument : List Str} {sub_InvalidArgument : List Value} {ab_InvalidArgument : Bool} {col_InvalidArgument : Option Bool} {dd_InvalidArgument : Option Addr} {ka_InvalidArgument kb_InvalidArgument kc_InvalidArgument kd_InvalidArgument ke_InvalidArgument : Option Value}
    {oc_InvalidArgument kV_InvalidArgument dc_InvalidArgument pm_InvalidArgument ct_InvalidArgument ccl_InvalidArgument cll_InvalidArgument : Value} {od_InvalidArgument an_InvalidArgument cdd_InvalidArgument cld_InvalidArgument : Option Addr} {cd_InvalidArgument cc_InvalidArgument : Addr} {sl_InvalidArgument ccs_InvalidArgument csl_InvalidArgument : Array (Option Value)} {vs_InvalidArgument : Array Value} {fl_InvalidArgument : Str} {tf_InvalidArgument : Tok}
    {xo_is_integer xk_is_integer xc_is_integer xp_is_integer xe_is_integer xt_is_integer : Value} {xd_is_integer xa_is_integer : Option Addr} {xs_is_integer : Array (Option Value)}
    {xo_is_word xk_is_word xc_is_word xp_is_word xe_is_word xt_is_word : Value} {xd_is_word xa_is_word : Option Addr} {xs_is_word : Array (Option Value)}
    {xo_same xk_same xc_same xp_same xe_same xt_same : Value} {xd_same xa_same : Option Addr} {xs_same : Array (Option Value)}
    {xo_same_items xk_same_items xc_same_items xp_same_items xe_same_items xt_same_items : Value} {xd_same_items xa_same_items : Option Addr} {xs_same_items : Array (Option Value)}
    {xo_has_form xk_has_form xc_has_form xp_has_form xe_has_form xt_has_form : Value} {xd_has_form xa_has_form : Option Addr} {xs_has_form : Array (Option Value)}
    {xo_is_outer xk_is_outer xc_is_outer xp_is_outer xe_is_outer xt_is_outer : Value} {xd_is_outer xa_is_outer : Option Addr} {xs_is_outer : Array (Option Value)}
    {xo_suits_things xk_suits_things xc_suits_things xp_suits_things xe_suits_things xt_suits_things : Value} {xd_suits_things xa_suits_things : Option Addr} {xs_suits_things : Array (Option Value)}
    {xo_enter_token xk_enter_token xc_enter_token xp_enter_token xe_enter_token xt_enter_token : Value} {xd_enter_token xa_enter_token : Option Addr} {xs_enter_token : Array (Option Value)}
    {xo_check_tokens xk_check_tokens xc_check_tokens xp_check_tokens xe_check_tokens xt_check_tokens : Value} {xd_check_tokens xa_check_tokens : Option Addr} {xs_check_tokens : Array (Option Value)}
    {xo_split_turns xk_split_turns xc_split_turns xp_split_turns xe_split_turns xt_split_turns : Value} {xd_split_turns xa_split_turns : Option Addr} {xs_split_turns : Array (Option Value)}
    {xo_renamed xk_renamed xc_renamed xp_renamed xe_renamed xt_renamed : Value} {xd_renamed xa_renamed : Option Addr} {xs_renamed : Array (Option Value)}
    {xo_turn_by_age xk_turn_by_age xc_turn_by_age xp_turn_by_age xe_turn_by_age xt_turn_by_age : Value} {xd_turn_by_age xa_turn_by_age : Option Addr} {xs_turn_by_age : Array (Option Value)}
    {xo_turn_by_number xk_turn_by_number xc_turn_by_number xp_turn_by_number xe_turn_by_number xt_turn_by_number : Value} {xd_turn_by_number xa_turn_by_number : Option Addr} {xs_turn_by_number : Array (Option Value)}
    {xo_turns_by_age xk_turns_by_age xc_turns_by_age xp_turns_by_age xe_turns_by_age xt_turns_by_age : Value} {xd_turns_by_age xa_turns_by_age : Option Addr} {xs_turns_by_age : Array (Option Value)}
    {xo_turns_by_number xk_turns_by_number xc_turns_by_number xp_turns_by_number xe_turns_by_number xt_turns_by_number : Value} {xd_turns_by_number xa_turns_by_number : Option Addr} {xs_turns_by_number : Array (Option Value)}
    {xo_joined xk_joined xc_joined xp_joined xe_joined xt_joined : Value} {xd_joined xa_joined : Option Addr} {xs_joined : Array (Option Value)}
    {xo_aged xk_aged xc_aged xp_aged xe_aged xt_aged : Value} {xd_aged xa_aged : Option Addr} {xs_aged : Array (Option Value)}
    {xo_are_turns xk_are_turns xc_are_turns xp_are_turns xe_are_turns xt_are_turns : Value} {xd_are_turns xa_are_turns : Option Addr} {xs_are_turns : Array (Option Value)}
    {xo_numbered xk_numbered xc_numbered xp_numbered xe_numbered xt_numbered : Value} {xd_numbered xa_numbered : Option Addr} {xs_numbered : Array (Option Value)}
    {xo__law_bag xk__law_bag xc__law_bag xp__law_bag xe__law_bag xt__law_bag : Value} {xd__law_bag xa__law_bag : Option Addr} {xs__law_bag : Array (Option Value)}
    {xo__law_draw xk__law_draw xc__law_draw xp__law_draw xe__law_draw xt__law_draw : Value} {xd__law_draw xa__law_draw : Option Addr} {xs__law_draw : Array (Option Value)}
    {xo__law_one xk__law_one xc__law_one xp__law_one xe__law_one xt__law_one : Value} {xd__law_one xa__law_one : Option Addr} {xs__law_one : Array (Option Value)}
    {xo__law_words xk__law_words xc__law_words xp__law_words xe__law_words xt__law_words : Value} {xd__law_words xa__law_words : Option Addr} {xs__law_words : Array (Option Value)}
    {xo__law_same xk__law_same xc__law_same xp__law_same xe__law_same xt__law_same : Value} {xd__law_same xa__law_same : Option Addr} {xs__law_same : Array (Option Value)}
    {xo__law_history xk__law_history xc__law_history xp__law_history xe__law_history xt__law_history : Value} {xd__law_history xa__law_history : Option Addr} {xs__law_history : Array (Option Value)}
    {xo__law_turns xk__law_turns xc__law_turns xp__law_turns xe__law_turns xt__law_turns : Value} {xd__law_turns xa__law_turns : Option Addr} {xs__law_turns : Array (Option Value)}
    {xo__law_back xk__law_back xc__law_back xp__law_back xe__law_back xt__law_back : Value} {xd__law_back xa__law_back : Option Addr} {xs__law_back : Array (Option Value)}
    {xo__law_told xk__law_told xc__law_told xp__law_told xe__law_told xt__law_told : Value} {xd__law_told xa__law_told : Option Addr} {xs__law_told : Array (Option Value)}
    {xo__law_changed xk__law_changed xc__law_changed xp__law_changed xe__law_changed xt__law_changed : Value} {xd__law_changed xa__law_changed : Option Addr} {xs__law_changed : Array (Option Value)}
    {xo_law xk_law xc_law xp_law xe_law xt_law : Value} {xd_law xa_law : Option Addr} {xs_law : Array (Option Value)}
    (z_len : PySem.W.nsIn K mainGlobals "len" = some none)
    (z_int : PySem.W.nsIn K mainGlobals "int" = some none)
    (z_bool : PySem.W.nsIn K mainGlobals "bool" = some none)
    (z_str : PySem.W.nsIn K mainGlobals "str" = some none)
    (z_list : PySem.W.nsIn K mainGlobals "list" = some none)
    (z_tuple : PySem.W.nsIn K mainGlobals "tuple" = some none)
    (z_dict : PySem.W.nsIn K mainGlobals "dict" = some none)
    (z_set : PySem.W.nsIn K mainGlobals "set" = some none)
    (z_range : PySem.W.nsIn K mainGlobals "range" = some none)
    (z_zip : PySem.W.nsIn K mainGlobals "zip" = some none)
    (z_enumerate : PySem.W.nsIn K mainGlobals "enumerate" = some none)
    (z_sorted : PySem.W.nsIn K mainGlobals "sorted" = some none)
    (z_isinstance : PySem.W.nsIn K mainGlobals "isinstance" = some none)
    (z_LETTERS : PySem.W.nsIn K mainGlobals "LETTERS" = some (some (.str "abcdefghijklmnopqrstuvwxyz" tk_LETTERS)))
    (A_FORMS : PySem.W.nsIn K mainGlobals "FORMS" = some (some (.ref p_FORMS)))
    (L_FORMS : K.lookup p_FORMS = some ⟨.type "dict", none, .dict es_FORMS en_FORMS, #[]⟩)
    (E_FORMS : Ents w.params es_FORMS.toList (forms.map fun p => (p.1, V.str p.2)))
    (S_FORMS : (p_FORMS == sysModules) = false)
    (A_OUTER : PySem.W.nsIn K mainGlobals "OUTER" = some (some (.ref p_OUTER)))
    (L_OUTER : K.lookup p_OUTER = some ⟨.type "tuple", d_OUTER, .seq #[.str "begin" t0_OUTER, .str "answer" t1_OUTER, .str "rang" t2_OUTER, .str "signal" t3_OUTER] n_OUTER, s_OUTER⟩)
    (A_NUMBERED : PySem.W.nsIn K mainGlobals "NUMBERED" = some (some (.ref p_NUMBERED)))
    (L_NUMBERED : K.lookup p_NUMBERED = some ⟨.type "tuple", d_NUMBERED, .seq #[.str "answer" t0_NUMBERED, .str "rang" t1_NUMBERED, .str "dropped" t2_NUMBERED] n_NUMBERED, s_NUMBERED⟩)
    (A_LAST : PySem.W.nsIn K mainGlobals "LAST" = some (some (.ref p_LAST)))
    (L_LAST : K.lookup p_LAST = some ⟨.type "tuple", d_LAST, .seq #[.str "ended" t0_LAST, .str "anew" t1_LAST] n_LAST, s_LAST⟩)
    (opq : PySem.W.nsIn K cStatics "thirdparty.any" = some none)
    (sg : PySem.W.nsIn K mainGlobals "super" = some none)
    (A_InputError : PySem.W.nsIn K mainGlobals "InputError" = some (some (.ref c_InputError)))
    (A_OpenError : PySem.W.nsIn K mainGlobals "OpenError" = some (some (.ref c_OpenError)))
    (A_InvalidHistory : PySem.W.nsIn K mainGlobals "InvalidHistory" = some (some (.ref c_InvalidHistory)))
    (l_InvalidHistory : K.lookup c_InvalidHistory = some (excClassObj nm_InvalidHistory q_InvalidHistory c_InvalidHistory N_InvalidHistory bs_InvalidHistory [.ref c_InputError, .ref c_OpenError, .type "LookupError", .type "Exception", .type "BaseException", .type "object"] true sn_InvalidHistory sub_InvalidHistory ab_InvalidHistory col_InvalidHistory dd_InvalidHistory ka_InvalidHistory kb_InvalidHistory kc_InvalidHistory kd_InvalidHistory ke_InvalidHistory "LookupError.__new__"))
    (sa_InvalidHistory : PySem.W.findIn K (.ref c_InvalidHistory) "__setattr__" = some (some (.builtin "object.__setattr__")))
    (su_InvalidHistory : PySem.W.ks_superIn K c_InvalidHistory c_InvalidHistory "__init__" = some (some (.builtin "LookupError.__init__")))
    (ii_InvalidHistory : PySem.W.findIn K (.ref c_InvalidHistory) "__init__" = some (some (.ref i_InvalidHistory)))
    (ti_InvalidHistory : PySem.W.typeIn K (.ref i_InvalidHistory) = some (.type "function"))
    (lf_InvalidHistory : K.lookup i_InvalidHistory = some ⟨oc_InvalidHistory, od_InvalidHistory, .func (PySem.W.ksFn "__init__" "InvalidHistory.__init__" (defArgs s_InvalidHistory___init__) (defBody s_InvalidHistory___init__) (defScope s_InvalidHistory___init__) .none kV_InvalidHistory dc_InvalidHistory pm_InvalidHistory an_InvalidHistory (.ref cd_InvalidHistory) ct_InvalidHistory cc_InvalidHistory), sl_InvalidHistory⟩)
    (cf_InvalidHistory : PySem.W.codeIn K (.ref cd_InvalidHistory) "InvalidHistory.__init__" = true)
    (lc_InvalidHistory : K.lookup cc_InvalidHistory = some ⟨cll_InvalidHistory, cld_InvalidHistory, .cell (some (.ref c_InvalidHistory)), csl_InvalidHistory⟩)
    (ld_InvalidHistory : K.lookup cd_InvalidHistory = some ⟨ccl_InvalidHistory, cdd_InvalidHistory, .fields vs_InvalidHistory, ccs_InvalidHistory⟩)
    (v2_InvalidHistory : vs_InvalidHistory[2]? = some (.str fl_InvalidHistory tf_InvalidHistory))
    (fe_InvalidHistory : ((PP.main.file : Str) == fl_InvalidHistory) = true)
    (kp_InvalidHistory : PySem.W.keepIn K (.ref c_InvalidHistory) = true)
    (hg_InvalidHistory : PySem.W.findIn K (.ref c_InvalidHistory) "__getattribute__" = some (some (.builtin "BaseException.__getattribute__")))
    (hk_InvalidHistory : PySem.W.findIn K (.ref c_InvalidHistory) "__getattr__" = some none)
    (hs_InvalidHistory : PySem.W.subIn K (.ref c_InvalidHistory) (.type "BaseException") = some true)
    (hd_InvalidHistory : PySem.W.hasDictIn K c_InvalidHistory = true)
    (ty_InvalidHistory : PySem.W.typeIn K (.ref c_InvalidHistory) = some (.type "type"))
    (ic_InvalidHistory : PySem.W.isClsIn K c_InvalidHistory = true)
    (ss_InvalidHistory : PySem.W.subIn K (.ref c_InvalidHistory) (.ref c_InvalidHistory) = some true)
    (no_at_InvalidHistory : PySem.W.findIn K (.ref c_InvalidHistory) "at" = some none)
    (A_InvalidArgument : PySem.W.nsIn K mainGlobals "InvalidArgument" = some (some (.ref c_InvalidArgument)))
    (l_InvalidArgument : K.lookup c_InvalidArgument = some (excClassObj nm_InvalidArgument q_InvalidArgument c_InvalidArgument N_InvalidArgument bs_InvalidArgument [.ref c_InputError, .ref c_OpenError, .type "LookupError", .type "Exception", .type "BaseException", .type "object"] true sn_InvalidArgument sub_InvalidArgument ab_InvalidArgument col_InvalidArgument dd_InvalidArgument ka_InvalidArgument kb_InvalidArgument kc_InvalidArgument kd_InvalidArgument ke_InvalidArgument "LookupError.__new__"))
    (sa_InvalidArgument : PySem.W.findIn K (.ref c_InvalidArgument) "__setattr__" = some (some (.builtin "object.__setattr__")))
    (su_InvalidArgument : PySem.W.ks_superIn K c_InvalidArgument c_InvalidArgument "__init__" = some (some (.builtin "LookupError.__init__")))
    (ii_InvalidArgument : PySem.W.findIn K (.ref c_InvalidArgument) "__init__" = some (some (.ref i_InvalidArgument)))
    (ti_InvalidArgument : PySem.W.typeIn K (.ref i_InvalidArgument) = some (.type "function"))
    (lf_InvalidArgument : K.lookup i_InvalidArgument = some ⟨oc_InvalidArgument, od_InvalidArgument, .func (PySem.W.ksFn "__init__" "InvalidArgument.__init__" (defArgs s_InvalidArgument___init__) (defBody s_InvalidArgument___init__) (defScope s_InvalidArgument___init__) .none kV_InvalidArgument dc_InvalidArgument pm_InvalidArgument an_InvalidArgument (.ref cd_InvalidArgument) ct_InvalidArgument cc_InvalidArgument), sl_InvalidArgument⟩)
    (cf_InvalidArgument : PySem.W.codeIn K (.ref cd_InvalidArgument) "InvalidArgument.__init__" = true)
    (lc_InvalidArgument : K.lookup cc_InvalidArgument = some ⟨cll_InvalidArgument, cld_InvalidArgument, .cell (some (.ref c_InvalidArgument)), csl_InvalidArgument⟩)
    (ld_InvalidArgument : K.lookup cd_InvalidArgument = some ⟨ccl_InvalidArgument, cdd_InvalidArgument, .fields vs_InvalidArgument, ccs_InvalidArgument⟩)
    (v2_InvalidArgument : vs_InvalidArgument[2]? = some (.str fl_InvalidArgument tf_InvalidArgument))
    (fe_InvalidArgument : ((PP.main.file : Str) == fl_InvalidArgument) = true)
    (kp_InvalidArgument : PySem.W.keepIn K (.ref c_InvalidArgument) = true)
    (hg_InvalidArgument : PySem.W.findIn K (.ref c_InvalidArgument) "__getattribute__" = some (some (.builtin "BaseException.__getattribute__")))
    (hk_InvalidArgument : PySem.W.findIn K (.ref c_InvalidArgument) "__getattr__" = some none)
    (hs_InvalidArgument : PySem.W.subIn K (.ref c_InvalidArgument) (.type "BaseException") = some true)
    (hd_InvalidArgument : PySem.W.hasDictIn K c_InvalidArgument = true)
    (ty_InvalidArgument : PySem.W.typeIn K (.ref c_InvalidArgument) = some (.type "type"))
    (ic_InvalidArgument : PySem.W.isClsIn K c_InvalidArgument = true)
    (ss_InvalidArgument : PySem.W.subIn K (.ref c_InvalidArgument) (.ref c_InvalidArgument) = some true)
    (no_part_InvalidArgument : PySem.W.findIn K (.ref c_InvalidArgument) "part" = some none)
    (A_is_integer : PySem.W.nsIn K mainGlobals "is_integer" = some (some (.ref g_is_integer)))
    (L_is_integer : K.lookup g_is_integer = some ⟨xo_is_integer, xd_is_integer, .func (PySem.W.fnOf "is_integer" "is_integer" (defArgs s_is_integer) (defBody s_is_integer) (defScope s_is_integer) .none xk_is_integer xc_is_integer xp_is_integer xa_is_integer xe_is_integer xt_is_integer), xs_is_integer⟩)
    (D_is_integer : PySem.W.codeIn K xe_is_integer "is_integer" = true)
    (P_is_integer : PySem.W.keepIn K (.ref g_is_integer) = true)
    (A_is_word : PySem.W.nsIn K mainGlobals "is_word" = some (some (.ref g_is_word)))
    (L_is_word : K.lookup g_is_word = some ⟨xo_is_word, xd_is_word, .func (PySem.W.fnOf "is_word" "is_word" (defArgs s_is_word) (defBody s_is_word) (defScope s_is_word) .none xk_is_word xc_is_word xp_is_word xa_is_word xe_is_word xt_is_word), xs_is_word⟩)
    (D_is_word : PySem.W.codeIn K xe_is_word "is_word" = true)
    (P_is_word : PySem.W.keepIn K (.ref g_is_word) = true)
    (A_same : PySem.W.nsIn K mainGlobals "same" = some (some (.ref g_same)))
    (L_same : K.lookup g_same = some ⟨xo_same, xd_same, .func (PySem.W.fnOf "same" "same" (defArgs s_same) (defBody s_same) (defScope s_same) .none xk_same xc_same xp_same xa_same xe_same xt_same), xs_same⟩)
    (D_same : PySem.W.codeIn K xe_same "same" = true)
    (P_same : PySem.W.keepIn K (.ref g_same) = true)
    (A_same_items : PySem.W.nsIn K mainGlobals "same_items" = some (some (.ref g_same_items)))
    (L_same_items : K.lookup g_same_items = some ⟨xo_same_items, xd_same_items, .func (PySem.W.fnOf "same_items" "same_items" (defArgs s_same_items) (defBody s_same_items) (defScope s_same_items) .none xk_same_items xc_same_items xp_same_items xa_same_items xe_same_items xt_same_items), xs_same_items⟩)
    (D_same_items : PySem.W.codeIn K xe_same_items "same_items" = true)
    (P_same_items : PySem.W.keepIn K (.ref g_same_items) = true)
    (A_has_form : PySem.W.nsIn K mainGlobals "has_form" = some (some (.ref g_has_form)))
    (L_has_form : K.lookup g_has_form = some ⟨xo_has_form, xd_has_form, .func (PySem.W.fnOf "has_form" "has_form" (defArgs s_has_form) (defBody s_has_form) (defScope s_has_form) .none xk_has_form xc_has_form xp_has_form xa_has_form xe_has_form xt_has_form), xs_has_form⟩)
    (D_has_form : PySem.W.codeIn K xe_has_form "has_form" = true)
    (P_has_form : PySem.W.keepIn K (.ref g_has_form) = true)
    (A_is_outer : PySem.W.nsIn K mainGlobals "is_outer" = some (some (.ref g_is_outer)))
    (L_is_outer : K.lookup g_is_outer = some ⟨xo_is_outer, xd_is_outer, .func (PySem.W.fnOf "is_outer" "is_outer" (defArgs s_is_outer) (defBody s_is_outer) (defScope s_is_outer) .none xk_is_outer xc_is_outer xp_is_outer xa_is_outer xe_is_outer xt_is_outer), xs_is_outer⟩)
    (D_is_outer : PySem.W.codeIn K xe_is_outer "is_outer" = true)
    (P_is_outer : PySem.W.keepIn K (.ref g_is_outer) = true)
    (A_suits_things : PySem.W.nsIn K mainGlobals "suits_things" = some (some (.ref g_suits_things)))
    (L_suits_things : K.lookup g_suits_things = some ⟨xo_suits_things, xd_suits_things, .func (PySem.W.fnOf "suits_things" "suits_things" (defArgs s_suits_things) (defBody s_suits_things) (defScope s_suits_things) .none xk_suits_things xc_suits_things xp_suits_things xa_suits_things xe_suits_things xt_suits_things), xs_suits_things⟩)
    (D_suits_things : PySem.W.codeIn K xe_suits_things "suits_things" = true)
    (P_suits_things : PySem.W.keepIn K (.ref g_suits_things) = true)
    (A_enter_token : PySem.W.nsIn K mainGlobals "enter_token" = some (some (.ref g_enter_token)))
    (L_enter_token : K.lookup g_enter_token = some ⟨xo_enter_token, xd_enter_token, .func (PySem.W.fnOf "enter_token" "enter_token" (defArgs s_enter_token) (defBody s_enter_token) (defScope s_enter_token) .none xk_enter_token xc_enter_token xp_enter_token xa_enter_token xe_enter_token xt_enter_token), xs_enter_token⟩)
    (D_enter_token : PySem.W.codeIn K xe_enter_token "enter_token" = true)
    (P_enter_token : PySem.W.keepIn K (.ref g_enter_token) = true)
    (A_check_tokens : PySem.W.nsIn K mainGlobals "check_tokens" = some (some (.ref g_check_tokens)))
    (L_check_tokens : K.lookup g_check_tokens = some ⟨xo_check_tokens, xd_check_tokens, .func (PySem.W.fnOf "check_tokens" "check_tokens" (defArgs s_check_tokens) (defBody s_check_tokens) (defScope s_check_tokens) .none xk_check_tokens xc_check_tokens xp_check_tokens xa_check_tokens xe_check_tokens xt_check_tokens), xs_check_tokens⟩)
    (D_check_tokens : PySem.W.codeIn K xe_check_tokens "check_tokens" = true)
    (P_check_tokens : PySem.W.keepIn K (.ref g_check_tokens) = true)
    (A_split_turns : PySem.W.nsIn K mainGlobals "split_turns" = some (some (.ref g_split_turns)))
    (L_split_turns : K.lookup g_split_turns = some ⟨xo_split_turns, xd_split_turns, .func (PySem.W.fnOf "split_turns" "split_turns" (defArgs s_split_turns) (defBody s_split_turns) (defScope s_split_turns) .none xk_split_turns xc_split_turns xp_split_turns xa_split_turns xe_split_turns xt_split_turns), xs_split_turns⟩)
    (D_split_turns : PySem.W.codeIn K xe_split_turns "split_turns" = true)
    (P_split_turns : PySem.W.keepIn K (.ref g_split_turns) = true)
    (A_renamed : PySem.W.nsIn K mainGlobals "renamed" = some (some (.ref g_renamed)))
    (L_renamed : K.lookup g_renamed = some ⟨xo_renamed, xd_renamed, .func (PySem.W.fnOf "renamed" "renamed" (defArgs s_renamed) (defBody s_renamed) (defScope s_renamed) .none xk_renamed xc_renamed xp_renamed xa_renamed xe_renamed xt_renamed), xs_renamed⟩)
    (D_renamed : PySem.W.codeIn K xe_renamed "renamed" = true)
    (P_renamed : PySem.W.keepIn K (.ref g_renamed) = true)
    (A_turn_by_age : PySem.W.nsIn K mainGlobals "turn_by_age" = some (some (.ref g_turn_by_age)))
    (L_turn_by_age : K.lookup g_turn_by_age = some ⟨xo_turn_by_age, xd_turn_by_age, .func (PySem.W.fnOf "turn_by_age" "turn_by_age" (defArgs s_turn_by_age) (defBody s_turn_by_age) (defScope s_turn_by_age) .none xk_turn_by_age xc_turn_by_age xp_turn_by_age xa_turn_by_age xe_turn_by_age xt_turn_by_age), xs_turn_by_age⟩)
    (D_turn_by_age : PySem.W.codeIn K xe_turn_by_age "turn_by_age" = true)
    (P_turn_by_age : PySem.W.keepIn K (.ref g_turn_by_age) = true)
    (A_turn_by_number : PySem.W.nsIn K mainGlobals "turn_by_number" = some (some (.ref g_turn_by_number)))
    (L_turn_by_number : K.lookup g_turn_by_number = some ⟨xo_turn_by_number, xd_turn_by_number, .func (PySem.W.fnOf "turn_by_number" "turn_by_number" (defArgs s_turn_by_number) (defBody s_turn_by_number) (defScope s_turn_by_number) .none xk_turn_by_number xc_turn_by_number xp_turn_by_number xa_turn_by_number xe_turn_by_number xt_turn_by_number), xs_turn_by_number⟩)
    (D_turn_by_number : PySem.W.codeIn K xe_turn_by_number "turn_by_number" = true)
    (P_turn_by_number : PySem.W.keepIn K (.ref g_turn_by_number) = true)
    (A_turns_by_age : PySem.W.nsIn K mainGlobals "turns_by_age" = some (some (.ref g_turns_by_age)))
    (L_turns_by_age : K.lookup g_turns_by_age = some ⟨xo_turns_by_age, xd_turns_by_age, .func (PySem.W.fnOf "turns_by_age" "turns_by_age" (defArgs s_turns_by_age) (defBody s_turns_by_age) (defScope s_turns_by_age) .none xk_turns_by_age xc_turns_by_age xp_turns_by_age xa_turns_by_age xe_turns_by_age xt_turns_by_age), xs_turns_by_age⟩)
    (D_turns_by_age : PySem.W.codeIn K xe_turns_by_age "turns_by_age" = true)
    (P_turns_by_age : PySem.W.keepIn K (.ref g_turns_by_age) = true)
    (A_turns_by_number : PySem.W.nsIn K mainGlobals "turns_by_number" = some (some (.ref g_turns_by_number)))
    (L_turns_by_number : K.lookup g_turns_by_number = some ⟨xo_turns_by_number, xd_turns_by_number, .func (PySem.W.fnOf "turns_by_number" "turns_by_number" (defArgs s_turns_by_number) (defBody s_turns_by_number) (defScope s_turns_by_number) .none xk_turns_by_number xc_turns_by_number xp_turns_by_number xa_turns_by_number xe_turns_by_number xt_turns_by_number), xs_turns_by_number⟩)
    (D_turns_by_number : PySem.W.codeIn K xe_turns_by_number "turns_by_number" = true)
    (P_turns_by_number : PySem.W.keepIn K (.ref g_turns_by_number) = true)
    (A_joined : PySem.W.nsIn K mainGlobals "joined" = some (some (.ref g_joined)))
    (L_joined : K.lookup g_joined = some ⟨xo_joined, xd_joined, .func (PySem.W.fnOf "joined" "joined" (defArgs s_joined) (defBody s_joined) (defScope s_joined) .none xk_joined xc_joined xp_joined xa_joined xe_joined xt_joined), xs_joined⟩)
    (D_joined : PySem.W.codeIn K xe_joined "joined" = true)
    (P_joined : PySem.W.keepIn K (.ref g_joined) = true)
    (A_aged : PySem.W.nsIn K mainGlobals "aged" = some (some (.ref g_aged)))
    (L_aged : K.lookup g_aged = some ⟨xo_aged, xd_aged, .func (PySem.W.fnOf "aged" "aged" (defArgs s_aged) (defBody s_aged) (defScope s_aged) .none xk_aged xc_aged xp_aged xa_aged xe_aged xt_aged), xs_aged⟩)
    (D_aged : PySem.W.codeIn K xe_aged "aged" = true)
    (P_aged : PySem.W.keepIn K (.ref g_aged) = true)
    (A_are_turns : PySem.W.nsIn K mainGlobals "are_turns" = some (some (.ref g_are_turns)))
    (L_are_turns : K.lookup g_are_turns = some ⟨xo_are_turns, xd_are_turns, .func (PySem.W.fnOf "are_turns" "are_turns" (defArgs s_are_turns) (defBody s_are_turns) (defScope s_are_turns) .none xk_are_turns xc_are_turns xp_are_turns xa_are_turns xe_are_turns xt_are_turns), xs_are_turns⟩)
    (D_are_turns : PySem.W.codeIn K xe_are_turns "are_turns" = true)
    (P_are_turns : PySem.W.keepIn K (.ref g_are_turns) = true)
    (A_numbered : PySem.W.nsIn K mainGlobals "numbered" = some (some (.ref g_numbered)))
    (L_numbered : K.lookup g_numbered = some ⟨xo_numbered, xd_numbered, .func (PySem.W.fnOf "numbered" "numbered" (defArgs s_numbered) (defBody s_numbered) (defScope s_numbered) .none xk_numbered xc_numbered xp_numbered xa_numbered xe_numbered xt_numbered), xs_numbered⟩)
    (D_numbered : PySem.W.codeIn K xe_numbered "numbered" = true)
    (P_numbered : PySem.W.keepIn K (.ref g_numbered) = true)
    (A__law_bag : PySem.W.nsIn K mainGlobals "_law_bag" = some (some (.ref g__law_bag)))
    (L__law_bag : K.lookup g__law_bag = some ⟨xo__law_bag, xd__law_bag, .func (PySem.W.fnOf "_law_bag" "_law_bag" (defArgs s__law_bag) (defBody s__law_bag) (defScope s__law_bag) .none xk__law_bag xc__law_bag xp__law_bag xa__law_bag xe__law_bag xt__law_bag), xs__law_bag⟩)
    (D__law_bag : PySem.W.codeIn K xe__law_bag "_law_bag" = true)
    (P__law_bag : PySem.W.keepIn K (.ref g__law_bag) = true)
    (A__law_draw : PySem.W.nsIn K mainGlobals "_law_draw" = some (some (.ref g__law_draw)))
    (L__law_draw : K.lookup g__law_draw = some ⟨xo__law_draw, xd__law_draw, .func (PySem.W.fnOf "_law_draw" "_law_draw" (defArgs s__law_draw) (defBody s__law_draw) (defScope s__law_draw) .none xk__law_draw xc__law_draw xp__law_draw xa__law_draw xe__law_draw xt__law_draw), xs__law_draw⟩)
    (D__law_draw : PySem.W.codeIn K xe__law_draw "_law_draw" = true)
    (P__law_draw : PySem.W.keepIn K (.ref g__law_draw) = true)
    (A__law_one : PySem.W.nsIn K mainGlobals "_law_one" = some (some (.ref g__law_one)))
    (L__law_one : K.lookup g__law_one = some ⟨xo__law_one, xd__law_one, .func (PySem.W.fnOf "_law_one" "_law_one" (defArgs s__law_one) (defBody s__law_one) (defScope s__law_one) .none xk__law_one xc__law_one xp__law_one xa__law_one xe__law_one xt__law_one), xs__law_one⟩)
    (D__law_one : PySem.W.codeIn K xe__law_one "_law_one" = true)
    (P__law_one : PySem.W.keepIn K (.ref g__law_one) = true)
    (A__law_words : PySem.W.nsIn K mainGlobals "_law_words" = some (some (.ref g__law_words)))
    (L__law_words : K.lookup g__law_words = some ⟨xo__law_words, xd__law_words, .func (PySem.W.fnOf "_law_words" "_law_words" (defArgs s__law_words) (defBody s__law_words) (defScope s__law_words) .none xk__law_words xc__law_words xp__law_words xa__law_words xe__law_words xt__law_words), xs__law_words⟩)
    (D__law_words : PySem.W.codeIn K xe__law_words "_law_words" = true)
    (P__law_words : PySem.W.keepIn K (.ref g__law_words) = true)
    (A__law_same : PySem.W.nsIn K mainGlobals "_law_same" = some (some (.ref g__law_same)))
    (L__law_same : K.lookup g__law_same = some ⟨xo__law_same, xd__law_same, .func (PySem.W.fnOf "_law_same" "_law_same" (defArgs s__law_same) (defBody s__law_same) (defScope s__law_same) .none xk__law_same xc__law_same xp__law_same xa__law_same xe__law_same xt__law_same), xs__law_same⟩)
    (D__law_same : PySem.W.codeIn K xe__law_same "_law_same" = true)
    (P__law_same : PySem.W.keepIn K (.ref g__law_same) = true)
    (A__law_history : PySem.W.nsIn K mainGlobals "_law_history" = some (some (.ref g__law_history)))
    (L__law_history : K.lookup g__law_history = some ⟨xo__law_history, xd__law_history, .func (PySem.W.fnOf "_law_history" "_law_history" (defArgs s__law_history) (defBody s__law_history) (defScope s__law_history) .none xk__law_history xc__law_history xp__law_history xa__law_history xe__law_history xt__law_history), xs__law_history⟩)
    (D__law_history : PySem.W.codeIn K xe__law_history "_law_history" = true)
    (P__law_history : PySem.W.keepIn K (.ref g__law_history) = true)
    (A__law_turns : PySem.W.nsIn K mainGlobals "_law_turns" = some (some (.ref g__law_turns)))
    (L__law_turns : K.lookup g__law_turns = some ⟨xo__law_turns, xd__law_turns, .func (PySem.W.fnOf "_law_turns" "_law_turns" (defArgs s__law_turns) (defBody s__law_turns) (defScope s__law_turns) .none xk__law_turns xc__law_turns xp__law_turns xa__law_turns xe__law_turns xt__law_turns), xs__law_turns⟩)
    (D__law_turns : PySem.W.codeIn K xe__law_turns "_law_turns" = true)
    (P__law_turns : PySem.W.keepIn K (.ref g__law_turns) = true)
    (A__law_back : PySem.W.nsIn K mainGlobals "_law_back" = some (some (.ref g__law_back)))
    (L__law_back : K.lookup g__law_back = some ⟨xo__law_back, xd__law_back, .func (PySem.W.fnOf "_law_back" "_law_back" (defArgs s__law_back) (defBody s__law_back) (defScope s__law_back) .none xk__law_back xc__law_back xp__law_back xa__law_back xe__law_back xt__law_back), xs__law_back⟩)
    (D__law_back : PySem.W.codeIn K xe__law_back "_law_back" = true)
    (P__law_back : PySem.W.keepIn K (.ref g__law_back) = true)
    (A__law_told : PySem.W.nsIn K mainGlobals "_law_told" = some (some (.ref g__law_told)))
    (L__law_told : K.lookup g__law_told = some ⟨xo__law_told, xd__law_told, .func (PySem.W.fnOf "_law_told" "_law_told" (defArgs s__law_told) (defBody s__law_told) (defScope s__law_told) .none xk__law_told xc__law_told xp__law_told xa__law_told xe__law_told xt__law_told), xs__law_told⟩)
    (D__law_told : PySem.W.codeIn K xe__law_told "_law_told" = true)
    (P__law_told : PySem.W.keepIn K (.ref g__law_told) = true)
    (A__law_changed : PySem.W.nsIn K mainGlobals "_law_changed" = some (some (.ref g__law_changed)))
    (L__law_changed : K.lookup g__law_changed = some ⟨xo__law_changed, xd__law_changed, .func (PySem.W.fnOf "_law_changed" "_law_changed" (defArgs s__law_changed) (defBody s__law_changed) (defScope s__law_changed) .none xk__law_changed xc__law_changed xp__law_changed xa__law_changed xe__law_changed xt__law_changed), xs__law_changed⟩)
    (D__law_changed : PySem.W.codeIn K xe__law_changed "_law_changed" = true)
    (P__law_changed : PySem.W.keepIn K (.ref g__law_changed) = true)
    (A_law : PySem.W.nsIn K mainGlobals "law" = some (some (.ref g_law)))
    (L_law : K.lookup g_law = some ⟨xo_law, xd_law, .func (PySem.W.fnOf "law" "law" (defArgs s_law) (defBody s_law) (defScope s_law) .none xk_law xc_law xp_law xa_law xe_law xt_law), xs_law⟩)
    (D_law : PySem.W.codeIn K xe_law "law" = true)
    (P_law : PySem.W.keepIn K (.ref g_law) = true)
    : ∃ fd : FuncData, (∀ (s : Shared) (v : Value), BindsTo s fd ⟨[v], []⟩ [("_law_script", v)]) ∧ ∀ base : Heap, K.In base → base.Ns mainGlobals mg → FnOk PP w K mg base CX0 12 fa fd ["_law_script"] (spLaw K) := by
  have e := hfa.symm.trans (PySem.W.mg_of X G A_law)
  cases e
  have X_InvalidHistory : XCls PP K c_InvalidHistory := ⟨⟨_, _, _, _, _, _, _, _, _, _, _, _, _, _, _, l_InvalidHistory, rfl⟩, sa_InvalidHistory, su_InvalidHistory, opq, sg, by decide +kernel⟩
  have Y_InvalidHistory : XFn PP K c_InvalidHistory i_InvalidHistory "InvalidHistory.__init__" (defArgs s_InvalidHistory___init__) (defBody s_InvalidHistory___init__) (defScope s_InvalidHistory___init__) := ⟨⟨_, _, _, _, _, _, _, _, _, _, _, _, _, _, _, _, _, _, _, lf_InvalidHistory, cf_InvalidHistory, lc_InvalidHistory, ld_InvalidHistory, v2_InvalidHistory, fe_InvalidHistory⟩, ii_InvalidHistory, ti_InvalidHistory⟩
  have xm_InvalidHistory := Xm_InvalidHistory (w := w) X_InvalidHistory Y_InvalidHistory no_at_InvalidHistory
  have ex_InvalidHistory := exm_own hs_InvalidHistory ic_InvalidHistory ty_InvalidHistory ss_InvalidHistory
  have xf_InvalidHistory : XfC K c_InvalidHistory := ⟨hg_InvalidHistory, hk_InvalidHistory, hs_InvalidHistory, hd_InvalidHistory⟩
  have X_InvalidArgument : XCls PP K c_InvalidArgument := ⟨⟨_, _, _, _, _, _, _, _, _, _, _, _, _, _, _, l_InvalidArgument, rfl⟩, sa_InvalidArgument, su_InvalidArgument, opq, sg, by decide +kernel⟩
  have Y_InvalidArgument : XFn PP K c_InvalidArgument i_InvalidArgument "InvalidArgument.__init__" (defArgs s_InvalidArgument___init__) (defBody s_InvalidArgument___init__) (defScope s_InvalidArgument___init__) := ⟨⟨_, _, _, _, _, _, _, _, _, _, _, _, _, _, _, _, _, _, _, lf_InvalidArgument, cf_InvalidArgument, lc_InvalidArgument, ld_InvalidArgument, v2_InvalidArgument, fe_InvalidArgument⟩, ii_InvalidArgument, ti_InvalidArgument⟩
  have xm_InvalidArgument := Xm_InvalidArgument (w := w) X_InvalidArgument Y_InvalidArgument no_part_InvalidArgument
  have ex_InvalidArgument := exm_own hs_InvalidArgument ic_InvalidArgument ty_InvalidArgument ss_InvalidArgument
  have xf_InvalidArgument : XfC K c_InvalidArgument := ⟨hg_InvalidArgument, hk_InvalidArgument, hs_InvalidArgument, hd_InvalidArgument⟩
  have F_is_integer := fun_mk (st := s_is_integer) L_is_integer D_is_integer P_is_integer
  have B_is_integer := F_is_integer.binds (ps := ["value"]) fun _ _ _ _ _ _ us hl => match us, hl with | [_], _ => rfl
  have F_is_word := fun_mk (st := s_is_word) L_is_word D_is_word P_is_word
  have B_is_word := F_is_word.binds (ps := ["value"]) fun _ _ _ _ _ _ us hl => match us, hl with | [_], _ => rfl
  have F_same := fun_mk (st := s_same) L_same D_same P_same
  have B_same := F_same.binds (ps := ["one", "other"]) fun _ _ _ _ _ _ us hl => match us, hl with | [_, _], _ => rfl
  have F_same_items := fun_mk (st := s_same_items) L_same_items D_same_items P_same_items
  have B_same_items := F_same_items.binds (ps := ["ones", "others"]) fun _ _ _ _ _ _ us hl => match us, hl with | [_, _], _ => rfl
  have F_has_form := fun_mk (st := s_has_form) L_has_form D_has_form P_has_form
  have B_has_form := F_has_form.binds (ps := ["token"]) fun _ _ _ _ _ _ us hl => match us, hl with | [_], _ => rfl
  have F_is_outer := fun_mk (st := s_is_outer) L_is_outer D_is_outer P_is_outer
  have B_is_outer := F_is_outer.binds (ps := ["token"]) fun _ _ _ _ _ _ us hl => match us, hl with | [_], _ => rfl
  have F_suits_things := fun_mk (st := s_suits_things) L_suits_things D_suits_things P_suits_things
  have B_suits_things := F_suits_things.binds (ps := ["token", "things"]) fun _ _ _ _ _ _ us hl => match us, hl with | [_, _], _ => rfl
  have F_enter_token := fun_mk (st := s_enter_token) L_enter_token D_enter_token P_enter_token
  have B_enter_token := F_enter_token.binds (ps := ["token", "things"]) fun _ _ _ _ _ _ us hl => match us, hl with | [_, _], _ => rfl
  have F_check_tokens := fun_mk (st := s_check_tokens) L_check_tokens D_check_tokens P_check_tokens
  have B_check_tokens := F_check_tokens.binds (ps := ["history"]) fun _ _ _ _ _ _ us hl => match us, hl with | [_], _ => rfl
  have F_split_turns := fun_mk (st := s_split_turns) L_split_turns D_split_turns P_split_turns
  have B_split_turns := F_split_turns.binds (ps := ["history"]) fun _ _ _ _ _ _ us hl => match us, hl with | [_], _ => rfl
  have F_renamed := fun_mk (st := s_renamed) L_renamed D_renamed P_renamed
  have B_renamed := F_renamed.binds (ps := ["token", "number"]) fun _ _ _ _ _ _ us hl => match us, hl with | [_, _], _ => rfl
  have F_turn_by_age := fun_mk (st := s_turn_by_age) L_turn_by_age D_turn_by_age P_turn_by_age
  have B_turn_by_age := F_turn_by_age.binds (ps := ["turn", "numbers", "started"]) fun _ _ _ _ _ _ us hl => match us, hl with | [_, _, _], _ => rfl
  have F_turn_by_number := fun_mk (st := s_turn_by_number) L_turn_by_number D_turn_by_number P_turn_by_number
  have B_turn_by_number := F_turn_by_number.binds (ps := ["turn", "numbers", "started"]) fun _ _ _ _ _ _ us hl => match us, hl with | [_, _, _], _ => rfl
  have F_turns_by_age := fun_mk (st := s_turns_by_age) L_turns_by_age D_turns_by_age P_turns_by_age
  have B_turns_by_age := F_turns_by_age.binds (ps := ["turns"]) fun _ _ _ _ _ _ us hl => match us, hl with | [_], _ => rfl
  have F_turns_by_number := fun_mk (st := s_turns_by_number) L_turns_by_number D_turns_by_number P_turns_by_number
  have B_turns_by_number := F_turns_by_number.binds (ps := ["turns"]) fun _ _ _ _ _ _ us hl => match us, hl with | [_], _ => rfl
  have F_joined := fun_mk (st := s_joined) L_joined D_joined P_joined
  have B_joined := F_joined.binds (ps := ["turns"]) fun _ _ _ _ _ _ us hl => match us, hl with | [_], _ => rfl
  have F_aged := fun_mk (st := s_aged) L_aged D_aged P_aged
  have B_aged := F_aged.binds (ps := ["history"]) fun _ _ _ _ _ _ us hl => match us, hl with | [_], _ => rfl
  have F_are_turns := fun_mk (st := s_are_turns) L_are_turns D_are_turns P_are_turns
  have B_are_turns := F_are_turns.binds (ps := ["value"]) fun _ _ _ _ _ _ us hl => match us, hl with | [_], _ => rfl
  have F_numbered := fun_mk (st := s_numbered) L_numbered D_numbered P_numbered
  have B_numbered := F_numbered.binds (ps := ["turns"]) fun _ _ _ _ _ _ us hl => match us, hl with | [_], _ => rfl
  have F__law_bag := fun_mk (st := s__law_bag) L__law_bag D__law_bag P__law_bag
  have B__law_bag := F__law_bag.binds (ps := ["_law_script"]) fun _ _ _ _ _ _ us hl => match us, hl with | [_], _ => rfl
  have F__law_draw := fun_mk (st := s__law_draw) L__law_draw D__law_draw P__law_draw
  have B__law_draw := F__law_draw.binds (ps := ["_law_bag_here", "_law_many"]) fun _ _ _ _ _ _ us hl => match us, hl with | [_, _], _ => rfl
  have F__law_one := fun_mk (st := s__law_one) L__law_one D__law_one P__law_one
  have B__law_one := F__law_one.binds (ps := ["_law_bag_here", "_law_items"]) fun _ _ _ _ _ _ us hl => match us, hl with | [_, _], _ => rfl
  have F__law_words := fun_mk (st := s__law_words) L__law_words D__law_words P__law_words
  have B__law_words := F__law_words.binds (ps := ["_law_bag_here", "_law_many", "_law_most", "_law_taken"]) fun _ _ _ _ _ _ us hl => match us, hl with | [_, _, _, _], _ => rfl
  have F__law_same := fun_mk (st := s__law_same) L__law_same D__law_same P__law_same
  have B__law_same := F__law_same.binds (ps := ["_law_told_here", "_law_due"]) fun _ _ _ _ _ _ us hl => match us, hl with | [_, _], _ => rfl
  have F__law_history := fun_mk (st := s__law_history) L__law_history D__law_history P__law_history
  have B__law_history := F__law_history.binds (ps := ["_law_bag_here"]) fun _ _ _ _ _ _ us hl => match us, hl with | [_], _ => rfl
  have F__law_turns := fun_mk (st := s__law_turns) L__law_turns D__law_turns P__law_turns
  have B__law_turns := F__law_turns.binds (ps := ["_law_history_here"]) fun _ _ _ _ _ _ us hl => match us, hl with | [_], _ => rfl
  have F__law_back := fun_mk (st := s__law_back) L__law_back D__law_back P__law_back
  have B__law_back := F__law_back.binds (ps := ["_law_turns_here"]) fun _ _ _ _ _ _ us hl => match us, hl with | [_], _ => rfl
  have F__law_told := fun_mk (st := s__law_told) L__law_told D__law_told P__law_told
  have B__law_told := F__law_told.binds (ps := ["_law_turns_here"]) fun _ _ _ _ _ _ us hl => match us, hl with | [_], _ => rfl
  have F__law_changed := fun_mk (st := s__law_changed) L__law_changed D__law_changed P__law_changed
  have B__law_changed := F__law_changed.binds (ps := ["_law_bag_here", "_law_turns_here"]) fun _ _ _ _ _ _ us hl => match us, hl with | [_, _], _ => rfl
  have F_law := fun_mk (st := s_law) L_law D_law P_law
  have B_law := F_law.binds (ps := ["_law_script"]) fun _ _ _ _ _ _ us hl => match us, hl with | [_], _ => rfl
  have T0 : Txt mg := { b_len := PySem.W.mg_none_of X G z_len, b_int := PySem.W.mg_none_of X G z_int, b_bool := PySem.W.mg_none_of X G z_bool, b_str := PySem.W.mg_none_of X G z_str, b_list := PySem.W.mg_none_of X G z_list, b_tuple := PySem.W.mg_none_of X G z_tuple, b_dict := PySem.W.mg_none_of X G z_dict, b_set := PySem.W.mg_none_of X G z_set, b_range := PySem.W.mg_none_of X G z_range, b_zip := PySem.W.mg_none_of X G z_zip, b_enumerate := PySem.W.mg_none_of X G z_enumerate, b_sorted := PySem.W.mg_none_of X G z_sorted, b_isinstance := PySem.W.mg_none_of X G z_isinstance, g_LETTERS := ⟨_, PySem.W.mg_of X G z_LETTERS⟩ }
  have T : TxtH PP w K mg p_FORMS p_OUTER p_NUMBERED p_LAST c_InvalidHistory c_InvalidArgument := { T0 with g_FORMS := PySem.W.mg_of X G A_FORMS, w_FORMS := ⟨_, _, L_FORMS, E_FORMS, S_FORMS⟩, g_OUTER := PySem.W.mg_of X G A_OUTER, g_NUMBERED := PySem.W.mg_of X G A_NUMBERED, g_LAST := PySem.W.mg_of X G A_LAST, s_OUTER := fun _ => .inr ⟨_, _, _, L_OUTER, rfl, rfl, sz_lit (by show 4 ≤ 100000; decide), (.cons ⟨_, rfl⟩ (.cons ⟨_, rfl⟩ (.cons ⟨_, rfl⟩ (.cons ⟨_, rfl⟩ .nil))))⟩, s_NUMBERED := fun _ => .inr ⟨_, _, _, L_NUMBERED, rfl, rfl, sz_lit (by show 3 ≤ 100000; decide), (.cons ⟨_, rfl⟩ (.cons ⟨_, rfl⟩ (.cons ⟨_, rfl⟩ .nil)))⟩, s_LAST := fun _ => .inr ⟨_, _, _, L_LAST, rfl, rfl, sz_lit (by show 2 ≤ 100000; decide), (.cons ⟨_, rfl⟩ (.cons ⟨_, rfl⟩ .nil))⟩, g_InvalidHistory := PySem.W.mg_of X G A_InvalidHistory, k_InvalidHistory := kp_InvalidHistory, mk_InvalidHistory := xm_InvalidHistory.1, r_InvalidHistory := fun _ _ k => ⟨PySem.W.looks_subIn k hs_InvalidHistory, PySem.W.looks_typeIn k ty_InvalidHistory⟩, g_InvalidArgument := PySem.W.mg_of X G A_InvalidArgument, k_InvalidArgument := kp_InvalidArgument, mk_InvalidArgument := xm_InvalidArgument.1, r_InvalidArgument := fun _ _ k => ⟨PySem.W.looks_subIn k hs_InvalidArgument, PySem.W.looks_typeIn k ty_InvalidArgument⟩ }
  refine ⟨PySem.W.fnOf "law" "law" (defArgs s_law) (defBody s_law) (defScope s_law) .none xk_law xc_law xp_law xa_law xe_law xt_law, fun s v => .of_eq rfl, fun base _ _ => ?_⟩
  have c_is_integer : Cal PP w K mg base CX0 1 "is_integer" ["value"] (spInt K) := ⟨g_is_integer, _, PySem.W.mg_of X G A_is_integer, P_is_integer, B_is_integer, ok_is_integer F_is_integer T0⟩
  have c_is_word : Cal PP w K mg base CX0 1 "is_word" ["value"] (spWord K) := ⟨g_is_word, _, PySem.W.mg_of X G A_is_word, P_is_word, B_is_word, ok_is_word F_is_word T0⟩
  have c_has_form : Cal PP w K mg base CX0 2 "has_form" ["token"] (spForm K) := ⟨g_has_form, _, PySem.W.mg_of X G A_has_form, P_has_form, B_has_form, ok_has_form F_has_form T c_is_word c_is_integer⟩
  have c_is_outer : Cal PP w K mg base CX0 1 "is_outer" ["token"] (spIsOut K) := ⟨g_is_outer, _, PySem.W.mg_of X G A_is_outer, P_is_outer, B_is_outer, ok_is_outer F_is_outer T⟩
  have c_suits_things : Cal PP w K mg base CX0 1 "suits_things" ["token", "things"] (spSuits K) := ⟨g_suits_things, _, PySem.W.mg_of X G A_suits_things, P_suits_things, B_suits_things, ok_suits F_suits_things T⟩
  have c_enter_token : Cal PP w K mg base CX0 1 "enter_token" ["token", "things"] (spEnter K) := ⟨g_enter_token, _, PySem.W.mg_of X G A_enter_token, P_enter_token, B_enter_token, ok_enter F_enter_token T⟩
  have c_renamed : Cal PP w K mg base CX0 1 "renamed" ["token", "number"] (spRen K) := ⟨g_renamed, _, PySem.W.mg_of X G A_renamed, P_renamed, B_renamed, ok_renamed F_renamed⟩
  have c_check_tokens : Cal PP w K mg base (L2.CX PP w) 3 "check_tokens" ["history"] (spCheckT K c_InvalidHistory) := ⟨g_check_tokens, _, PySem.W.mg_of X G A_check_tokens, P_check_tokens, B_check_tokens, ok_check_tokens F_check_tokens T c_has_form c_suits_things c_enter_token⟩
  have c_check_tokensN : Cal PP w K mg base (L2N.CX PP w) 3 "check_tokens" ["history"] (spCheckT K c_InvalidHistory) := ⟨g_check_tokens, _, PySem.W.mg_of X G A_check_tokens, P_check_tokens, B_check_tokens, ok_check_tokensN F_check_tokens T c_has_form c_suits_things c_enter_token⟩
  have c_split_turns : Cal PP w K mg base CX0 2 "split_turns" ["history"] (spSplit K) := ⟨g_split_turns, _, PySem.W.mg_of X G A_split_turns, P_split_turns, B_split_turns, ok_split F_split_turns T c_is_outer⟩
  have c_joined : Cal PP w K mg base CX0 1 "joined" ["turns"] (spJoin K) := ⟨g_joined, _, PySem.W.mg_of X G A_joined, P_joined, B_joined, ok_joined F_joined⟩
  have c_turn_by_age : Cal PP w K mg base CX0 2 "turn_by_age" ["turn", "numbers", "started"] (spAge K) := ⟨g_turn_by_age, _, PySem.W.mg_of X G A_turn_by_age, P_turn_by_age, B_turn_by_age, ok_turn_by_age F_turn_by_age T c_renamed⟩
  have c_turn_by_number : Cal PP w K mg base CX0 2 "turn_by_number" ["turn", "numbers", "started"] (spNum K) := ⟨g_turn_by_number, _, PySem.W.mg_of X G A_turn_by_number, P_turn_by_number, B_turn_by_number, ok_turn_by_number F_turn_by_number T c_renamed⟩
  have c_turns_by_age : Cal PP w K mg base CX0 3 "turns_by_age" ["turns"] (spAges K) := ⟨g_turns_by_age, _, PySem.W.mg_of X G A_turns_by_age, P_turns_by_age, B_turns_by_age, ok_turns_by_age F_turns_by_age c_turn_by_age⟩
  have c_turns_by_number : Cal PP w K mg base CX0 3 "turns_by_number" ["turns"] (spNums K) := ⟨g_turns_by_number, _, PySem.W.mg_of X G A_turns_by_number, P_turns_by_number, B_turns_by_number, ok_turns_by_number F_turns_by_number c_turn_by_number⟩
  have c_aged : Cal PP w K mg base (L2.CX PP w) 4 "aged" ["history"] (spAged K) := ⟨g_aged, _, PySem.W.mg_of X G A_aged, P_aged, B_aged, ok_aged F_aged c_check_tokens c_split_turns c_turns_by_age⟩
  have c_are_turns : Cal PP w K mg base CX0 3 "are_turns" ["value"] (spAreT K) := ⟨g_are_turns, _, PySem.W.mg_of X G A_are_turns, P_are_turns, B_are_turns, ok_are_turns F_are_turns T c_has_form⟩
  have c_same : Cal PP w K mg base CX0 9 "same" ["one", "other"] (spSm K 4) := ok_sameL F_same F_same_items T (PySem.W.mg_of X G A_same) P_same B_same (PySem.W.mg_of X G A_same_items) P_same_items B_same_items 4
  have c_numbered : Cal PP w K mg base (L2.CX PP w) 10 "numbered" ["turns"] (spNumd K c_InvalidArgument) := ⟨g_numbered, _, PySem.W.mg_of X G A_numbered, P_numbered, B_numbered, ok_numbered F_numbered T ex_InvalidHistory c_are_turns c_turns_by_number c_joined c_check_tokensN c_split_turns c_turns_by_age c_same⟩
  have c__law_bag : Cal PP w K mg base CX0 1 "_law_bag" ["_law_script"] (spBag K) := ⟨g__law_bag, _, PySem.W.mg_of X G A__law_bag, P__law_bag, B__law_bag, ok_bag F__law_bag T0⟩
  have c__law_draw : Cal PP w K mg base CX0 1 "_law_draw" ["_law_bag_here", "_law_many"] spD := ⟨g__law_draw, _, PySem.W.mg_of X G A__law_draw, P__law_draw, B__law_draw, ok_draw F__law_draw T0⟩
  have c__law_one : Cal PP w K mg base CX0 2 "_law_one" ["_law_bag_here", "_law_items"] (spOne K) := ⟨g__law_one, _, PySem.W.mg_of X G A__law_one, P__law_one, B__law_one, ok_one F__law_one T0 c__law_draw⟩
  have c__law_words : Cal PP w K mg base CX0 2 "_law_words" ["_law_bag_here", "_law_many", "_law_most", "_law_taken"] (spWords K) := ⟨g__law_words, _, PySem.W.mg_of X G A__law_words, P__law_words, B__law_words, ok_words F__law_words T0 c__law_draw⟩
  have c__law_history : Cal PP w K mg base CX0 3 "_law_history" ["_law_bag_here"] (spLHist K) := ⟨g__law_history, _, PySem.W.mg_of X G A__law_history, P__law_history, B__law_history, ok_lhist F__law_history T0 c__law_draw c__law_one c__law_words⟩
  have c__law_turns : Cal PP w K mg base CX0 1 "_law_turns" ["_law_history_here"] (spLTurns K) := ⟨g__law_turns, _, PySem.W.mg_of X G A__law_turns, P__law_turns, B__law_turns, ok_lturns F__law_turns T0⟩
  have c__law_back : Cal PP w K mg base CX0 1 "_law_back" ["_law_turns_here"] (spLBack K) := ⟨g__law_back, _, PySem.W.mg_of X G A__law_back, P__law_back, B__law_back, ok_lback F__law_back T0⟩
  have c__law_told : Cal PP w K mg base CX0 11 "_law_told" ["_law_turns_here"] (spLTold K) := ⟨g__law_told, _, PySem.W.mg_of X G A__law_told, P__law_told, B__law_told, ok_ltold F__law_told T xf_InvalidArgument no_part_InvalidArgument ex_InvalidArgument c_numbered⟩
  have c__law_changed : Cal PP w K mg base CX0 3 "_law_changed" ["_law_bag_here", "_law_turns_here"] (spLChg K) := ⟨g__law_changed, _, PySem.W.mg_of X G A__law_changed, P__law_changed, B__law_changed, ok_lchg F__law_changed T0 c__law_draw c__law_one⟩
  have c__law_same : Cal PP w K mg base CX0 9 "_law_same" ["_law_told_here", "_law_due"] (spSame K 8) := ok_sameN F__law_same T0 (PySem.W.mg_of X G A__law_same) P__law_same B__law_same 8
  exact ok_law F_law T0 c__law_bag c__law_history c__law_turns c__law_same c__law_told c__law_back c__law_changed c_aged c_numbered
theorem walk {q : Program} {loose : List Str} {XP : (Str → Option Value) → Heap → Prop} {YP : World → Heap → Prop} {d : DefRec} {K : Params → PySem.W.Frag} (hdf : d.params.defaults = [])
    (hY : ∀ (w : World) (h : Heap), YP w h → (K w.params).In h)
    (F : ∀ (w : World) (mg : Str → Option Value) (fa : Addr) (h : Heap), (K w.params).In h → h.Ns mainGlobals mg → mg d.name = some (.ref fa) →
      ∃ fd : FuncData, (∀ (s : Shared) (u : Value), BindsTo s fd ⟨[u], []⟩ [("_law_script", u)]) ∧ ∀ base : Heap, (K w.params).In base → base.Ns mainGlobals mg → FnOk PP w (K w.params) mg base CX0 12 fa fd ["_law_script"] (spLaw (K w.params))) :
    PySem.W.WalkO q loose XP YP PySem.Challenge.rw_openruns_k13_ages_and_numbers.row.toRowW d [] (fun f vs => PySem.call f vs) :=
  L2.walk_of (l := PySem.Challenge.rw_openruns_k13_ages_and_numbers) (n := 63) (k := 12) (x := "_law_script") (CX := fun _ => CX0) (sp := fun w => spLaw (K w.params)) rfl (by decide) hdf ⟨rfl, by decide, by decide⟩ hY F (fun _ _ a ns hl _ hS => ⟨a, ns, rfl, hS, hl, fun _ => rfl⟩) fun _ _ _ _ _ z => z
end Op
open PySem PySem.W PyProof.Rows
set_option maxRecDepth 100000 in
set_option maxHeartbeats 0 in
theorem PySem.Challenge.cw_openruns_k13_ages_and_numbers_holds : PySem.Challenge.rw_openruns_k13_ages_and_numbers.Holds := by
  w_on; o_law; k_head; (case hw => w_witness2)
  k_fill
  refine Op.walk rfl (fun w h Y => PySem.W.kIn_of Y) ?F
  case F =>
    intro w mg fa h KX G hmg
    refine' Op.all_mk KX G hmg ?z_len ?z_int ?z_bool ?z_str ?z_list ?z_tuple ?z_dict ?z_set ?z_range ?z_zip ?z_enumerate ?z_sorted ?z_isinstance ?z_LETTERS ?A_FORMS ?L_FORMS ?E_FORMS ?S_FORMS ?A_OUTER ?L_OUTER ?A_NUMBERED ?L_NUMBERED ?A_LAST ?L_LAST ?opq ?sg ?A_InputError ?A_OpenError ?A_InvalidHistory ?l_InvalidHistory ?sa_InvalidHistory ?su_InvalidHistory ?ii_InvalidHistory ?ti_InvalidHistory ?lf_InvalidHistory ?cf_InvalidHistory ?lc_InvalidHistory ?ld_InvalidHistory ?v2_InvalidHistory ?fe_InvalidHistory ?kp_InvalidHistory ?hg_InvalidHistory ?hk_InvalidHistory ?hs_InvalidHistory ?hd_InvalidHistory ?ty_InvalidHistory ?ic_InvalidHistory ?ss_InvalidHistory ?no_at_InvalidHistory ?A_InvalidArgument ?l_InvalidArgument ?sa_InvalidArgument ?su_InvalidArgument ?ii_InvalidArgument ?ti_InvalidArgument ?lf_InvalidArgument ?cf_InvalidArgument ?lc_InvalidArgument ?ld_InvalidArgument ?v2_InvalidArgument ?fe_InvalidArgument ?kp_InvalidArgument ?hg_InvalidArgument ?hk_InvalidArgument ?hs_InvalidArgument ?hd_InvalidArgument ?ty_InvalidArgument ?ic_InvalidArgument ?ss_InvalidArgument ?no_part_InvalidArgument ?A_is_integer ?L_is_integer ?D_is_integer ?P_is_integer ?A_is_word ?L_is_word ?D_is_word ?P_is_word ?A_same ?L_same ?D_same ?P_same ?A_same_items ?L_same_items ?D_same_items ?P_same_items ?A_has_form ?L_has_form ?D_has_form ?P_has_form ?A_is_outer ?L_is_outer ?D_is_outer ?P_is_outer ?A_suits_things ?L_suits_things ?D_suits_things ?P_suits_things ?A_enter_token ?L_enter_token ?D_enter_token ?P_enter_token ?A_check_tokens ?L_check_tokens ?D_check_tokens ?P_check_tokens ?A_split_turns ?L_split_turns ?D_split_turns ?P_split_turns ?A_renamed ?L_renamed ?D_renamed ?P_renamed ?A_turn_by_age ?L_turn_by_age ?D_turn_by_age ?P_turn_by_age ?A_turn_by_number ?L_turn_by_number ?D_turn_by_number ?P_turn_by_number ?A_turns_by_age ?L_turns_by_age ?D_turns_by_age ?P_turns_by_age ?A_turns_by_number ?L_turns_by_number ?D_turns_by_number ?P_turns_by_number ?A_joined ?L_joined ?D_joined ?P_joined ?A_aged ?L_aged ?D_aged ?P_aged ?A_are_turns ?L_are_turns ?D_are_turns ?P_are_turns ?A_numbered ?L_numbered ?D_numbered ?P_numbered ?A__law_bag ?L__law_bag ?D__law_bag ?P__law_bag ?A__law_draw ?L__law_draw ?D__law_draw ?P__law_draw ?A__law_one ?L__law_one ?D__law_one ?P__law_one ?A__law_words ?L__law_words ?D__law_words ?P__law_words ?A__law_same ?L__law_same ?D__law_same ?P__law_same ?A__law_history ?L__law_history ?D__law_history ?P__law_history ?A__law_turns ?L__law_turns ?D__law_turns ?P__law_turns ?A__law_back ?L__law_back ?D__law_back ?P__law_back ?A__law_told ?L__law_told ?D__law_told ?P__law_told ?A__law_changed ?L__law_changed ?D__law_changed ?P__law_changed ?A_law ?L_law ?D_law ?P_law
    (case z_len => k_is)
    (case z_int => k_is)
    (case z_bool => k_is)
    (case z_str => k_is)
    (case z_list => k_is)
    (case z_tuple => k_is)
    (case z_dict => k_is)
    (case z_set => k_is)
    (case z_range => k_is)
    (case z_zip => k_is)
    (case z_enumerate => k_is)
    (case z_sorted => k_is)
    (case z_isinstance => k_is)
    (case z_LETTERS => k_is)
    (case A_FORMS => k_is)
    (case L_FORMS => k_is)
    (case E_FORMS => exact ⟨⟨_, rfl, rfl⟩, ⟨_, rfl⟩, ⟨⟨_, rfl, rfl⟩, ⟨_, rfl⟩, ⟨⟨_, rfl, rfl⟩, ⟨_, rfl⟩, ⟨⟨_, rfl, rfl⟩, ⟨_, rfl⟩, ⟨⟨_, rfl, rfl⟩, ⟨_, rfl⟩, ⟨⟨_, rfl, rfl⟩, ⟨_, rfl⟩, ⟨⟨_, rfl, rfl⟩, ⟨_, rfl⟩, ⟨⟨_, rfl, rfl⟩, ⟨_, rfl⟩, ⟨⟨_, rfl, rfl⟩, ⟨_, rfl⟩, ⟨⟨_, rfl, rfl⟩, ⟨_, rfl⟩, ⟨⟨_, rfl, rfl⟩, ⟨_, rfl⟩, trivial⟩⟩⟩⟩⟩⟩⟩⟩⟩⟩⟩)
    (case S_FORMS => rfl)
    (case A_OUTER => k_is)
    (case L_OUTER => k_is)
    (case A_NUMBERED => k_is)
    (case L_NUMBERED => k_is)
    (case A_LAST => k_is)
    (case L_LAST => k_is)
    (case opq => k_is)
    (case sg => k_is)
    (case A_InputError => k_is)
    (case A_OpenError => k_is)
    (case A_InvalidHistory => k_is)
    (case l_InvalidHistory => k_is)
    (case sa_InvalidHistory => k_is)
    (case su_InvalidHistory => rfl)
    (case ii_InvalidHistory => k_is)
    (case ti_InvalidHistory => k_is)
    (case lf_InvalidHistory => k_is)
    (case cf_InvalidHistory => k_is)
    (case lc_InvalidHistory => k_is)
    (case ld_InvalidHistory => k_is)
    (case v2_InvalidHistory => rfl)
    (case fe_InvalidHistory => decide +kernel)
    (case kp_InvalidHistory => k_is)
    (case hg_InvalidHistory => k_is)
    (case hk_InvalidHistory => k_is)
    (case hs_InvalidHistory => k_is)
    (case hd_InvalidHistory => k_is)
    (case ty_InvalidHistory => k_is)
    (case ic_InvalidHistory => k_is)
    (case ss_InvalidHistory => k_is)
    (case no_at_InvalidHistory => k_is)
    (case A_InvalidArgument => k_is)
    (case l_InvalidArgument => k_is)
    (case sa_InvalidArgument => k_is)
    (case su_InvalidArgument => rfl)
    (case ii_InvalidArgument => k_is)
    (case ti_InvalidArgument => k_is)
    (case lf_InvalidArgument => k_is)
    (case cf_InvalidArgument => k_is)
    (case lc_InvalidArgument => k_is)
    (case ld_InvalidArgument => k_is)
    (case v2_InvalidArgument => rfl)
    (case fe_InvalidArgument => decide +kernel)
    (case kp_InvalidArgument => k_is)
    (case hg_InvalidArgument => k_is)
    (case hk_InvalidArgument => k_is)
    (case hs_InvalidArgument => k_is)
    (case hd_InvalidArgument => k_is)
    (case ty_InvalidArgument => k_is)
    (case ic_InvalidArgument => k_is)
    (case ss_InvalidArgument => k_is)
    (case no_part_InvalidArgument => k_is)
    (case A_is_integer => k_is)
    (case L_is_integer => k_is)
    (case D_is_integer => k_is)
    (case P_is_integer => k_is)
    (case A_is_word => k_is)
    (case L_is_word => k_is)
    (case D_is_word => k_is)
    (case P_is_word => k_is)
    (case A_same => k_is)
    (case L_same => k_is)
    (case D_same => k_is)
    (case P_same => k_is)
    (case A_same_items => k_is)
    (case L_same_items => k_is)
    (case D_same_items => k_is)
    (case P_same_items => k_is)
    (case A_has_form => k_is)
    (case L_has_form => k_is)
    (case D_has_form => k_is)
    (case P_has_form => k_is)
    (case A_is_outer => k_is)
    (case L_is_outer => k_is)
    (case D_is_outer => k_is)
    (case P_is_outer => k_is)
    (case A_suits_things => k_is)
    (case L_suits_things => k_is)
    (case D_suits_things => k_is)
    (case P_suits_things => k_is)
    (case A_enter_token => k_is)
    (case L_enter_token => k_is)
    (case D_enter_token => k_is)
    (case P_enter_token => k_is)
    (case A_check_tokens => k_is)
    (case L_check_tokens => k_is)
    (case D_check_tokens => k_is)
    (case P_check_tokens => k_is)
    (case A_split_turns => k_is)
    (case L_split_turns => k_is)
    (case D_split_turns => k_is)
    (case P_split_turns => k_is)
    (case A_renamed => k_is)
    (case L_renamed => k_is)
    (case D_renamed => k_is)
    (case P_renamed => k_is)
    (case A_turn_by_age => k_is)
    (case L_turn_by_age => k_is)
    (case D_turn_by_age => k_is)
    (case P_turn_by_age => k_is)
    (case A_turn_by_number => k_is)
    (case L_turn_by_number => k_is)
    (case D_turn_by_number => k_is)
    (case P_turn_by_number => k_is)
    (case A_turns_by_age => k_is)
    (case L_turns_by_age => k_is)
    (case D_turns_by_age => k_is)
    (case P_turns_by_age => k_is)
    (case A_turns_by_number => k_is)
    (case L_turns_by_number => k_is)
    (case D_turns_by_number => k_is)
    (case P_turns_by_number => k_is)
    (case A_joined => k_is)
    (case L_joined => k_is)
    (case D_joined => k_is)
    (case P_joined => k_is)
    (case A_aged => k_is)
    (case L_aged => k_is)
    (case D_aged => k_is)
    (case P_aged => k_is)
    (case A_are_turns => k_is)
    (case L_are_turns => k_is)
    (case D_are_turns => k_is)
    (case P_are_turns => k_is)
    (case A_numbered => k_is)
    (case L_numbered => k_is)
    (case D_numbered => k_is)
    (case P_numbered => k_is)
    (case A__law_bag => k_is)
    (case L__law_bag => k_is)
    (case D__law_bag => k_is)
    (case P__law_bag => k_is)
    (case A__law_draw => k_is)
    (case L__law_draw => k_is)
    (case D__law_draw => k_is)
    (case P__law_draw => k_is)
    (case A__law_one => k_is)
    (case L__law_one => k_is)
    (case D__law_one => k_is)
    (case P__law_one => k_is)
    (case A__law_words => k_is)
    (case L__law_words => k_is)
    (case D__law_words => k_is)
    (case P__law_words => k_is)
    (case A__law_same => k_is)
    (case L__law_same => k_is)
    (case D__law_same => k_is)
    (case P__law_same => k_is)
    (case A__law_history => k_is)
    (case L__law_history => k_is)
    (case D__law_history => k_is)
    (case P__law_history => k_is)
    (case A__law_turns => k_is)
    (case L__law_turns => k_is)
    (case D__law_turns => k_is)
    (case P__law_turns => k_is)
    (case A__law_back => k_is)
    (case L__law_back => k_is)
    (case D__law_back => k_is)
    (case P__law_back => k_is)
    (case A__law_told => k_is)
    (case L__law_told => k_is)
    (case D__law_told => k_is)
    (case P__law_told => k_is)
    (case A__law_changed => k_is)
    (case L__law_changed => k_is)
    (case D__law_changed => k_is)
    (case P__law_changed => k_is)
    (case A_law => k_is)
    (case L_law => k_is)
    (case D_law => k_is)
    (case P_law => k_is)
