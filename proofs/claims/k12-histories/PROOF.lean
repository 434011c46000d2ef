import PyProof.Rows.All
import Wide.All
import OpenK.AllK
import Wide.FinOn
import PyProof.EqAt
import PyProof.EqKinds
import PyProof.TupleCall
import KE.KExcSuper
import KE.KExcIs
import HandS.Base
import HandS.Call
import HandS.List
import HandS.Ends
import HandS.Exc
import HandS.ExcInit
import HandS.ExcSuper
import HandS.MakeKwOnly
import HandS.IsInst
import HandS.ForMost
import HandS.TryOnly
import HandS.WordsExc
import HandS.ExcOwn
import HandS.ExcField
import HandS.TupAny
import HandS.Zip
import KE.GoesMore
import KE.GoesZip
import KE.GoesEnum
import HandS.Strs
import HandS.More
import HandS.Head0
import HandS.Head1
import HandS.Head2
import HandS.HeadHook1
import HandS.Evl
import HandS.Walk
import HandS.DictTup
import HandS.DictComp
import KE.KSortTupG
import KE.KDictCopyH
import KE.KSortTupUse
import HandS.ExcIs
import HandS.ExcCtx
import HandS.HotCalls
import HandS.TryMany
import HandS.OwnEq
import HandS.Text
import HandS.HeadEnd
import PySem.Challenge.RW_openruns_k12_well_formed_histories
set_option Elab.async false
set_option linter.all false
set_option maxRecDepth 100000
set_option maxHeartbeats 4000000
namespace PySem
namespace XL
open PySem.W PySem.Calls PyProof.Rows
/-! ### C(args, kw = ..), C an own exception class -/
section
variable {M : Model} {prog : Program} {w : World} {A : Around} {E : Value → Shared → Prop} {R : Result → Shared → Prop} {h : Heap} {g : Array GenState} {d : Drawn} {t : Nat} {os : OsState}
variable {nm q : Str} {C N : Addr} {bs bm bmB : List Value} {hdct : Bool} {sn : List Str} {sub : List Value} {ab : Bool} {col : Option Bool} {dd : Option Addr} {k0 k1 k2 k3 k5 : Option Value} {B newId initId : String}
theorem check_newK (F : ExcBaseFacts B newId initId bmB) (hT : ∀ X : String, bm.contains (.type X) = bmB.contains (.type X)) {rest : List Value} {kw : List (Str × Value)} {Q : Unit → Shared → Prop}
    (hC : h.get? C = some (excClassObj nm q C N bs bm hdct sn sub ab col dd k0 k1 k2 k3 k5 newId)) (hq : Q () ⟨h, g, d, t, os⟩) : wpAny M A (checkBuiltinCall newId ⟨.ref C :: rest, kw⟩) Q E ⟨h, g, d, t, os⟩ := by
  have hcont : (Value.ref C :: bm).contains (.type B) = true := by rw [List.contains_cons, hT, F.hasB, Bool.or_true]
  have hstar := F.noStar
  simp only [checkBuiltinCall, F.newKind, F.newSplit, F.newRow]
  repeat (first | refine wpAny_loadPart_at hC ?_ | (refine wpAny_isSubtype_exc hC ?_; rw [hcont]) | refine wpAny_staticBase_exc hC ?_ | refine wpAny_madeBy_exc hC ?_ | simp only [bne_self_eq_false, Bool.false_eq_true, if_false] | wp_step)
  exact hq
theorem newK (F : ExcBaseFacts B newId initId bmB) (hT : ∀ X : String, bm.contains (.type X) = bmB.contains (.type X)) {rest : List Value} {kw : List (Str × Value)}
    (hC : h.get? C = some (excClassObj nm q C N bs bm hdct sn sub ab col dd k0 k1 k2 k3 k5 newId))
    (hq : R (.ok (.ret (.ref (h.objs.size + 1)))) ⟨(h.push { cls := .type "tuple", data := .seq rest.toArray }).push
      { cls := .ref C, data := .fields #[.ref h.objs.size, .none, .none, .none, .bool false, .none] }, g, d, t, os⟩) (hrest : rest.length ≤ sizeLine) :
    codeAny (model prog w) A (.builtin newId ⟨.ref C :: rest, kw⟩) R ⟨h, g, d, t, os⟩ := by
  have hends := F.ends
  have hcB : (Value.ref C :: bm).contains (.type B) = true := by rw [List.contains_cons, hT, F.hasB, Bool.or_true]
  have hcA : (Value.ref C :: bm).contains (.type "AttributeError") = false := by rw [List.contains_cons, hT, F.noAttr]; rfl
  have hcN : (Value.ref C :: bm).contains (.type "NameError") = false := by rw [List.contains_cons, hT, F.noName]; rfl
  refine codeAny_builtinAt F.entry ?_
  unfold Builtin.«BaseException.__new__»
  refine wpAt_bind ?_
  show wpAt _ _ _ (stack >>= _) _ _ _
  refine wpAt_bind (wpAt_stack fun p below => wpAt_of_wpAny ?_)
  wp_walk
  refine wpAt_of_wpAny ?_
  rw [F.owner]
  repeat (first | with_reducible refine wpAny_madeHere_exc F.canon hC ?_ | with_reducible refine wpAny_loadPart_at hC ?_ | (with_reducible refine wpAny_isSubtype_exc hC ?_; first | rw [hcB] | rw [hcA] | rw [hcN]) | wp_step)
  show R _ _
  rw [Heap.size_push]
  exact hq
theorem type_callK (F : ExcBaseFacts B newId initId bmB) (hT : ∀ X : String, bm.contains (.type X) = bmB.contains (.type X)) {rest : List Value} {kw : List (Str × Value)} {fI : Addr} {Q : Fin → Shared → Prop}
    (hC : h.get? C = some (excClassObj nm q C N bs bm hdct sn sub ab col dd k0 k1 k2 k3 k5 newId))
    (hi : W.Looks (model prog w) h (typeLookup (.ref C) "__init__") (some (.ref fI))) (hb : ∀ self, W.Looks (model prog w) h (bindSpecial (.ref fI) self) (.ref fI, [self])) (hrest : rest.length ≤ sizeLine)
    (hq : codeAny (model prog w) A (.call (.ref fI) ⟨.ref (h.objs.size + 1) :: rest, kw⟩)
      (fun r s' => match r with | .ok (.ret v) => v = .none ∧ Q (.done (.ret (.ref (h.objs.size + 1)))) s' | .ok _ => False | .error e => E e s')
      ⟨(h.push (W.kdv_tup rest)).push (HandSPX.excO C h.objs.size), g, d, t, os⟩) :
    wpAny (model prog w) A (Builtin.«type.__call__» ⟨.ref C :: rest, kw⟩) Q E ⟨h, g, d, t, os⟩ := by
  repeat (first | with_reducible refine wpAny_loadPart_at hC ?_ | with_reducible refine wpAny_madeBy_exc hC ?_ | wp_step)
  refine codeAny_call_builtin_code (Code.quiet_builtin _ F.quiet) (check_newK F hT hC ?_)
  refine newK F hT hC ?_ hrest
  show wpAny _ _ _ _ _ _
  have k : ∀ b o, h.get? b = some o → ((h.push (W.kdv_tup rest)).push (HandSPX.excO C h.objs.size)).get? b = some o := fun b o e => Heap.get?_push_of_some _ (Heap.get?_push_of_some _ e)
  have hC₁ := k _ _ hC
  have hget : ((h.push (W.kdv_tup rest)).push (HandSPX.excO C h.objs.size)).get? (h.objs.size + 1) = some (HandSPX.excO C h.objs.size) := by heap_get
  have hcC : (Value.ref C :: bm).contains (.ref C) = true := by simp
  have i1 := hi.keeps k
  have b1 := (hb (.ref (h.objs.size + 1))).keeps k
  unfold isInstance
  repeat (first | with_reducible refine wpAny_loadPart_at hget ?_ | (with_reducible refine wpAny_isSubtype_exc hC₁ ?_; rw [hcC]) | wp_step)
  show wpAny _ _ (typeLookup (.ref C) _) _ _ _
  refine i1.at ?_
  refine wpAny_holding (wpAny_bind (b1.at ?_))
  refine wpAny_bind (wpAny_call (codeAny_mono hq fun r s' z => ?_))
  rcases r with e | (v | _ | _ | _) <;> first | exact z | exact z.elim | skip
  obtain ⟨rfl, z⟩ := z
  first
    | exact wpAny_pure (wpAny_pure z)
    | (wp_walk; exact z)
theorem check_typeK {M : Model} {rest : List Value} {kw : List (Str × Value)} {Q : Unit → Shared → Prop} (hC : h.get? C = some (excClassObj nm q C N bs bm hdct sn sub ab col dd k0 k1 k2 k3 k5 newId))
    (hq : Q () ⟨h, g, d, t, os⟩) : wpAny M A (checkBuiltinCall "type.__call__" ⟨.ref C :: rest, kw⟩) Q E ⟨h, g, d, t, os⟩ := by
  have f3 := tc_sub
  have hT : (⟨h, g, d, t, os⟩ : Shared).TypeIs (.ref C) "type" := ⟨_, hC, rfl⟩
  simp only [checkBuiltinCall, tc_kind, tc_split]
  repeat (any_goals (first | assumption | with_reducible refine wpAny_loadPart_at hC ?_ | with_reducible refine wpAny_onRaise ?_ | with_reducible refine wpAny_map ?_ | wp_step))
theorem call_ownK (F : ExcBaseFacts B newId initId bmB) (hT : ∀ X : String, bm.contains (.type X) = bmB.contains (.type X)) {rest : List Value} {kw : List (Str × Value)} {fI : Addr}
    (hC : h.get? C = some (excClassObj nm q C N bs bm hdct sn sub ab col dd k0 k1 k2 k3 k5 newId))
    (hi : W.Looks (model prog w) h (typeLookup (.ref C) "__init__") (some (.ref fI))) (hb : ∀ self, W.Looks (model prog w) h (bindSpecial (.ref fI) self) (.ref fI, [self])) (hrest : rest.length ≤ sizeLine)
    (hq : codeAny (model prog w) (A.under (.builtin "type.__call__" ⟨.ref C :: rest, kw⟩)) (.call (.ref fI) ⟨.ref (h.objs.size + 1) :: rest, kw⟩) (W.InitBack (h.objs.size + 1) R)
      ⟨(h.push (W.kdv_tup rest)).push (HandSPX.excO C h.objs.size), g, d, t, os⟩) :
    codeAny (model prog w) A (.call (.ref C) ⟨rest, kw⟩) R ⟨h, g, d, t, os⟩ := by
  have f1 := tc_lookup
  have f2 := tc_bind (.ref C)
  have hTy : (⟨h, g, d, t, os⟩ : Shared).TypeIs (.ref C) "type" := ⟨_, hC, rfl⟩
  refine codeAny_of_tree ?_
  show wpAny _ _ (callAny (.ref C) _) _ _ _
  repeat (any_goals (first | assumption | with_reducible refine wpAny_loadPart_at hC ?_ | wp_step))
  refine ⟨rfl, ?_⟩
  refine codeAny_call_builtin_at (Code.quiet_builtin _ (by decide +kernel)) entry_typeCall (check_typeK hC (type_callK F hT hC hi hb hrest ?_))
  refine codeAny_mono hq fun r s' z => ?_
  rcases r with e | (v | _ | _ | _) <;> exact z
end
end XL
end PySem
namespace PySem
namespace XL
open PySem.W PySem.Calls PyProof.Rows Builtin Builtin.ObjectAttr
abbrev lkT : List Value := [.type "LookupError", .type "Exception", .type "BaseException", .type "object"]
theorem lk_ne {l : List Value} (e : excTail lkT l = true) : l.isEmpty = false := by
  rcases excTail_cases l e with ⟨c, r, rfl, _⟩ | rfl <;> rfl
/-! ### self.name = v on an exception over LookupError -/
section
variable {prog : Program} {w : World} {A : Around} {E : Value → Shared → Prop} {R : Result → Shared → Prop} {hp : Heap} {g : Array GenState} {d : Drawn} {t : Nat} {os : OsState}
theorem osa_walk {K : W.Frag} {name : Str} {tk : Tok} {v : Value} {x C : Addr} {ox : Obj} {od : Option Obj} {cd : ClassData}
    (X : K.In hp) (I : W.InstAt hp x ox C od) (hcd : W.clsIn K C = some cd) (hm : excTail lkT cd.mro = true) (ha : W.findIn K (.ref C) name = some none)
    (hq : wpAny (model prog w) A.in1 (Builtin.ObjectAttr.storeInOwnDict (.ref x) (.ref C) (.str name tk) name v false)
      (fun fin s' => match fin with | .done f => R (.ok f) s' | .again c' => c'.quiet = true ∧ codeAny (model prog w) A c' R s') (fun e s' => R (.error e) s') ⟨hp, g, d, t, os⟩) :
    codeAny (model prog w) A (.call (.builtin "object.__setattr__") ⟨[.ref x, .str name tk, v], []⟩) R ⟨hp, g, d, t, os⟩ := by
  have SF := F.store_LookupError
  have ne := lk_ne hm
  have hob : cd.mro.contains (.type "object") = true := (excTail_contains "object" _ hm).trans (by decide +kernel)
  have sub : W.Looks (model prog w) hp (isInstance (.ref x) (.type "object")) true := I.type.andThen (W.looks_mroIn X (by unfold W.mroIn; rw [hcd, Option.bind_some, if_neg (by rw [ne]; decide), hob]))
  refine codeAny_call_builtin SF.slot.plain SF.entry (@W.check_slot (model prog w) _ _ ⟨hp, g, d, t, os⟩ "object.__setattr__" "object" "__setattr__" (.ref x) [.str name tk, v] [] _ SF.kind SF.split sub (SF.args (.ref x) (.str name tk) v) ?_)
  have hmr : W.Looks (model prog w) hp (mroOf (.ref C)) cd.mro := (W.looks_clsIn X hcd).andThen .now
  have L3 : W.Looks (model prog w) hp (storeTaker? none) none := .now
  rw [W.osa_eq, refuse_eq]
  refine wpAny_bind (wpAny_bind (I.type.at (wpAny_bind (hmr.at ?_))))
  rw [excTail_pass _ (SF.passes _) _ hm]
  refine wpAny_pure (wpAny_bind (I.type.at (wpAny_bind ((W.looks_findIn X ha).at (wpAny_bind (L3.at ?_))))))
  exact hq
theorem osa_new {K : W.Frag} {name : Str} {tk : Tok} {v : Value} {x C : Addr} {fv : Array Value} {cd : ClassData}
    (X : K.In hp) (hx : hp.get? x = some { cls := .ref C, data := .fields fv }) (hcd : W.clsIn K C = some cd) (hm : excTail lkT cd.mro = true) (hh : cd.hasDict = true) (ha : W.findIn K (.ref C) name = some none)
    (hq : ∀ h' tk' dx, (∀ b o, b ≠ x → hp.get? b = some o → h'.get? b = some o) → hp.objs.size ≤ dx → dx ≠ x → h'.get? x = some { cls := .ref C, dict := some dx, data := .fields fv } →
      h'.Ns1 dx (fun y => if y = name then some v else none) → R (.ok (.ret .none)) ⟨h', g, d, tk', os⟩) :
    codeAny (model prog w) A (.call (.builtin "object.__setattr__") ⟨[.ref x, .str name tk, v], []⟩) R ⟨hp, g, d, t, os⟩ := by
  have I : W.InstAt hp x { cls := .ref C, data := .fields fv } C none := ⟨hx, rfl, rfl, trivial⟩
  have hxs : x ≠ hp.objs.size := Nat.ne_of_lt (Heap.lt_size hx)
  refine osa_walk X I hcd hm ha ?_
  have hcls : W.Looks (model prog w) hp (classData C) cd := W.looks_clsIn X hcd
  obtain ⟨nm, bs, mro, ns, qn, hd, sn, sb, ab, col, del⟩ := cd
  dsimp only at hh
  subst hh
  unfold Builtin.ObjectAttr.storeInOwnDict Builtin.ObjectAttr.ownDictForStores
  repeat (first | with_reducible refine HandSPX.store_in_new ?_ ?_ | with_reducible refine wpAny_loadPart_at hx ?_ | with_reducible refine hcls.at ?_ | wp_step)
  · exact ⟨_, #[], _, (Heap.get?_update_ne _ _ _ _ hxs.symm).trans (Heap.get?_push_at rfl rfl), rfl, fun e he => absurd he (by simp), fun _ => rfl⟩
  · intro h' tk' hn' hs
    have hx₁ : (hp.push { cls := .type "dict", data := .dict #[] }).get? x = some { cls := .ref C, data := .fields fv } := Heap.get?_push_of_some _ hx
    refine hq h' tk' hp.objs.size (fun b o hb ho => ?_) (Nat.le_refl _) hxs.symm ?_ hn'
    · exact (hs.2 b (Nat.ne_of_lt (Heap.lt_size ho))).trans ((Heap.get?_update_ne _ _ _ _ hb).trans (Heap.get?_push_of_some _ ho))
    · exact (hs.2 x hxs).trans (Heap.get?_update_self _ hx₁ rfl)
theorem osa_old {K : W.Frag} {name : Str} {tk : Tok} {v : Value} {x C dx : Addr} {fv : Array Value} {cd : ClassData} {m0 : Str → Option Value} {nl : List Str}
    (X : K.In hp) (hx : hp.get? x = some { cls := .ref C, dict := some dx, data := .fields fv }) (hns : hp.Ns1 dx m0) (hw : Within m0 nl) (hz : nl.length ≤ 1000) (hcd : W.clsIn K C = some cd) (hm : excTail lkT cd.mro = true) (hh : cd.hasDict = true)
    (ha : W.findIn K (.ref C) name = some none)
    (hq : ∀ h' tk', (∀ b o, b ≠ dx → hp.get? b = some o → h'.get? b = some o) → h'.Ns1 dx (fun y => if y = name then some v else m0 y) → R (.ok (.ret .none)) ⟨h', g, d, tk', os⟩) :
    codeAny (model prog w) A (.call (.builtin "object.__setattr__") ⟨[.ref x, .str name tk, v], []⟩) R ⟨hp, g, d, t, os⟩ := by
  obtain ⟨oD, esD, epD, hoD, hdD, _⟩ := hns.count hw
  have I : W.InstAt hp x { cls := .ref C, dict := some dx, data := .fields fv } C (some oD) := ⟨hx, rfl, rfl, hoD⟩
  refine osa_walk X I hcd hm ha ?_
  have hcls : W.Looks (model prog w) hp (classData C) cd := W.looks_clsIn X hcd
  obtain ⟨nm, bs, mro, ns, qn, hd, sn, sb, ab, col, del⟩ := cd
  dsimp only at hh
  subst hh
  unfold Builtin.ObjectAttr.storeInOwnDict Builtin.ObjectAttr.ownDictForStores
  repeat (first | with_reducible refine OEX.store_in_old hns hw hz ?_ | with_reducible refine wpAny_loadPart_at hx ?_ | with_reducible refine hcls.at ?_ | wp_step)
  intro h' tk' hn' hs
  exact hq h' tk' (fun b o hb ho => (hs.2 b hb).trans ho) hn'
end
/-! ### the text of an own __init__ -/
section
variable {prog : Program} {w : World} {A : Around} {E : Value → Shared → Prop} {R : Result → Shared → Prop} {s : Shared} {K : Frag}
/-- the __init__ of an own class at C (its cell __class__ at cc, its code at cda), over LookupError: what the written part says -/
structure XCls (prog : Program) (K : Frag) (C : Addr) : Prop where
  cls : ∃ nm q N bs bm sn sub ab col dd k0 k1 k2 k3 k5, K.lookup C = some (excClassObj nm q C N bs bm true sn sub ab col dd k0 k1 k2 k3 k5 "LookupError.__new__") ∧ excTail lkT bm = true
  sa : findIn K (.ref C) "__setattr__" = some (some (.builtin "object.__setattr__"))
  sup : ks_superIn K C C "__init__" = some (some (.builtin "LookupError.__init__"))
  opq : nsIn K cStatics "thirdparty.any" = some none
  sg : nsIn K mainGlobals "super" = some none
  top : (prog.main.scope.names.lookup ("super" : Str)).isSome = false
/-- .. of the function object at fI -/
structure XFn (prog : Program) (K : Frag) (C fI : Addr) (qual : Str) (params : Arguments) (body : List Stmt) (scope : Scope) : Prop where
  fn : ∃ (oc : Value) (od : Option Addr) (kV doc pm : Value) (an : Option Addr) (cda : Addr) (ct : Value) (cc : Addr) (osl : Array (Option Value)) (cl ccl : Value) (cld cdd : Option Addr) (csl ccs : Array (Option Value)) (vs : Array Value) (file : Str) (tf : Tok),
    K.lookup fI = some ⟨oc, od, .func (ksFn "__init__" qual params body scope .none kV doc pm an (.ref cda) ct cc), osl⟩ ∧ codeIn K (.ref cda) qual = true ∧
    K.lookup cc = some ⟨cl, cld, .cell (some (.ref C)), csl⟩ ∧ K.lookup cda = some ⟨ccl, cdd, .fields vs, ccs⟩ ∧ vs[2]? = some (.str file tf) ∧ ((prog.main.file : Str) == file) = true
  iC : findIn K (.ref C) "__init__" = some (some (.ref fI))
  tI : typeIn K (.ref fI) = some (.type "function")
/-- a module's parts -/
structure XTop (h : Heap) : Prop where
  g : ∃ mg, h.Ns mainGlobals mg
  b : ∃ mb, h.Ns builtinsNs mb ∧ ∀ x : Str, x ≠ "__name__" → mb x = bootBuiltins x
  nolimit : h.NoLimit
theorem XTop.keeps {h h' : Heap} (T : XTop h) (k : ∀ b o, h.get? b = some o → h'.get? b = some o) : XTop h' :=
  ⟨let ⟨mg, q⟩ := T.g; ⟨mg, q.keeps k⟩, let ⟨mb, q, r⟩ := T.b; ⟨mb, q.keeps k, r⟩, T.nolimit.keeps k⟩
end
end XL
end PySem
namespace PySem
namespace XL
open PySem.W PySem.Calls PyProof.Rows
/-! ### super().__init__('..') in an own __init__ -/
/-- where the statement stands -/
structure SupPos where
  (p0 p1 p2 p3 p4 p5 : Pos) (j : String)
section
variable {prog : Program} {w : World} {A : Around} {E : Value → Shared → Prop} {R : Result → Shared → Prop} {s : Shared} {K : Frag}
theorem call_mw {x C u t0 : Addr} {rest : List Value} {Q : Value → Shared → Prop} (T : XCls prog K C) (X : K.In s.heap) (hx : s.heap.get? x = some (HandSPX.excO C t0)) (hu : KxsAt "LookupError.__init__" u x s.heap) (hz : rest.length ≤ sizeLine)
    (hq : ∀ h' t1, (∀ b o, b ≠ x → s.heap.get? b = some o → h'.get? b = some o) → h'.get? x = some (HandSPX.excO C t1) → Q .none { s with heap := h' }) :
    wpAny (model prog w) A (call (.ref u) rest) Q E s := by
  obtain ⟨nm, q, N, bs, bm, sn, sub, ab, col, dd, k0, k1, k2, k3, k5, hC, hbm⟩ := T.cls
  have FB := F.excBase_LookupError
  obtain ⟨hh, g, d, tk, os⟩ := s
  unfold KxsAt at hu
  refine wpAny_call (codeAny_of_tree ?_)
  show wpAny _ A.in1 (callAny (.ref u) ⟨rest, []⟩) _ _ _
  simp only [callAny]
  refine wpAny_bind (wpAny_load hu ?_)
  simp only [kxs_mw, show (Value.type "method-wrapper" == Value.type "method" || Value.type "method-wrapper" == Value.type "builtin_function_or_method" || Value.type "method-wrapper" == Value.type "method-wrapper") = true by decide, if_true]
  refine KFB.if_so (by decide) ?_
  refine wpAny_bind (check_bound_init FB.toExcCallFacts (X _ _ hC) hx rfl ?_)
  refine wpAny_bind (wpAny_pure (wpAny_pure ?_))
  refine ⟨plainId_quiet FB.init.plain _, codeAny_builtin FB.initEntry ?_⟩
  exact exc_init_tree (cls := .ref C) (t0 := t0) (dv := none) (c2 := .none) (c3 := .none) (b4 := .bool false) hx hz fun h' k e _ => hq h' _ k e
theorem sup_stmt {x C fI L : Addr} {t0 : Addr} {qual : Str} {body : List Stmt} {scope : Scope} {cda cc : Addr} {oc cl ccl : Value} {od cld cdd : Option Addr} {osl csl ccs : Array (Option Value)} {fd : FuncData} {vs : Array Value} {file : Str} {tf : Tok} {ar : Arg}
    {m : Str → Option Value} {p0 p1 p2 p3 p4 p5 : Pos} {tx : Str} {j} {Q : Flow → Shared → Prop}
    (T : XCls prog K C) (X : K.In s.heap) (P : XTop s.heap) (hn : s.heap.Ns L m) (hv : m ar.arg = some (.ref x)) (hx : s.heap.get? x = some (HandSPX.excO C t0)) (hL : L ≠ x)
    (hf : K.lookup fI = some ⟨oc, od, .func fd, osl⟩) (hp : (fd.params.posonlyargs ++ fd.params.args).head? = some ar) (hcode : K.lookup cda = some ⟨ccl, cdd, .fields vs, ccs⟩) (hvs : vs[2]? = some (.str file tf)) (hfile : ((prog.main.file : Str) == file) = true)
    (hcell : K.lookup cc = some ⟨cl, cld, .cell (some (.ref C)), csl⟩)
    (hks : scope.names.lookup ("super" : Str) = some .globalImplicit) (hkc : scope.names.lookup ("__class__" : Str) = some .free) (hka : scope.names.lookup ar.arg = some .local) (hk : scope.kind = .function)
    (hq : ∀ h' tk t1, (∀ b o, b ≠ x → s.heap.get? b = some o → h'.get? b = some o) → h'.get? x = some (HandSPX.excO C t1) → Q .next { s with heap := h', toks := tk })
    {pl : Sem Bool}
    (he : eval (.Call (.Attribute (.Call (.Name "super" p0) [] [] p1) "__init__" p2) [.Constant (.str tx) j p3] [] p4) (ksEnv qual scope L fI (.ref cda) cc) = (do
      let ov ← attributeBase (.Call (.Name "super" p0) [] [] p1) "__init__" (ksEnv qual scope L fI (.ref cda) cc) (eval (.Call (.Name "super" p0) [] [] p1) (ksEnv qual scope L fI (.ref cda) cc))
      standAt p2.atName
      let (f, first) ← holding [ov] (getMethod ov "__init__" pl)
      callWith p4 f first (backTo p4 (starEach [.Constant (.str tx) j p3] (ksEnv qual scope L fI (.ref cda) cc))) []) := by rfl)
    (hi : interactive (ksEnv qual scope L fI (.ref cda) cc) = false := by rfl)
    (hw : swapsWith (.Call (.Attribute (.Call (.Name "super" p0) [] [] p1) "__init__" p2) [.Constant (.str tx) j p3] [] p4) none p5.line (ksEnv qual scope L fI (.ref cda) cc) = pure false := by rfl) :
    _root_.PySem.wpAt (model prog w) A (.func body (ksEnv qual scope L fI (.ref cda) cc)) (exec (.Expr (.Call (.Attribute (.Call (.Name "super" p0) [] [] p1) "__init__" p2) [.Constant (.str tx) j p3] [] p4) p5) (ksEnv qual scope L fI (.ref cda) cc)) Q E s := by
  obtain ⟨nm, q, N, bs, bm, sn, sub, ab, col, dd, k0, k1, k2, k3, k5, hC, hbm⟩ := T.cls
  have hcl : clsIn K C = some { name := nm, bases := bs, mro := .ref C :: bm, ns := N, qualname := q, hasDict := true, slotNames := sn, subclasses := sub, abstract := ab, collection := col, hasDel := false } := by unfold clsIn; rw [hC] <;> rfl
  have hmC : mroIn K C (.ref C) = some true := by unfold mroIn; rw [hcl, Option.bind_some, if_neg (by show ¬ (List.isEmpty (Value.ref C :: bm) = true); simp)]; simp
  have hD1 := X _ _ hC
  obtain ⟨hh, g, d, t, os⟩ := s
  refine ks_wpAt_Expr_any (ks_wpAt_MethodCall ?_ he) hi hw
  refine ks_wpAt_super_base (env := ksEnv qual scope L fI (.ref cda) cc) hks hkc (by decide) rfl (X _ _ hf) rfl hp rfl (X _ _ hcode) rfl hvs hfile T.top ?_
  obtain ⟨mg, hg⟩ := P.g
  obtain ⟨mb, hb, hbt⟩ := P.b
  refine ks_loadName_global hk hks (loadGlobal_builtin (env := ksEnv qual scope L fI (.ref cda) cc) hg (mg_none_of X hg T.sg) hb ((hbt _ (by decide +kernel)).trans (show bootBuiltins "super" = some (.type "super") from by decide +kernel)) ⟨rfl, ?_⟩)
  refine wpAny_loadName_free hk hkc rfl ⟨_, X _ _ hcell, rfl⟩ ?_
  refine wpAny_loadName_local hk hka hn hv ?_
  refine ks_wpAny_isType_cls hD1 rfl ⟨rfl, ?_⟩
  refine ks_wpAny_call_super hD1 rfl hx rfl (fun c e => nomatch e) (looks_mroIn X hmC) (fun h1 e1 kk1 => ?_)
  have k1' : ∀ b o, hh.get? b = some o → h1.get? b = some o := kk1
  have X1 : K.In h1 := X.keeps k1'
  have hI : Looks (model prog w) h1 (isInstance (.ref x) (.type "LookupError")) true := by
    have I : InstAt h1 x (HandSPX.excO C t0) C none := ⟨k1' _ _ hx, rfl, rfl, trivial⟩
    refine I.type.andThen (looks_mroIn X1 ?_)
    unfold mroIn
    rw [hcl, Option.bind_some, if_neg (by show ¬ (List.isEmpty (Value.ref C :: bm) = true); simp)]
    show some ((Value.ref C :: bm).contains (.type "LookupError")) = some true
    rw [List.contains_cons, excTail_contains "LookupError" _ hbm]
    rfl
  have hxC : x ≠ C := fun z => by
    rw [z] at hx
    have y := hD1.symm.trans hx
    cases y
  have hsup := T.sup
  unfold ks_superIn at hsup
  rw [hcl] at hsup
  refine kxs_getMethod kxs_LookupError e1 (looks_opaque X1 T.opq) (l₀ := .ref C :: bm) (fun A Q E s k q => wpAny_bind ((looks_clsIn X1 hcl) A _ E s k (wpAny_pure q))) rfl X1 hsup hI hxC (by decide) ?_
  have k2' : ∀ b o, hh.get? b = some o → (h1.push (kxs_mw "LookupError.__init__" x)).get? b = some o := fun b o z => Heap.get?_push_of_some _ (k1' b o z)
  show wpAny _ _ (callWith p4 (.ref h1.objs.size) [] (backTo p4 (starEach [.Constant (.str tx) j p3] (ksEnv qual scope L fI (.ref cda) cc))) []) _ _ _
  refine kxs_callWith (i := "LookupError.__init__") (x := x) (by rfl) (evalArgs_plain ?_)
  refine spliced_cons ?_
  show wpAny _ _ (eval (.Constant (.str tx) j p3) (ksEnv qual scope L fI (.ref cda) cc)) _ _ _
  refine Calls.Constant_str (spliced_nil ?_)
  refine ⟨Heap.get?_push_at rfl rfl, ?_⟩
  refine call_mw (s := ⟨h1.push (kxs_mw "LookupError.__init__" x), g, d, _, os⟩) T (X.keeps k2') (k2' _ _ hx) (Heap.get?_push_at rfl rfl) (by show 1 ≤ sizeLine; rw [sizeLine_eq]; decide) fun h' t1 k3 e3 => ?_
  exact hq h' _ t1 (fun b o hb z => k3 b o hb (k2' b o z)) e3
end
end XL
end PySem
namespace PySem
namespace XL
open PySem.W PySem.Calls PyProof.Rows
/-- where an __init__ of one, of two fields stands -/
structure Ps1 where
  (p0 p1 p2 p3 p4 p5 q1 q2 q3 q4 : Pos) (j : Nat)
structure Ps2 extends Ps1 where
  (r1 r2 r3 r4 : Pos)
abbrev supS (P : Ps1) (tx : Str) : Stmt := .Expr (.Call (.Attribute (.Call (.Name "super" P.p0) [] [] P.p1) "__init__" P.p2) [.Constant (.str tx) P.j P.p3] [] P.p4) P.p5
abbrev body1 (P : Ps1) (tx f : Str) : List Stmt := [supS P tx, .Assign [.Attribute (.Name "self" P.q1) f P.q2] (.Name f P.q3) P.q4]
abbrev body2 (P : Ps2) (tx f f2 : Str) : List Stmt := [supS P.toPs1 tx, .Assign [.Attribute (.Name "self" P.q1) f P.q2] (.Name f P.q3) P.q4, .Assign [.Attribute (.Name "self" P.r1) f2 P.r2] (.Name f2 P.r3) P.r4]
abbrev args1 (a1 a2 : Pos) (f : Str) : Arguments := { posonlyargs := [], args := [{ arg := "self", annotation := none, pos := a1 }, { arg := f, annotation := none, pos := a2 }], vararg := none, kwonlyargs := [], kw_defaults := [], kwarg := none, defaults := [] }
abbrev args2 (a1 a2 a3 : Pos) (f f2 : Str) : Arguments := { posonlyargs := [], args := [{ arg := "self", annotation := none, pos := a1 }, { arg := f, annotation := none, pos := a2 }, { arg := f2, annotation := none, pos := a3 }], vararg := none, kwonlyargs := [], kw_defaults := [], kwarg := none, defaults := [] }
abbrev scope1 (f : Str) : Scope := { kind := .function, names := [(Str.ofString "self", .local), (f, .local), (Str.ofString "__class__", .free), (Str.ofString "super", .globalImplicit)], isGenerator := false, isCoroutine := false, more := [] }
abbrev scope2 (f f2 : Str) : Scope := { kind := .function, names := [(Str.ofString "self", .local), (f, .local), (f2, .local), (Str.ofString "__class__", .free), (Str.ofString "super", .globalImplicit)], isGenerator := false, isCoroutine := false, more := [] }
/-- how the statement super().__init__('..') is run: rfl for a written scope -/
def EvOk (qual : Str) (scope : Scope) (fI : Addr) (P : Ps1) (tx : Str) : Prop := ∀ L cda cc : Addr, ∃ pl : Sem Bool,
  eval (.Call (.Attribute (.Call (.Name "super" P.p0) [] [] P.p1) "__init__" P.p2) [.Constant (.str tx) P.j P.p3] [] P.p4) (ksEnv qual scope L fI (.ref cda) cc) = (do
      let ov ← attributeBase (.Call (.Name "super" P.p0) [] [] P.p1) "__init__" (ksEnv qual scope L fI (.ref cda) cc) (eval (.Call (.Name "super" P.p0) [] [] P.p1) (ksEnv qual scope L fI (.ref cda) cc))
      standAt P.p2.atName
      let (f, first) ← holding [ov] (getMethod ov "__init__" pl)
      callWith P.p4 f first (backTo P.p4 (starEach [.Constant (.str tx) P.j P.p3] (ksEnv qual scope L fI (.ref cda) cc))) []) ∧
  interactive (ksEnv qual scope L fI (.ref cda) cc) = false ∧
  swapsWith (.Call (.Attribute (.Call (.Name "super" P.p0) [] [] P.p1) "__init__" P.p2) [.Constant (.str tx) P.j P.p3] [] P.p4) none P.p5.line (ksEnv qual scope L fI (.ref cda) cc) = pure false
/-- what __init__ leaves of a fresh exception at x -/
structure InitEnd (h h' : Heap) (x C dx : Addr) (mm : Str → Option Value) : Prop where
  keep : ∀ b o, b ≠ x → h.get? b = some o → h'.get? b = some o
  obj : ∃ t1 : Addr, h'.get? x = some { cls := .ref C, dict := some dx, data := .fields #[.ref t1, .none, .none, .none, .bool false, .none] }
  dbig : h.objs.size ≤ dx
  dne : dx ≠ x
  ns : h'.Ns1 dx mm
/-- a field's name is no name of the machine's -/
def okF (f : Str) : Bool := !(f == ("self" : Str)) && !(f == ("super" : Str)) && !(f == ("__class__" : Str)) && !(f == ("__debug__" : Str))
theorem okF_of {f : Str} (h : okF f = true) : (f == ("self" : Str)) = false ∧ (f == ("super" : Str)) = false ∧ (f == ("__class__" : Str)) = false ∧ (f == ("__debug__" : Str)) = false := by
  unfold okF at h
  simp only [Bool.and_eq_true, Bool.not_eq_true'] at h
  exact ⟨h.1.1.1, h.1.1.2, h.1.2, h.2⟩
theorem flip {a b : Str} (h : (a == b) = false) : (b == a) = false := by
  have := beq_eq_false_iff_ne.mp h
  exact beq_eq_false_iff_ne.mpr (Ne.symm this)
section
variable {prog : Program} {w : World} {A : Around} {E : Value → Shared → Prop} {R : Result → Shared → Prop} {s : Shared} {K : Frag} {C fI x t0 : Addr} {qual tx f f2 : Str} {v v2 : Value}
theorem init1 {P : Ps1} {a1 a2 : Pos} {args : Args} (T : XCls prog K C) (Fn : XFn prog K C fI qual (args1 a1 a2 f) (body1 P tx f) (scope1 f)) (hf : okF f = true) (nof : findIn K (.ref C) f = some none) (ev : EvOk qual (scope1 f) fI P tx)
    (X : K.In s.heap) (Tp : XTop s.heap) (hx : s.heap.get? x = some (HandSPX.excO C t0)) (hnx : K.lookup x = none) (hroom : A.depth < recursionLimit)
    (hb : ∀ (kV doc pm : Value) (an : Option Addr) (cdv ct : Value) (cc : Addr), BindsTo s (ksFn "__init__" qual (args1 a1 a2 f) (body1 P tx f) (scope1 f) .none kV doc pm an cdv ct cc) args [("self", .ref x), (f, v)])
    (hq : ∀ h' tk dx, InitEnd s.heap h' x C dx (fun y => if y = f then some v else none) → R (.ok (.ret .none)) { s with heap := h', toks := tk }) :
    codeAny (model prog w) A (.call (.ref fI) args) R s := by
  obtain ⟨oc, od, kV, doc, pm, an, cda, ct, cc, osl, cl, ccl, cld, cdd, csl, ccs, vs, file, tf, ho, hcd, hcell, hcode, hvs, hfile⟩ := Fn.fn
  obtain ⟨n1, n2, n3, n4⟩ := okF_of hf
  have l1 : (scope1 f).names.lookup f = some .local := by simp [List.lookup, n1]
  have l2 : (scope1 f).names.lookup ("super" : Str) = some .globalImplicit := by simp [List.lookup, flip n2]; rfl
  have l3 : (scope1 f).names.lookup ("__class__" : Str) = some .free := by simp [List.lookup, flip n3]; rfl
  have ls : (scope1 f).names.lookup ("self" : Str) = some .local := by simp [List.lookup]
  have hnc : ∀ y ∈ (scope1 f).names, y.2 ≠ .cell := by
    intro y hy
    simp only [scope1, List.mem_cons, List.mem_nil_iff, or_false] at hy
    rcases hy with rfl | rfl | rfl | rfl <;> simp
  have hlo : ∀ y ∈ ([("self", .ref x), (f, v)] : List (Str × Value)), (scope1 f).names.lookup y.1 = some .local := by
    intro y hy
    simp only [List.mem_cons, List.mem_nil_iff, or_false] at hy
    rcases hy with rfl | rfl
    · exact ls
    · exact l1
  obtain ⟨nm, q, N, bs, bm, sn, sub, ab, col, dd, k0, k1, k2, k3, k5, hC, hbm⟩ := T.cls
  have hcl : clsIn K C = some { name := nm, bases := bs, mro := .ref C :: bm, ns := N, qualname := q, hasDict := true, slotNames := sn, subclasses := sub, abstract := ab, collection := col, hasDel := false } := by unfold clsIn; rw [hC] <;> rfl
  refine ks_codeAny_call_defAt (fd := ksFn "__init__" qual (args1 a1 a2 f) (body1 P tx f) (scope1 f) .none kV doc pm an (.ref cda) ct cc) (body := body1 P tx f) (binds := [("self", .ref x), (f, v)]) hroom (X _ _ ho) rfl Tp.nolimit (codeRec_of X hcd) rfl (hb _ _ _ _ _ _ _) hnc hlo (fun h₁ hns hk₁ => ?_)
  have hLx : s.heap.objs.size ≠ x := Nat.ne_of_gt (Heap.lt_size hx)
  have ms : (fun y => ([("self", Value.ref x), (f, v)] : List (Str × Value)).reverse.lookup y) "self" = some (.ref x) := by simp [List.lookup, flip n1]
  have mf : (fun y => ([("self", Value.ref x), (f, v)] : List (Str × Value)).reverse.lookup y) f = some v := by simp [List.lookup]
  obtain ⟨pl, he, hi, hw⟩ := ev s.heap.objs.size cda cc
  refine ks_wpAt_execs_cons (sup_stmt (s := { s with heap := h₁, toks := s.toks + 2 }) (ar := { arg := "self", annotation := none, pos := a1 }) (t0 := t0) T (X.keeps hk₁) (Tp.keeps hk₁) hns ms (hk₁ _ _ hx) hLx ho rfl hcode hvs hfile hcell l2 l3 ls rfl (fun h₂ tk₂ t1 k₂ e₂ => ?_) he hi hw)
  refine wpAt_of_wpAny ?_
  have kk : ∀ b o, b ≠ x → s.heap.get? b = some o → h₂.get? b = some o := fun b o hb z => k₂ b o hb (hk₁ b o z)
  have X₂ : K.In h₂ := fun a o e => kk a o (fun z => by
    subst z
    rw [hnx] at e
    cases e) (X a o e)
  have hns₂ : h₂.Ns s.heap.objs.size (fun y => ([("self", Value.ref x), (f, v)] : List (Str × Value)).reverse.lookup y) := hns.at fun o z => k₂ _ o hLx z
  refine wpAny_execs_cons (plainObj_wpAny_Assign_Attribute ?_)
  refine ESX.ldL (v := v) hns₂ mf (ESX.ldL (v := .ref x) hns₂ ms ?_ rfl ls) rfl l1 n4
  refine set_plain X₂ (ox := HandSPX.excO C t1) (od := none) ⟨e₂, rfl, rfl, trivial⟩ T.sa ?_
  refine osa_new X₂ e₂ hcl (show excTail lkT (.ref C :: bm) = true from hbm) rfl nof (fun h₃ tk₃ dx k₃ dn dne hx₃ hn₃ => ?_)
  refine wpAny_execs_nil ?_
  have z1 : s.heap.objs.size < h₂.objs.size := hns₂.lt
  exact hq h₃ tk₃ dx ⟨fun b o hb e => k₃ b o hb (kk b o hb e), ⟨t1, hx₃⟩, Nat.le_of_lt (Nat.lt_of_lt_of_le z1 dn), dne, hn₃⟩
theorem init2 {P : Ps2} {a1 a2 a3 : Pos} {args : Args} (T : XCls prog K C) (Fn : XFn prog K C fI qual (args2 a1 a2 a3 f f2) (body2 P tx f f2) (scope2 f f2)) (hf : okF f = true) (hf2 : okF f2 = true) (h12 : (f == f2) = false) (nof : findIn K (.ref C) f = some none) (nof2 : findIn K (.ref C) f2 = some none) (ev : EvOk qual (scope2 f f2) fI P.toPs1 tx)
    (X : K.In s.heap) (Tp : XTop s.heap) (hx : s.heap.get? x = some (HandSPX.excO C t0)) (hnx : K.lookup x = none) (hroom : A.depth < recursionLimit)
    (hb : ∀ (kV doc pm : Value) (an : Option Addr) (cdv ct : Value) (cc : Addr), BindsTo s (ksFn "__init__" qual (args2 a1 a2 a3 f f2) (body2 P tx f f2) (scope2 f f2) .none kV doc pm an cdv ct cc) args [("self", .ref x), (f, v), (f2, v2)])
    (hq : ∀ h' tk dx, InitEnd s.heap h' x C dx (fun y => if y = f2 then some v2 else if y = f then some v else none) → R (.ok (.ret .none)) { s with heap := h', toks := tk }) :
    codeAny (model prog w) A (.call (.ref fI) args) R s := by
  obtain ⟨oc, od, kV, doc, pm, an, cda, ct, cc, osl, cl, ccl, cld, cdd, csl, ccs, vs, file, tf, ho, hcd, hcell, hcode, hvs, hfile⟩ := Fn.fn
  obtain ⟨n1, n2, n3, n4⟩ := okF_of hf
  obtain ⟨m1, m2, m3, m4⟩ := okF_of hf2
  have l1 : (scope2 f f2).names.lookup f = some .local := by simp [List.lookup, n1]
  have l1' : (scope2 f f2).names.lookup f2 = some .local := by simp [List.lookup, m1, flip h12]
  have l2 : (scope2 f f2).names.lookup ("super" : Str) = some .globalImplicit := by simp [List.lookup, flip n2, flip m2]; rfl
  have l3 : (scope2 f f2).names.lookup ("__class__" : Str) = some .free := by simp [List.lookup, flip n3, flip m3]; rfl
  have ls : (scope2 f f2).names.lookup ("self" : Str) = some .local := by simp [List.lookup]
  have hnc : ∀ y ∈ (scope2 f f2).names, y.2 ≠ .cell := by
    intro y hy
    simp only [scope1, List.mem_cons, List.mem_nil_iff, or_false] at hy
    rcases hy with rfl | rfl | rfl | rfl | rfl <;> simp
  have hlo : ∀ y ∈ ([("self", .ref x), (f, v), (f2, v2)] : List (Str × Value)), (scope2 f f2).names.lookup y.1 = some .local := by
    intro y hy
    simp only [List.mem_cons, List.mem_nil_iff, or_false] at hy
    rcases hy with rfl | rfl | rfl
    · exact ls
    · exact l1
    · exact l1'
  obtain ⟨nm, q, N, bs, bm, sn, sub, ab, col, dd, k0, k1, k2, k3, k5, hC, hbm⟩ := T.cls
  have hcl : clsIn K C = some { name := nm, bases := bs, mro := .ref C :: bm, ns := N, qualname := q, hasDict := true, slotNames := sn, subclasses := sub, abstract := ab, collection := col, hasDel := false } := by unfold clsIn; rw [hC] <;> rfl
  refine ks_codeAny_call_defAt (fd := ksFn "__init__" qual (args2 a1 a2 a3 f f2) (body2 P tx f f2) (scope2 f f2) .none kV doc pm an (.ref cda) ct cc) (body := body2 P tx f f2) (binds := [("self", .ref x), (f, v), (f2, v2)]) hroom (X _ _ ho) rfl Tp.nolimit (codeRec_of X hcd) rfl (hb _ _ _ _ _ _ _) hnc hlo (fun h₁ hns hk₁ => ?_)
  have hLx : s.heap.objs.size ≠ x := Nat.ne_of_gt (Heap.lt_size hx)
  have ms : (fun y => ([("self", Value.ref x), (f, v), (f2, v2)] : List (Str × Value)).reverse.lookup y) "self" = some (.ref x) := by simp [List.lookup, flip n1, flip m1]
  have mf : (fun y => ([("self", Value.ref x), (f, v), (f2, v2)] : List (Str × Value)).reverse.lookup y) f = some v := by simp [List.lookup, h12]
  have mf2 : (fun y => ([("self", Value.ref x), (f, v), (f2, v2)] : List (Str × Value)).reverse.lookup y) f2 = some v2 := by simp [List.lookup]
  obtain ⟨pl, he, hi, hw⟩ := ev s.heap.objs.size cda cc
  refine ks_wpAt_execs_cons (sup_stmt (s := { s with heap := h₁, toks := s.toks + 3 }) (ar := { arg := "self", annotation := none, pos := a1 }) (t0 := t0) T (X.keeps hk₁) (Tp.keeps hk₁) hns ms (hk₁ _ _ hx) hLx ho rfl hcode hvs hfile hcell l2 l3 ls rfl (fun h₂ tk₂ t1 k₂ e₂ => ?_) he hi hw)
  refine wpAt_of_wpAny ?_
  have kk : ∀ b o, b ≠ x → s.heap.get? b = some o → h₂.get? b = some o := fun b o hb z => k₂ b o hb (hk₁ b o z)
  have X₂ : K.In h₂ := fun a o e => kk a o (fun z => by
    subst z
    rw [hnx] at e
    cases e) (X a o e)
  have hns₂ : h₂.Ns s.heap.objs.size (fun y => ([("self", Value.ref x), (f, v), (f2, v2)] : List (Str × Value)).reverse.lookup y) := hns.at fun o z => k₂ _ o hLx z
  refine wpAny_execs_cons (plainObj_wpAny_Assign_Attribute ?_)
  refine ESX.ldL (v := v) hns₂ mf (ESX.ldL (v := .ref x) hns₂ ms ?_ rfl ls) rfl l1 n4
  refine set_plain X₂ (ox := HandSPX.excO C t1) (od := none) ⟨e₂, rfl, rfl, trivial⟩ T.sa ?_
  refine osa_new X₂ e₂ hcl (show excTail lkT (.ref C :: bm) = true from hbm) rfl nof (fun h₃ tk₃ dx k₃ dn dne hx₃ hn₃ => ?_)
  have z1 : s.heap.objs.size < h₂.objs.size := hns₂.lt
  have hns₃ : h₃.Ns s.heap.objs.size (fun y => ([("self", Value.ref x), (f, v), (f2, v2)] : List (Str × Value)).reverse.lookup y) := hns₂.at fun o z => k₃ _ o hLx z
  have X₃ : K.In h₃ := fun a o e => k₃ a o (fun z => by
    subst z
    rw [hnx] at e
    cases e) (X₂ a o e)
  refine wpAny_execs_cons (plainObj_wpAny_Assign_Attribute ?_)
  refine ESX.ldL (v := v2) hns₃ mf2 (ESX.ldL (v := .ref x) hns₃ ms ?_ rfl ls) rfl l1' m4
  have hwi : Within (fun y => if y = f then some v else none) [f] := fun y hy => by
    by_cases e : y = f
    · rw [e]; exact List.mem_cons_self ..
    · exact absurd (if_neg e) hy
  obtain ⟨oD, _, _, hoD, _, _⟩ := hn₃.count hwi
  refine set_plain X₃ (ox := { cls := .ref C, dict := some dx, data := .fields #[.ref t1, .none, .none, .none, .bool false, .none] }) (od := some oD) ⟨hx₃, rfl, rfl, hoD⟩ T.sa ?_
  refine osa_old X₃ hx₃ hn₃ hwi (by show 1 ≤ 1000; decide) hcl (show excTail lkT (.ref C :: bm) = true from hbm) rfl nof2 (fun h₄ tk₄ k₄ hn₄ => ?_)
  refine wpAny_execs_nil ?_
  have nd : ∀ {b : Addr} {o : Obj}, s.heap.get? b = some o → b ≠ dx := fun {b o} q => Nat.ne_of_lt (Nat.lt_of_lt_of_le (Heap.lt_size q) (Nat.le_of_lt (Nat.lt_of_lt_of_le z1 dn)))
  exact hq h₄ tk₄ dx ⟨fun b o hb e => k₄ b o (nd e) (k₃ b o hb (kk b o hb e)), ⟨t1, k₄ _ _ (Ne.symm dne) hx₃⟩, Nat.le_of_lt (Nat.lt_of_lt_of_le z1 dn), dne, hn₄⟩

/-- a made exception at e -/
structure OwnMade (h h' : Heap) (e C d : Addr) (mm : Str → Option Value) : Prop where
  keep : ∀ b o, h.get? b = some o → h'.get? b = some o
  new : h.objs.size ≤ e
  obj : ∃ t1 : Addr, h'.get? e = some { cls := .ref C, dict := some d, data := .fields #[.ref t1, .none, .none, .none, .bool false, .none] }
  dbig : h.objs.size ≤ d
  dne : d ≠ e
  ns : h'.Ns1 d mm
theorem made {params : Arguments} {body : List Stmt} {scope : Scope} {rest : List Value} {kw : List (Str × Value)} {mm : Str → Option Value} (T : XCls prog K C) (Fn : XFn prog K C fI qual params body scope) (X : K.In s.heap) (Tp : XTop s.heap) (hz : rest.length ≤ sizeLine)
    (hi : ∀ (s' : Shared) (A' : Around) (x t0 : Addr) (R' : Result → Shared → Prop), K.In s'.heap → XTop s'.heap → s'.heap.get? x = some (HandSPX.excO C t0) → K.lookup x = none → A'.depth ≤ A.depth + 1 →
      (∀ h' tk dx, InitEnd s'.heap h' x C dx mm → R' (.ok (.ret .none)) { s' with heap := h', toks := tk }) → codeAny (model prog w) A' (.call (.ref fI) ⟨.ref x :: rest, kw⟩) R' s')
    (hq : ∀ h' tk e d, OwnMade s.heap h' e C d mm → R (.ok (.ret (.ref e))) { s with heap := h', toks := tk }) :
    codeAny (model prog w) A (.call (.ref C) ⟨rest, kw⟩) R s := by
  obtain ⟨nm, q, N, bs, bm, sn, sub, ab, col, dd, k0, k1, k2, k3, k5, hC, hbm⟩ := T.cls
  obtain ⟨hp, g, dr, tk, os⟩ := s
  have k : ∀ b o, hp.get? b = some o → ((hp.push (kdv_tup rest)).push (HandSPX.excO C hp.objs.size)).get? b = some o := fun b o e => Heap.get?_push_of_some _ (Heap.get?_push_of_some _ e)
  have hget : ((hp.push (kdv_tup rest)).push (HandSPX.excO C hp.objs.size)).get? (hp.objs.size + 1) = some (HandSPX.excO C hp.objs.size) := by heap_get
  have hnx : K.lookup (hp.objs.size + 1) = none := by
    cases e : K.lookup (hp.objs.size + 1) with
    | none => rfl
    | some o =>
      have z : hp.get? (hp.objs.size + 1) = some o := X _ _ e
      exact absurd (Nat.lt_of_succ_lt (Heap.lt_size z)) (Nat.lt_irrefl _)
  refine call_ownK F.excBase_LookupError (fun Y => excTail_contains Y bm hbm) (X _ _ hC) (looks_findIn X Fn.iC) (fun self => bind_fn X self Fn.tI) hz ?_
  refine hi ⟨(hp.push (kdv_tup rest)).push (HandSPX.excO C hp.objs.size), g, dr, tk, os⟩ _ (hp.objs.size + 1) hp.objs.size _ (X.keeps k) (Tp.keeps k) hget hnx (Nat.le_refl _) fun h' tk' dx IE => ?_
  have old : ∀ b o, hp.get? b = some o → h'.get? b = some o := fun b o e => IE.keep b o (Nat.ne_of_lt (Nat.lt_succ_of_lt (Heap.lt_size e))) (k b o e)
  have z : hp.objs.size + 1 + 1 ≤ dx := by
    have q := IE.dbig
    rw [show ({ heap := (hp.push (kdv_tup rest)).push (HandSPX.excO C hp.objs.size), gens := g, drawn := dr, toks := tk, os := os } : Shared).heap.objs.size = hp.objs.size + 1 + 1 from by rw [Heap.size_push, Heap.size_push]] at q
    exact q
  exact ⟨rfl, hq h' tk' (hp.objs.size + 1) dx ⟨old, Nat.le_succ _, IE.obj, Nat.le_trans (Nat.le_trans (Nat.le_succ _) (Nat.le_succ _)) z, IE.dne, IE.ns⟩⟩
end
end XL
end PySem
namespace L2
open PySem PySem.Spec PyProof.Rows
/-! ### exceptions of own classes (over LookupError) as values: made, their fields read, isinstance -/
section
variable {X : Cx} {pins : List (Addr × Obj)} {σ : St} {H : Hp} {s : Shared}
theorem Inv.xtop (I : Inv X pins σ H s) : XL.XTop s.heap :=
  ⟨⟨_, I.mod.glob.keeps I.bk⟩, let ⟨mb, h1, h2⟩ := I.mod.blt; ⟨mb, h1.keeps I.bk, h2⟩, I.nolimit⟩
/-- two objects that are new -/
theorem Inv.laid2 {a d : Addr} {oa od : HO} {t' : Nat} {h' : Heap} (I : Inv X pins σ H s) (k : ∀ b u, s.heap.get? b = some u → h'.get? b = some u) (ha : s.heap.objs.size ≤ a) (hd : s.heap.objs.size ≤ d) (hne : d ≠ a)
    (na : ObjOk X.prog X.w (upd (upd H d od) a oa) h' a oa) (nd : ObjOk X.prog X.w (upd (upd H d od) a oa) h' d od) : Inv X pins σ (upd (upd H d od) a oa) { s with heap := h', toks := t' } := by
  have fa := I.hok.fresh ha
  have fd := I.hok.fresh hd
  have la : ∀ {b : Addr} {u : Obj}, s.heap.get? b = some u → b ≠ a := fun q => Nat.ne_of_lt (Nat.lt_of_lt_of_le (Heap.lt_size q) ha)
  have ld : ∀ {b : Addr} {u : Obj}, s.heap.get? b = some u → b ≠ d := fun q => Nat.ne_of_lt (Nat.lt_of_lt_of_le (Heap.lt_size q) hd)
  have up : ∀ {b : Addr} {u : HO}, H b = some u → upd (upd H d od) a oa b = some u := fun q => by rw [upd_ne (ne_of_none q fa), upd_ne (ne_of_none q fd)]; exact q
  refine I.un (t' := t') (h' := h') {
    keep := fun b u q _ _ _ => k b u q
    slot := fun b u q _ _ _ => ⟨u.slots, k b u q⟩
    free := fun b u q n _ => by rw [upd_ne (la q), upd_ne (ld q)]; exact n
    there := fun b u q _ => ⟨u, k b u q⟩
    tups := fun b xs q => up q
    frzs := fun b u xs q => up q
    tbls := fun b ps q => ⟨#[], by rw [up q]; simp⟩ } fun b u e => ?_
  by_cases hb : b = a
  · subst hb; rw [upd_same] at e; cases e; exact na
  · rw [upd_ne hb] at e
    by_cases hb' : b = d
    · subst hb'; rw [upd_same] at e; cases e; exact nd
    · rw [upd_ne hb'] at e
      exact (I.hok b u e).stay (fun c v _ q => k c v q) (fun c q => up q) fun c xs q => up q
end
theorem pe_gref {X : Cx} {x : Str} {C : Addr} {pos : Pos} (hg : Gl X x) (hm : X.mg x = some (.ref C)) (hd : (x == ("__debug__" : Str)) = false := by decide) : PE X (.Name x pos) (tC (.ref C)) := pe_glob hg hm rfl hd
/-- C(us, ks = ws) can be made; its fields then are gV's -/
def XMk (P : Program) (w : World) (K : PySem.W.Frag) (C : Addr) (n : Nat) (ks : List Str) (gV : List V → List V → List (Str × V)) : Prop :=
  ∀ (A : Around) (s : Shared) (R : Result → Shared → Prop) (us ws : List Value) (vs zs : List V), Vals vs us → Vals zs ws → us.length = n → ws.length = ks.length → K.In s.heap → XL.XTop s.heap → A.depth + 2 < recursionLimit →
    (∀ h' tk e d mm, XL.OwnMade s.heap h' e C d mm → (∀ f, RelO ((gV vs zs).lookup f) (mm f)) → R (.ok (.ret (.ref e))) { s with heap := h', toks := tk }) →
    codeAny (model P w) A (.call (.ref C) ⟨us, ks.zip ws⟩) R s
/-- a new exception of the class C with the fields gV -/
def tXv (C : Addr) (n m : Nat) (gV : List V → List V → List (Str × V)) (ta tk : TA) : TE := fun σ H Q => ta σ H fun vs H1 => tk σ H1 fun zs H2 => vs.length = n ∧ zs.length = m ∧
  ∀ a d, H2 a = none → H2 d = none → d ≠ a → Q (.ref a) (upd (upd H2 d (exd d (gV vs zs))) a (exo a C (some d)))
section
variable {X : Cx} {n k : Nat} {C : Addr} {ks : List Str} {x : Str} {p pos : Pos} {e : Expr} {es : List Expr} {kws : List Keyword} {t tk : TA} {gV : List V → List V → List (Str × V)}
theorem run_xv {pins : List (Addr × Obj)} {σ : St} {H : Hp} {s : Shared} {Q : VK} {us ws : List Value} {vs zs : List V} (M : XMk X.prog X.w X.K C n ks gV) (hr : Room k X.A) (I : Inv X pins σ H s) (r : Vals vs us) (rz : Vals zs ws) (l1 : vs.length = n) (l2 : zs.length = ks.length)
    (h : ∀ a d, H a = none → H d = none → d ≠ a → Q (.ref a) (upd (upd H d (exd d (gV vs zs))) a (exo a C (some d)))) :
    wpAny (model X.prog X.w) X.A (call (.ref C) us (ks.zip ws)) (EP X pins σ Q) X.xe s := by
  refine wpAny_call (M _ s _ us ws vs zs r rz (r.length.symm.trans l1) (rz.length.symm.trans l2) I.kIn I.xtop (by have := hr.dp; omega) fun h' tk' e' d mm O rel => ?_)
  obtain ⟨t1, ho⟩ := O.obj
  exact ⟨.ref e', _, I.laid2 (t' := tk') O.keep O.new O.dbig O.dne (exo_ok ho) (exd_ok O.ns rel), rfl, h e' d (I.hok.fresh O.new) (I.hok.fresh O.dbig) O.dne⟩
/-- C(e, .., k = v, ..) -/
theorem pe_xv (M : XMk X.prog X.w X.K C n ks gV) (hr : Room k X.A) (hg : Gl X x) (hm : X.mg x = some (.ref C)) (kp : PySem.W.keepIn X.K (.ref C) = true) (ha : PA X (e :: es) t) (hkw : PK X kws tk)
    (hall : (backToKw pos (keywordEach kws X.env)).all (·.1.isSome) = true := by rfl) (hks : (backToKw pos (keywordEach kws X.env)).filterMap (·.1) = ks := by rfl) (hdb : (x == ("__debug__" : Str)) = false := by decide)
    (he : starEach (e :: es) X.env = (false, eval e X.env) :: starEach es X.env := by rfl) (hpl : ((backTo pos (starEach (e :: es) X.env)).any (·.1) || (backToKw pos (keywordEach kws X.env)).any (·.1.isNone)) = false := by rfl) :
    PE X (.Call (.Name x p) (e :: es) kws pos) (tXv C n ks.length gV t tk) := by
  refine ⟨fun pins s σ H Q I h => ?_⟩
  refine wpAny_Call_Name_kw (ld_glob I hg hm ?_ hdb)
  refine PySem.W.callWith_KW (h₀ := X.base) I.ok.mod.kin kp hall (thn (ha.run pos pins s σ H _ I h) fun us s1 ⟨vs, H1, I1, r, q⟩ => ?_) hpl he
  refine thn (hkw.run pos pins s1 σ H1 _ I1 q) fun ws s2 ⟨zs, H2, I2, rz, l1, l2, q2⟩ => ⟨I2.kIn, ?_⟩
  rw [hks]
  exact run_xv M hr I2 r rz l1 l2 q2
/-- C(k = v, ..) -/
theorem pe_xv0 (M : XMk X.prog X.w X.K C 0 ks gV) (hr : Room k X.A) (hg : Gl X x) (hm : X.mg x = some (.ref C)) (kp : PySem.W.keepIn X.K (.ref C) = true) (hkw : PK X kws tk)
    (hall : (backToKw pos (keywordEach kws X.env)).all (·.1.isSome) = true := by rfl) (hks : (backToKw pos (keywordEach kws X.env)).filterMap (·.1) = ks := by rfl) (hdb : (x == ("__debug__" : Str)) = false := by decide)
    (hpl : ((backTo pos (starEach [] X.env)).any (·.1) || (backToKw pos (keywordEach kws X.env)).any (·.1.isNone)) = false := by rfl) :
    PE X (.Call (.Name x p) [] kws pos) (tXv C 0 ks.length gV tNil tk) := by
  refine ⟨fun pins s σ H Q I h => ?_⟩
  refine wpAny_Call_Name_kw (ld_glob I hg hm ?_ hdb)
  refine PySem.W.callWith_KW0 (h₀ := X.base) I.ok.mod.kin kp hall ?_ hpl
  refine thn (hkw.run pos pins s σ H _ I h) fun ws s2 ⟨zs, H2, I2, rz, l1, l2, q2⟩ => ⟨I2.kIn, ?_⟩
  rw [hks]
  exact run_xv (us := []) (vs := []) M hr I2 .nil rz rfl l2 q2
end
section
variable {P : Program} {w : World} {K : PySem.W.Frag} {C fI : Addr} {qual tx f f2 : Str}
open PySem.XL in
theorem xmk1 {Ps : Ps1} {a1 a2 : Pos} (T : XCls P K C) (Fn : XFn P K C fI qual (args1 a1 a2 f) (body1 Ps tx f) (scope1 f)) (hf : okF f = true) (nof : PySem.W.findIn K (.ref C) f = some none) (ev : EvOk qual (scope1 f) fI Ps tx)
    (hb : ∀ (s : Shared) (x : Addr) (v : Value) (kV doc pm : Value) (an : Option Addr) (cdv ct : Value) (cc : Addr), BindsTo s (PySem.W.ksFn "__init__" qual (args1 a1 a2 f) (body1 Ps tx f) (scope1 f) .none kV doc pm an cdv ct cc) ⟨[.ref x, v], []⟩ [("self", .ref x), (f, v)]) :
    XMk P w K C 1 [] (fun vs _ => [(f, vs.headD .non)]) := by
  intro A s R us ws vs zs r rz l1 l2 X Tp dp hq
  cases r with
  | nil => cases l1
  | @cons v u vs' us' ru rr =>
    cases rr with
    | cons _ _ => cases l1
    | nil =>
      show codeAny _ _ (.call (.ref C) ⟨[u], []⟩) _ _
      refine made (mm := fun y => if y = f then some u else none) T Fn X Tp (by show 1 ≤ sizeLine; rw [sizeLine_eq]; decide) (fun s' A' x t0 R' X' Tp' hx hnx hA hq' => ?_) fun h' tk e d O => hq h' tk e d _ O fun g => ?_
      · exact init1 T Fn hf nof ev X' Tp' hx hnx (by omega) (hb s' x u) hq'
      · rw [lookup_put]
        by_cases e : g = f
        · rw [if_pos e, if_pos e]; exact ru
        · rw [if_neg e, if_neg e]; exact True.intro
open PySem.XL in
theorem xmk1k {Ps : Ps1} {a1 a2 : Pos} (T : XCls P K C) (Fn : XFn P K C fI qual (args1 a1 a2 f) (body1 Ps tx f) (scope1 f)) (hf : okF f = true) (nof : PySem.W.findIn K (.ref C) f = some none) (ev : EvOk qual (scope1 f) fI Ps tx)
    (hb : ∀ (s : Shared) (x : Addr) (v : Value) (kV doc pm : Value) (an : Option Addr) (cdv ct : Value) (cc : Addr), BindsTo s (PySem.W.ksFn "__init__" qual (args1 a1 a2 f) (body1 Ps tx f) (scope1 f) .none kV doc pm an cdv ct cc) ⟨[.ref x], [(f, v)]⟩ [("self", .ref x), (f, v)]) :
    XMk P w K C 0 [f] (fun _ zs => [(f, zs.headD .non)]) := by
  intro A s R us ws vs zs r rz l1 l2 X Tp dp hq
  cases r with
  | cons _ _ => cases l1
  | nil =>
    cases rz with
    | nil => cases l2
    | @cons v u vs' us' ru rr =>
      cases rr with
      | cons _ _ => cases l2
      | nil =>
        show codeAny _ _ (.call (.ref C) ⟨[], [(f, u)]⟩) _ _
        refine made (mm := fun y => if y = f then some u else none) T Fn X Tp (by show 0 ≤ sizeLine; omega) (fun s' A' x t0 R' X' Tp' hx hnx hA hq' => ?_) fun h' tk e d O => hq h' tk e d _ O fun g => ?_
        · exact init1 T Fn hf nof ev X' Tp' hx hnx (by omega) (hb s' x u) hq'
        · rw [lookup_put]
          by_cases e : g = f
          · rw [if_pos e, if_pos e]; exact ru
          · rw [if_neg e, if_neg e]; exact True.intro
theorem rel2 {v v2 : V} {u u2 : Value} (r : RelV v u) (r2 : RelV v2 u2) (g : Str) : RelO (([(f2, v2), (f, v)] : List (Str × V)).lookup g) (if g = f2 then some u2 else if g = f then some u else none) := by
  rw [lookup_put]
  by_cases e : g = f2
  · rw [if_pos e, if_pos e]; exact r2
  · rw [if_neg e, if_neg e, lookup_put]
    by_cases e' : g = f
    · rw [if_pos e', if_pos e']; exact r
    · rw [if_neg e', if_neg e']; exact True.intro
open PySem.XL in
theorem xmk2 {Ps : Ps2} {a1 a2 a3 : Pos} (T : XCls P K C) (Fn : XFn P K C fI qual (args2 a1 a2 a3 f f2) (body2 Ps tx f f2) (scope2 f f2)) (hf : okF f = true) (hf2 : okF f2 = true) (h12 : (f == f2) = false) (nof : PySem.W.findIn K (.ref C) f = some none) (nof2 : PySem.W.findIn K (.ref C) f2 = some none) (ev : EvOk qual (scope2 f f2) fI Ps.toPs1 tx)
    (hb : ∀ (s : Shared) (x : Addr) (v v2 : Value) (kV doc pm : Value) (an : Option Addr) (cdv ct : Value) (cc : Addr), BindsTo s (PySem.W.ksFn "__init__" qual (args2 a1 a2 a3 f f2) (body2 Ps tx f f2) (scope2 f f2) .none kV doc pm an cdv ct cc) ⟨[.ref x, v, v2], []⟩ [("self", .ref x), (f, v), (f2, v2)]) :
    XMk P w K C 2 [] (fun vs _ => [(f2, vs.getD 1 .non), (f, vs.getD 0 .non)]) := by
  intro A s R us ws vs zs r rz l1 l2 X Tp dp hq
  cases r with
  | nil => cases l1
  | @cons v u vs' us' ru rr =>
    cases rr with
    | nil => cases l1
    | @cons v2 u2 vs' us' ru2 rr =>
      cases rr with
      | cons _ _ => cases l1
      | nil =>
        show codeAny _ _ (.call (.ref C) ⟨[u, u2], []⟩) _ _
        refine made (mm := fun y => if y = f2 then some u2 else if y = f then some u else none) T Fn X Tp (by show 2 ≤ sizeLine; rw [sizeLine_eq]; decide) (fun s' A' x t0 R' X' Tp' hx hnx hA hq' => ?_) fun h' tk e d O => hq h' tk e d _ O fun g => rel2 ru ru2 g
        exact init2 T Fn hf hf2 h12 nof nof2 ev X' Tp' hx hnx (by omega) (hb s' x u u2) hq'
open PySem.XL in
/-- by keywords, the second one first -/
theorem xmk2k {Ps : Ps2} {a1 a2 a3 : Pos} (T : XCls P K C) (Fn : XFn P K C fI qual (args2 a1 a2 a3 f f2) (body2 Ps tx f f2) (scope2 f f2)) (hf : okF f = true) (hf2 : okF f2 = true) (h12 : (f == f2) = false) (nof : PySem.W.findIn K (.ref C) f = some none) (nof2 : PySem.W.findIn K (.ref C) f2 = some none) (ev : EvOk qual (scope2 f f2) fI Ps.toPs1 tx)
    (hb : ∀ (s : Shared) (x : Addr) (v v2 : Value) (kV doc pm : Value) (an : Option Addr) (cdv ct : Value) (cc : Addr), BindsTo s (PySem.W.ksFn "__init__" qual (args2 a1 a2 a3 f f2) (body2 Ps tx f f2) (scope2 f f2) .none kV doc pm an cdv ct cc) ⟨[.ref x], [(f2, v2), (f, v)]⟩ [("self", .ref x), (f, v), (f2, v2)]) :
    XMk P w K C 0 [f2, f] (fun _ zs => [(f2, zs.getD 0 .non), (f, zs.getD 1 .non)]) := by
  intro A s R us ws vs zs r rz l1 l2 X Tp dp hq
  cases r with
  | cons _ _ => cases l1
  | nil =>
  cases rz with
  | nil => cases l2
  | @cons v2 u2 vs' us' ru2 rr =>
    cases rr with
    | nil => cases l2
    | @cons v u vs' us' ru rr =>
      cases rr with
      | cons _ _ => cases l2
      | nil =>
        show codeAny _ _ (.call (.ref C) ⟨[], [(f2, u2), (f, u)]⟩) _ _
        refine made (mm := fun y => if y = f2 then some u2 else if y = f then some u else none) T Fn X Tp (by show 0 ≤ sizeLine; omega) (fun s' A' x t0 R' X' Tp' hx hnx hA hq' => ?_) fun h' tk e d O => hq h' tk e d _ O fun g => rel2 ru ru2 g
        exact init2 T Fn hf hf2 h12 nof nof2 ev X' Tp' hx hnx (by omega) (hb s' x u u2) hq'
end
/-- what an own exception class must say for its instances to be read and asked -/
structure XAsk (K : PySem.W.Frag) (D : Addr) : Prop where
  hg : PySem.W.findIn K (.ref D) "__getattribute__" = some (some (.builtin "BaseException.__getattribute__"))
  hk : PySem.W.findIn K (.ref D) "__getattr__" = some none
  hs : PySem.W.subIn K (.ref D) (.type "BaseException") = some true
  hd : PySem.W.hasDictIn K D = true
  ha : PySem.W.findIn K (.ref D) "__class__" = some (some (.builtin "object.__class__"))
  hn : PySem.W.specialIn K (.builtin "object.__class__") "__get__" = some (some (.builtin "getset_descriptor.__get__"))
  ht : PySem.W.takesIn K (.builtin "object.__class__") = some true
  hm : PySem.W.mroIn K D (.type "object") = some true
/-- e.f, e an exception that is held as a value -/
def tXat (K : PySem.W.Frag) (f : Str) (te : TE) : TE := fun σ H Q => te σ H fun x H1 => ∃ (a C d : Addr) (fs : List (Str × V)) (v : V), x = .ref a ∧ H1 a = some (exo a C (some d)) ∧ H1 d = some (exd d fs) ∧ XAsk K C ∧ PySem.W.findIn K (.ref C) f = some none ∧ fs.lookup f = some v ∧ Q v H1
/-- isinstance(e, c) -/
def rXis (K : PySem.W.Frag) : List V → Hp → VK → Prop := fun xs H Q => ∃ (a C d : Addr) (fs : List (Str × V)) (c : V) (u : Value) (b : Bool), xs = [.ref a, c] ∧ ClsV c u ∧ H a = some (exo a C (some d)) ∧ H d = some (exd d fs) ∧ XAsk K C ∧ PySem.W.kitOne K (.ref C) u = some b ∧ Q (.bl b) H
section
variable {X : Cx} {pins : List (Addr × Obj)} {σ : St} {H : Hp} {s : Shared}
theorem Inv.inst {a C d : Addr} {fs : List (Str × V)} (I : Inv X pins σ H s) (ea : H a = some (exo a C (some d))) (ed : H d = some (exd d fs)) :
    ∃ (oe od : Obj) (mA : Str → Option Value), PySem.W.InstAt s.heap a oe C (some od) ∧ (∀ f, RelO (fs.lookup f) (mA f)) ∧ ∀ f, PySem.W.lookIn f od = some (mA f) := by
  obtain ⟨t1, ho⟩ := exo_at I.hok ea
  obtain ⟨mA, hns, hr⟩ := exd_at I.hok ed
  obtain ⟨od, hod, hl⟩ := lookIn_ns hns
  exact ⟨_, od, mA, ⟨ho, rfl, rfl, hod⟩, hr, hl⟩
theorem pe_xat {e : Expr} {te : TE} {pos : Pos} {f : Str} (he : PE X e te) (hb : attributeBase e f X.env (eval e X.env) = eval e X.env := by rfl) : PE X (.Attribute e f pos) (tXat X.K f te) := by
  refine ⟨fun pins s σ H Q I h => ?_⟩
  refine attr_of hb (thn (he.run pins s σ H _ I h) fun u s1 ⟨x, H1, I1, rx, a, C, d, fs, v, ex, ea, ed, T, hno, l, q⟩ => ?_)
  subst ex
  obtain rfl : u = Value.ref a := rx
  obtain ⟨oe, od, mA, J, hr, hl⟩ := I1.inst ea ed
  obtain ⟨u, hu, ru⟩ := RelO.some_of (v := v) (o := mA f) (by rw [← l]; exact hr f)
  exact HandSPX.exc_get I1.kIn J T.hg T.hk T.hs (PySem.W.findObj_own T.hd hno rfl (by rw [hl, hu])) (handed_of ru) ⟨v, H1, I1.tok _, ru, q⟩
theorem call_xis : CallR X (.builtin "isinstance") (rXis X.K) := by
  intro pins s σ H xs us Q I r h
  obtain ⟨a, C, d, fs, c, u, b, rfl, k, ea, ed, T, e, q⟩ := h
  obtain ⟨u1, u2, rfl, r1, r2⟩ := vals2 r
  have e2 := k.eq r2
  subst e2
  obtain rfl : u1 = Value.ref a := r1
  obtain ⟨oe, od, mA, J, hr, hl⟩ := I.inst ea ed
  obtain ⟨cd, hc, _⟩ := PySem.W.any_some T.hd
  exact PySem.W.kia_one (PySem.W.kitx_exc (by rw [hc]; rfl) T.hg T.hk T.hs T.ha T.hn T.ht T.hm) I.kIn J e (fun z => nomatch z) fun tk => ⟨.bl b, H, I.tok tk, rfl, q⟩
end
end L2
namespace L2
open PySem PySem.Spec PyProof.Rows
/-! ### raise C(e, ..), C an own class over LookupError -/
/-- C(e, ..) to be raised: its own dict d, new, holds the fields -/
def tXmk (C : Addr) (n : Nat) (gV : List V → List V → List (Str × V)) (ta : TA) : L2.St → Hp → XK → Prop := fun σ H Q => ta σ H fun vs H1 => vs.length = n ∧ ∀ d, H1 d = none → Q (.ref C) (some d) (upd H1 d (.xd (gV vs [])))
theorem pmk_x {X : Cx} {x : Str} {C : Addr} {n k : Nat} {e : Expr} {es : List Expr} {ta : TA} {p pos : Pos} {gV : List V → List V → List (Str × V)} (M : XMk X.prog X.w X.K C n [] gV) (hr : Room k X.A) (hg : Gl X x) (hm : X.mg x = some (.ref C)) (kp : PySem.W.keepIn X.K (.ref C) = true) (rs : Raises X (.ref C)) (ha : PA X (e :: es) ta)
    (hdb : (x == ("__debug__" : Str)) = false := by decide) (he : starEach (e :: es) X.env = (false, eval e X.env) :: starEach es X.env := by rfl) (hpl : (backTo pos (starEach es X.env)).any (·.1) = false := by rfl) :
    PMk X (.Call (.Name x p) (e :: es) [] pos) (tXmk C n gV ta) := by
  intro pins s σ H Q I h
  refine wpAny_Call_Name_kw (ld_glob I hg hm ?_ hdb)
  refine PySem.W.callWith_K (h₀ := X.base) I.ok.mod.kin kp (thn (ha.run pos pins s σ H _ I h) fun us s1 ⟨vs, H1, I1, r1, l1, q1⟩ => ⟨I1.kIn, ?_⟩) he hpl
  show wpAny _ _ (call (.ref C) us) _ _ _
  refine wpAny_call (M _ s1 _ us [] vs [] r1 .nil (r1.length.symm.trans l1) rfl I1.kIn I1.xtop (by have := hr.dp; omega) fun h' tk' e' d mm O rel => ?_)
  obtain ⟨hp, g, dr, tk, os⟩ := s1
  obtain ⟨t1, hoe⟩ := O.obj
  obtain ⟨G', g1, g2⟩ := restrict h' fun b => decide (b ≠ e')
  have gk : ∀ b, b ≠ e' → G'.get? b = h'.get? b := fun b hb => g1 b (decide_eq_true hb)
  have ge : G'.get? e' = none := g2 e' (by simp)
  have old : ∀ b o, hp.get? b = some o → G'.get? b = some o := fun b o q => (gk b (Nat.ne_of_lt (Nat.lt_of_lt_of_le (Heap.lt_size q) O.new))).trans (O.keep b o q)
  have ob : ObjOk X.prog X.w (upd H1 d (.xd (gV vs []))) G' d (.xd (gV vs [])) := ⟨_, O.ns.at (fun o q => (gk d O.dne).trans q), rel⟩
  have J : Inv X pins σ (upd H1 d (.xd (gV vs []))) ⟨G', g, dr, tk', os⟩ := I1.laid (t' := tk') old O.dbig ob
  refine ⟨e', _, _, ⟨G', g, dr, tk', os⟩, _, .ref C, some d, rfl, J, fun b o q => ?_, ge, hoe, ⟨rfl, rfl⟩, rfl, rfl, ?_, rfl, I1.bare, rs, q1 d (I1.hok.fresh O.dbig)⟩
  · by_cases hb : b = e'
    · have q' : G'.get? b = some o := q
      rw [hb, ge] at q'; cases q'
    · exact (gk b hb).symm.trans q
  · rw [upd_ne (Ne.symm O.dne)]
    exact I1.hok.fresh O.new
end L2
namespace L2
open PySem PySem.Spec PyProof.Rows
/-! ### zip of a text and a tuple -/
/-- the text x and the tuple at b, the items in new pairs -/
def ItzS (K : PySem.W.Frag) (x : Str) (b : Addr) : It :=
  ⟨fun i H => ∃ (ys : List V) (c : Nat) (y : V), SqT K H b ys ∧ x.cps[i]? = some c ∧ ys[i]? = some y ∧ i ≤ x.cps.size ∧ i ≤ ys.length,
    fun i H v H' => ∃ T c y, v = .ref T ∧ H T = none ∧ H' = upd H T (.tup [.str ⟨#[c]⟩, y]) ∧ x.cps[i]? = some c ∧ ∀ ys, SqT K H b ys → ys[i]? = some y,
    fun i H => ∃ ys : List V, SqT K H b ys ∧ i ≤ x.cps.size ∧ i ≤ ys.length ∧ (i = x.cps.size ∨ i = ys.length)⟩
theorem draws_text {prog : Program} {w : World} {A : Around} (hh : A.handled = none) (it : Addr) (x : Str) (t : Tok) (ty : String) (hty : ty = "str_ascii_iterator" ∨ ty = "str_iterator") :
    Draws prog w A it [it] x.cps.size (fun i v => ∃ c u, x.cps[i]? = some c ∧ v = .str ⟨#[c]⟩ u) (fun i h => h.IsStrIter it ty x t i) := by
  rcases hty with rfl | rfl
  · exact Draws.strAscii hh it x t
  · exact Draws.strWide hh it x t
theorem turn_zipS {P : Program} {w : World} {K : PySem.W.Frag} {elts : List Expr} {kk : Nat} {tpos : Pos} {b z TI TO i1 i2 : Addr} {x : Str} {t : Tok} {ty : String} (hty : ty = "str_ascii_iterator" ∨ ty = "str_iterator") (D : ZipSep2 z TI TO i1 i2 [i1] [i2, b]) (hb : b ≠ i2) :
    Turn P w K (.Tuple elts kk tpos) (ItzS K x b) [z, TI, TO, i1, i2] z (fun i h => IsZip h z TI TO .none ∧ IsTupOf2 h TI (.ref i1) (.ref i2) ∧ (∃ x y, IsTupOf2 h TO x y) ∧ h.IsStrIter i1 ty x t i ∧ h.IsTupleIter i2 b i) where
  mem := by simp
  obj := fun i h st c hc => by
    obtain ⟨hz, hTI, ⟨x, y, hTO⟩, ⟨o1, e1, _, d1⟩, ⟨o2, e2, _, d2⟩⟩ := st
    have e' : c = z ∨ c = TI ∨ c = TO ∨ c = i1 ∨ c = i2 := by simpa using hc
    rcases e' with q | q | q | q | q
    · rw [q]; exact ⟨_, hz, fun v q => nomatch q⟩
    · rw [q]; exact ⟨_, hTI, fun v q => nomatch q⟩
    · rw [q]; exact ⟨_, hTO, fun v q => nomatch q⟩
    · rw [q]; exact ⟨o1, e1, fun v q => by rw [d1] at q; cases q⟩
    · rw [q]; exact ⟨o2, e2, fun v q => by rw [d2] at q; cases q⟩
  keep := fun i h h' st k => by
    obtain ⟨hz, hTI, ⟨x, y, hTO⟩, ⟨o, ho, r⟩, h2⟩ := st
    exact ⟨k z (by simp) _ hz, k TI (by simp) _ hTI, ⟨x, y, k TO (by simp) _ hTO⟩, ⟨o, k i1 (by simp) o ho, r⟩, h2.at fun o q => k i2 (by simp) o q⟩
  item := by
    intro X hP hw hK hc i pins s σ H E I hf st hg
    subst hP hw hK
    obtain ⟨hz, hTI, ⟨x0, y0, hTO⟩, h1, h2⟩ := st
    obtain ⟨ys, c, y, hqy, hx, hy, l1, l2⟩ := hg
    obtain ⟨its2, rv2, p2, _⟩ := I.tuple hqy
    obtain ⟨u2, hu2, ru2⟩ := rv2.get hy
    have hzl : z < s.heap.objs.size := Heap.lt_size hz
    have hlt1 : i < x.cps.size := (Array.getElem?_eq_some_iff.mp hx).1
    have hlt2 : i < its2.toArray.size := by simpa using (List.getElem?_eq_some_iff.mp hu2).1
    have d1 := draws_text (prog := X.prog) (w := X.w) (A := X.A.in1) (I.ok.hd hc) i1 x t ty hty
    have d2 := Draws.tuple (prog := X.prog) (w := X.w) (A := X.A.in1) (I.ok.hd hc) i2 b hb its2.toArray
    refine wpAny_pyNext_zipD2_item (St1 := fun i h => h.IsStrIter i1 ty x t i) (St2 := fun i h => h.IsTupleIter i2 b i ∧ h.IsTuple b its2.toArray) D d1 d2 hz hTI hTO h1 ⟨h2, p2⟩ hlt1 hlt2 fun x1 x2 h' tk q1 q2 z' TO' h1' h2' hT hsz hk => ?_
    obtain ⟨c', u, hc', rfl⟩ := q1
    rw [hx] at hc'
    cases hc'
    have hx2 : x2 = u2 := by
      have q2' : its2[i]? = some x2 := by simpa using q2
      rw [hu2] at q2'
      exact (Option.some.inj q2').symm
    subst hx2
    refine ⟨_, rfl, wpAny_letOwnedTupleGo_zip (s := { s with heap := h', toks := tk }) z' fun h'' z'' sb => ?_⟩
    have hT2 : h''.get? s.heap.objs.size = some { cls := .type "tuple", data := .seq #[.str ⟨#[c]⟩ u, x2] } := (sb.2 _ (Nat.ne_of_gt hzl)).trans hT
    have new : ObjOk X.prog X.w (upd H s.heap.objs.size (.tup [.str ⟨#[c]⟩, y])) h'' s.heap.objs.size (.tup [.str ⟨#[c]⟩, y]) :=
      ⟨by show 2 ≤ sizeLine; decide, [.str ⟨#[c]⟩ u, x2], .cons ⟨u, rfl⟩ (.cons ru2 .nil), ⟨_, hT2, rfl, _, rfl⟩⟩
    have I1 : Inv X pins σ (upd H s.heap.objs.size (.tup [.str ⟨#[c]⟩, y])) { s with heap := h'', toks := tk } :=
      I.turnedNew (t' := tk) (ch := [z, TI, TO, i1, i2]) (fun c o hb q => (sb.2 c (fun q' => hb (by simp [q']))).trans (hk c o (fun q' => hb (by simp [q'])) (fun q' => hb (by simp [q'])) (fun q' => hb (by simp [q'])) (fun q' => hb (by simp [q'])) q)) hf (Nat.le_refl _) new
    refine ⟨.ref s.heap.objs.size, _, I1, rfl, ⟨_, c, y, rfl, I.hok.fresh (Nat.le_refl _), rfl, hx, fun l hl => by rw [I.tuple_inj hl hqy]; exact hy⟩, ⟨z'', ?_, ⟨.str ⟨#[c]⟩ u, x2, ?_⟩, ?_, ?_⟩, fun c hcm => ?_⟩
    · exact (sb.2 _ D.TIz).trans (hk _ _ D.TIz D.TITO D.TIi1 D.TIi2 hTI)
    · exact (sb.2 _ D.TOz).trans TO'
    · obtain ⟨o, ho, r⟩ := h1'
      exact ⟨o, (sb.2 _ D.zi1.symm).trans ho, r⟩
    · exact h2'.1.at fun o q => (sb.2 _ D.zi2.symm).trans q
    · have hlt : c < s.heap.objs.size := by
        have e' : c = z ∨ c = TI ∨ c = TO ∨ c = i1 ∨ c = i2 := by simpa using hcm
        rcases e' with q | q | q | q | q
        · rw [q]; exact hzl
        · rw [q]; exact Heap.lt_size hTI
        · rw [q]; exact Heap.lt_size hTO
        · rw [q]; obtain ⟨_, e1, _⟩ := h1; exact Heap.lt_size e1
        · rw [q]; obtain ⟨_, e2, _⟩ := h2; exact Heap.lt_size e2
      rw [upd_ne (Nat.ne_of_lt hlt)]
      exact (hf c hcm).1
  done := by
    intro X hP hw hK hc i pins s σ H E I hf st hg
    subst hP hw hK
    obtain ⟨hz, hTI, ⟨x0, y0, hTO⟩, h1, h2⟩ := st
    obtain ⟨ys, hqy, l1, l2, hend⟩ := hg
    obtain ⟨its2, rv2, p2, _⟩ := I.tuple hqy
    have ll := rv2.length
    have l2' : i ≤ its2.toArray.size := by simp; omega
    have he : i = x.cps.size ∨ i = its2.toArray.size := by
      rcases hend with q | q
      · exact .inl q
      · exact .inr (by simp; omega)
    have d1 := draws_text (prog := X.prog) (w := X.w) (A := X.A.in1) (I.ok.hd hc) i1 x t ty hty
    have d2 := Draws.tuple (prog := X.prog) (w := X.w) (A := X.A.in1) (I.ok.hd hc) i2 b hb its2.toArray
    exact wpAny_pyNext_zipD2_end (St1 := fun i h => h.IsStrIter i1 ty x t i) (St2 := fun i h => h.IsTupleIter i2 b i ∧ h.IsTuple b its2.toArray) D d1 d2 hz hTI hTO h1 ⟨h2, p2⟩ l1 l2' he fun h' tk hk => ⟨rfl, I.turnedL (t' := tk) (ch := [z, TI, TO, i1, i2]) (fun c o hb q =>
      hk c o (fun q' => hb (by simp [q'])) (fun q' => hb (by simp [q'])) (fun q' => hb (by simp [q'])) (fun q' => hb (by simp [q'])) q) hf⟩
  self := fun A i s Q E st h => wpAny_pyIter_zip st.1 h
def iZipS (K : PySem.W.Frag) (ta : TA) : TI := fun σ H R => ta σ H fun vs H1 => ∃ (x : Str) (b : Addr) (ys : List V), vs = [.str x, .ref b] ∧ SqT K H1 b ys ∧ R (ItzS K x b) H1
theorem pi_zipS {X : Cx} {e e2 : Expr} {ta : TA} {p pos tpos : Pos} {elts : List Expr} {kk : Nat} (hg : Gl X "zip") (hm : X.mg "zip" = none) (ha : PA X [e, e2] ta)
    (hs : starEach [e, e2] X.env = (false, eval e X.env) :: starEach [e2] X.env := by rfl) (hpl : (backTo pos (starEach [e2] X.env)).any (·.1) = false := by rfl) :
    PI X (.Tuple elts kk tpos) (.Call (.Name "zip" p) [e, e2] [] pos) (iZipS X.K ta) := by
  refine ⟨fun pins s σ H R I h => ?_⟩
  refine Call_ (ld_blt I hg hm PyProof.Rows.boot_zip (PyProof.Rows.callWith_type1 (thn (ha.run pos pins s σ H _ I h) fun us s1 ⟨vs, H1, I1, r1, q1⟩ => ?_) hs hpl))
  obtain ⟨x, b, ys, ex, hqy, q⟩ := q1
  subst ex
  obtain ⟨u1, u2, rfl, r, r'⟩ := vals2 r1
  obtain ⟨t, rfl⟩ := r
  cases r'
  have fresh5 : ∀ c, c ∈ [s1.heap.objs.size + 4, s1.heap.objs.size + 2, s1.heap.objs.size + 3, s1.heap.objs.size, s1.heap.objs.size + 1] → FpOk X pins H1 c := fun c hcm => by
    have e' : c = s1.heap.objs.size + 4 ∨ c = s1.heap.objs.size + 2 ∨ c = s1.heap.objs.size + 3 ∨ c = s1.heap.objs.size ∨ c = s1.heap.objs.size + 1 := by simpa using hcm
    have hle : s1.heap.objs.size ≤ c := by omega
    exact I1.fpOk hle (I1.hok.fresh hle)
  obtain ⟨its2, rv2, p2, _⟩ := I1.tuple hqy
  obtain ⟨o2, ho2, _⟩ := id p2
  have hblt := Heap.lt_size ho2
  refine zip_begins2 (begins_text x t) (begins_tuple b its2.toArray) trivial (show s1.heap.IsTuple b its2.toArray from p2) fun h' hz hTI hTO h1 h2 hsz hk => wpAny_pyIter_zip hz ?_
  have I2 : Inv X pins σ H1 { s1 with heap := h' } := I1.kept (t' := s1.toks) hk
  have sep := zip_sep2 (N := s1.heap.objs.size) (fp1 := []) (fp2 := [b]) (fun _ q => nomatch q) (fun c q => by
    have e : c = b := by simpa using q
    rw [e]; exact hblt)
  have hty : strIterType x = "str_ascii_iterator" ∨ strIterType x = "str_iterator" := by
    unfold strIterType
    split
    · exact .inl rfl
    · exact .inr rfl
  exact ⟨s1.heap.objs.size + 4, [s1.heap.objs.size + 4, s1.heap.objs.size + 2, s1.heap.objs.size + 3, s1.heap.objs.size, s1.heap.objs.size + 1], _, _, H1, rfl, I2, turn_zipS (x := x) (t := t) hty sep (Nat.ne_of_lt (Nat.lt_succ_of_lt hblt)), ⟨hz, hTI, ⟨_, _, hTO⟩, ⟨_, h1, rfl, rfl⟩, ⟨_, h2, rfl, rfl⟩⟩, fresh5, q⟩
/-- a loop over zip of a text and a tuple of one length -/
theorem for_zipS {K : PySem.W.Frag} {b : Addr} {x : Str} {ys : List V} {g : TG} {tb : TS} {D : Ends} {σ : L2.St} {H : Hp} (hl : x.cps.size = ys.length) (Pv : Nat → L2.St → Hp → Prop) (h0 : Pv 0 σ H) (hq : ∀ i σ H, Pv i σ H → SqT K H b ys)
    (hs : ∀ (i c : Nat) (y : V) (T : Addr) (σ : L2.St) (H : Hp), x.cps[i]? = some c → ys[i]? = some y → Pv i σ H → H T = none → g (.ref T) σ (upd H T (.tup [.str ⟨#[c]⟩, y])) fun σ2 H2 => tb { D with nx := Pv (i + 1), ct := Pv (i + 1), bk := D.nx } σ2 H2) (hd : ∀ σ H, Pv ys.length σ H → D.nx σ H) :
    ∃ W : Nat → Nat → L2.St → Hp → Prop, (∃ m, W 0 m σ H) ∧ ∀ i m σ H, W i m σ H →
      ((ItzS K x b).stop i H ∧ D.nx σ H) ∨ ((ItzS K x b).go i H ∧ ∃ N : L2.St → Hp → Prop, (∀ σ' H', N σ' H' → ∃ m', m' < m ∧ W (i + 1) m' σ' H') ∧ ∀ v H', (ItzS K x b).yld i H v H' → g v σ H' fun σ2 H2 => tb { D with nx := N, ct := N, bk := D.nx } σ2 H2) := by
  refine ⟨fun i m σ H => m = ys.length - i ∧ i ≤ ys.length ∧ Pv i σ H, ⟨ys.length, rfl, Nat.zero_le _, h0⟩, ?_⟩
  rintro i m σ H ⟨rfl, hi, p⟩
  have qy := hq i σ H p
  by_cases hlt : i < ys.length
  · have hy : ys[i]? = some ys[i] := List.getElem?_eq_getElem hlt
    have hx : x.cps[i]? = some (x.cps[i]'(by omega)) := Array.getElem?_eq_getElem _
    refine .inr ⟨⟨ys, _, _, qy, hx, hy, by omega, hi⟩, Pv (i + 1), fun σ' H' p' => ⟨ys.length - (i + 1), by omega, rfl, hlt, p'⟩, fun v H' y => ?_⟩
    obtain ⟨T, c, y', rfl, hT, rfl, f1, f2⟩ := y
    exact hs i c y' T σ H f1 (f2 ys qy) p hT
  · have e : i = ys.length := by omega
    subst e
    exact .inl ⟨⟨ys, qy, by omega, Nat.le_refl _, .inr rfl⟩, hd σ H p⟩
end L2
namespace L2
namespace TS
open PySem PySem.Spec PyProof.Rows
/-! ### the set of the texts of a tuple: how many they are -/
/-- how many different ones are among the first i -/
def dist (xs : List Str) : Nat → Nat
  | 0 => 0
  | i + 1 => if (xs.take i).any (· == xs.getD i Str.empty) = true then dist xs i else dist xs i + 1
theorem dist_succ (xs : List Str) (i : Nat) : (if (xs.take i).any (· == xs.getD i Str.empty) = true then dist xs i else dist xs i + 1) = dist xs (i + 1) := rfl
theorem dist_le (xs : List Str) : ∀ i, dist xs i ≤ i
  | 0 => Nat.le_refl _
  | i + 1 => by
    unfold dist
    have := dist_le xs i
    split <;> omega
theorem take_one {α : Type} : ∀ {l : List α} {i : Nat} {x : α}, l[i]? = some x → l.take (i + 1) = l.take i ++ [x]
  | [], i, x, h => by simp at h
  | a :: l, 0, x, h => by
    have e : a = x := Option.some.inj h
    subst e
    rfl
  | a :: l, i + 1, x, h => by
    have ih := take_one (l := l) (i := i) (x := x) h
    show a :: l.take (i + 1) = a :: l.take i ++ [x]
    rw [ih]
    rfl
section
variable {prog : Program} {w : World} {A : Around} {R : Result → Shared → Prop} {I : Addr} {fp wr : List Addr} {G : Array GenState → Array GenState → Prop} {n : Nat} {P : Nat → Value → Prop} {St : Nat → Shared → Prop}
theorem loop_strs (W : WalksS prog w A.in1 I fp wr G n P St) (S : Addr) (hSf : S ∉ fp) (xs : List Str) (hsz : xs.length = n) (hn1 : n < 1000)
    (hval : ∀ i v, P i v → ∃ t, v = .str (xs.getD i Str.empty) t) :
    ∀ (k i : Nat) (s : Shared), n - i = k → i ≤ n → St i s →
      s.heap.SetOf (PySem.strKind prog w) S (fun k' => (xs.take i).any (· == k')) (dist xs i) →
      (∀ s', Moved (S :: wr) G s s' → s'.heap.SetOf (PySem.strKind prog w) S (fun k' => (xs.take n).any (· == k')) (dist xs n) → R (.ok (.ret .none)) s') →
      codeAny (model prog w) A (.builtin "set.update.loop" ⟨[.ref S, .ref I], []⟩) R s := by
  have hSw : S ∉ wr := fun h => hSf (W.sub _ h)
  have hsub : ∀ b ∈ wr, b ∈ S :: wr := fun b hb => List.mem_cons_of_mem _ hb
  intro k
  induction k with
  | zero =>
    intro i s hk hi hst hS hR
    have hin : i = n := by omega
    subst hin
    refine codeAny_builtin PyProof.Rows.F.entry_set_update_loop ?_
    rw [Around.under_plainId PyProof.Rows.F.plain_set_update_loop _]
    show wpAny _ A.in1 (pyNext (.ref I) >>= _) _ _ s
    refine wpAny_bind (W.done s _ _ hst fun s' hm => ?_)
    show wpAny _ A.in1 (ret Value.none) _ _ s'
    exact wpAny_pure (hR s' (hm.mono hsub) (by
      obtain ⟨o, es, ep, t, ho, rest⟩ := hS
      exact ⟨o, es, ep, t, hm.heap S _ hSw ho, rest⟩))
  | succ k ih =>
    intro i s hk hi hst hS hR
    have hlt : i < n := by omega
    have hdi := dist_le xs i
    refine codeAny_builtin PyProof.Rows.F.entry_set_update_loop ?_
    rw [Around.under_plainId PyProof.Rows.F.plain_set_update_loop _]
    show wpAny _ A.in1 (pyNext (.ref I) >>= _) _ _ s
    refine wpAny_bind (W.item i s _ _ hlt hst fun v s' hP hst' hm => ?_)
    obtain ⟨t, rfl⟩ := hval i v hP
    have hS' : s'.heap.SetOf (PySem.strKind prog w) S (fun k' => (xs.take i).any (· == k')) (dist xs i) := by
      obtain ⟨o, es, ep, tb, ho, rest⟩ := hS
      exact ⟨o, es, ep, tb, hm.heap S _ hSw ho, rest⟩
    show wpAny _ A.in1 (holding [Value.str (xs.getD i Str.empty) t] (setAdd S (.str (xs.getD i Str.empty) t)) >>= _) _ _ s'
    refine wpAny_bind (wpAny_holding ?_)
    unfold setAdd
    refine wpAny_holding ?_
    refine wpAny_bind ((PySem.strKind prog w).pyHash (k := xs.getD i Str.empty) (strKind_is _ _ _ _) ?_)
    refine wpAny_setAddHashed_of (knd := PySem.strKind prog w) (s := { s' with toks := s'.toks + 1 }) (strKind_is _ _ _ _) rfl hS' (by unfold scanBound; omega) fun h' hsb hS2 => ?_
    have hSi : h'.SetOf (PySem.strKind prog w) S (fun k' => (xs.take (i + 1)).any (· == k')) (dist xs (i + 1)) := by
      have hix : xs[i]? = some (xs.getD i Str.empty) := by
        rw [List.getD_eq_getElem?_getD, List.getElem?_eq_getElem (by omega)]
        rfl
      refine PyProof.Rows.SetOf_congr hS2 (fun k' => ?_) (dist_succ xs i)
      rw [take_one hix, List.any_append]
      congr 1
      by_cases e : k' = xs.getD i Str.empty
      · rw [e]; simp
      · have hb : (xs.getD i Str.empty == k') = false := by simpa [beq_iff_eq] using (fun h' : xs.getD i Str.empty = k' => e h'.symm)
        simp only [List.any_cons, List.any_nil, hb, Bool.or_false]
        exact decide_eq_false e
    refine wpAny_pure ⟨plainId_quiet PyProof.Rows.F.plain_set_update_loop _, ih (i + 1) _ (by omega) hlt (W.frame _ s' _ _ hst' (Nat.le_succ _) fun b hb o e => ?_) hSi fun s'' hm'' hS'' => ?_⟩
    · rw [hsb.2 b (fun h : b = S => hSf (by rw [← h]; exact hb))]; exact e
    · refine hR s'' (Moved.trans W.gtrans ((hm.mono hsub).then_heap (Nat.le_succ _) fun b o hb e => ?_) hm'') hS''
      rw [hsb.2 b (fun h : b = S => hb (by rw [h]; exact List.mem_cons_self))]; exact e
end
section
variable {prog : Program} {w : World} {A : Around} {E : Value → Shared → Prop} {s : Shared}
theorem call_set_strs {l : Addr} {items : Array Value} {xs : List Str} {Q : Value → Shared → Prop}
    (hh : A.handled = none) (hl : s.heap.IsTuple l items) (hi : PyProof.Rows.StrsAre items.toList xs) (hn1 : xs.length < 1000)
    (h : ∀ (h' : Heap) (tk : Nat), h'.SetOf (PySem.strKind prog w) s.heap.objs.size (fun k' => (xs.take items.size).any (· == k')) (dist xs items.size) →
      (∀ b o, b < s.heap.objs.size → s.heap.get? b = some o → h'.get? b = some o) → Q (.ref s.heap.objs.size) { s with heap := h', toks := tk }) :
    wpAny (model prog w) A (call (.type "set") [.ref l]) Q E s := by
  obtain ⟨c, tl, hmro⟩ := PySem.F.called_set.mro
  have hmade := PySem.F.called_set.made
  have hsub := PySem.F.called_set.sub
  refine wpAny_call (codeAny_of_tree ?_)
  show wpAny _ _ (callAny (.type "set") _) _ _ _
  refine wpAny_pure ⟨Code.quiet_builtin _ (by decide +kernel), codeAny_builtin PySem.F.entry_type_call ?_⟩
  rw [Around.under_plain (weight_type_call_type "set" [.ref l] []) rfl]
  have h1 := PySem.F.called_set.notType
  have h2 := PySem.F.called_set.canCreate
  have hct := PySem.F.typeCall_set_1 (.ref l)
  repeat (any_goals (first | assumption | wp_step))

  refine codeAny_mono (code_set_new_1 (.ref l) (E := E) (Q₁ := fun obj s₁ => ∃ led : Bool, obj = .ref s.heap.objs.size ∧ s₁ = { s with heap := s.heap.push { cls := .type "set", dict := none, data := .set #[] 0 (.fresh 0 0 led) } }) fun led => ⟨led, rfl, rfl⟩) fun r s₁ hr => ?_
  cases r with
  | error e => exact hr
  | ok fl =>
    cases fl with
    | ret obj =>
      obtain ⟨led, rfl, rfl⟩ := hr
      have hS : (s.heap.push { cls := .type "set", dict := none, data := .set #[] 0 (.fresh 0 0 led) }).get? s.heap.objs.size = some { cls := .type "set", dict := none, data := .set #[] 0 (.fresh 0 0 led) } := Heap.get?_push_size _ rfl
      have hT : Shared.TypeIs { s with heap := s.heap.push { cls := .type "set", dict := none, data := .set #[] 0 (.fresh 0 0 led) } } (.ref s.heap.objs.size) "set" := ⟨_, hS, rfl⟩
      have hli := PySem.F.called_set.init.lookup
      have hbi := PySem.F.called_set.init.bind (.ref s.heap.objs.size)
      repeat (any_goals (first | assumption | wp_step))

      refine codeAny_mono (codeAny_call_builtin (R := wants (fun r s₂ => r = .none ∧ ∃ h' tk, s₂ = { s with heap := h', toks := tk } ∧
          h'.SetOf (PySem.strKind prog w) s.heap.objs.size (fun k' => (xs.take items.size).any (· == k')) (dist xs items.size) ∧
          (∀ b o, b < s.heap.objs.size → s.heap.get? b = some o → h'.get? b = some o)) E) PySem.F.called_set.init.plain PySem.F.entry_set_init (check_set_init_1 hT ?_)) fun r₂ s₂ hr₂ => ?_
      · obtain ⟨ol, hol, hcl, nl, hdl⟩ := hl
        obtain ⟨ocls, odict, odata, oslots⟩ := ol
        simp only at hcl hdl
        subst hcl; subst hdl
        have hol' : (s.heap.push { cls := .type "set", dict := none, data := .set #[] 0 (.fresh 0 0 led) }).get? l = some { cls := .type "tuple", dict := odict, data := .seq items nl, slots := oslots } := Heap.get?_push_of_some _ hol
        have hsls := PySem.F.sub_tuple_set
        have hslf := PySem.F.sub_tuple_frozenset
        have hne : (Value.type "tuple" == Value.type "dict") = false := by decide
        have hl1 : (s.heap.push { cls := .type "set", dict := none, data := .set #[] 0 (.fresh 0 0 led) }).IsTuple l items := ⟨_, hol', rfl, nl, rfl⟩
        unfold Builtin.«set.__init__» noKeywords Builtin.Frozenset.updateFrom
        generalize hPI : pyIter = PI
        wp_walk
        subst hPI

        refine wpAny_pyIter_tuple hl1 ?_
        refine wpAny_bind (wpAny_runValue ?_)
        have hlS : l < s.heap.objs.size := Heap.lt_size hol
        have hh3 : A.in1.in1.in1.handled = none := by simp [hh]
        have hneI : l ≠ (s.heap.push { cls := .type "set", dict := none, data := .set #[] 0 (.fresh 0 0 led) }).objs.size := by
          rw [Heap.size_push]; exact Nat.ne_of_lt (Nat.lt_succ_of_lt hlS)
        have hSf : s.heap.objs.size ∉ [(s.heap.push { cls := .type "set", dict := none, data := .set #[] 0 (.fresh 0 0 led) }).objs.size, l] := by
          rw [Heap.size_push]; simp only [List.mem_cons, List.mem_singleton, List.not_mem_nil, or_false, not_or]
          exact ⟨Nat.ne_of_lt (Nat.lt_succ_self _), Nat.ne_of_gt hlS⟩
        have hsz : xs.length = items.size := by rw [← StrsAre.len_eq hi, Array.length_toList]
        have hval : ∀ (i : Nat) (v : Value), items[i]? = some v → ∃ t, v = .str (xs.getD i Str.empty) t := fun i v hv => SS.strs_at hi i v (by rw [Array.getElem?_toList]; exact hv)
        refine loop_strs ((Walks.tuple hh3 _ l hneI items).toS) s.heap.objs.size
          hSf xs hsz (by rw [← hsz]; exact hn1) hval (items.size - 0) 0 _ (by omega) (Nat.zero_le _)
          ⟨⟨_, Heap.get?_push_size _ rfl, rfl, rfl⟩, (hl1.push _)⟩ ?hS0 ?hR
        case hS0 =>
          have hget : ((s.heap.push { cls := .type "set", dict := none, data := .set #[] 0 (.fresh 0 0 led) }).push { cls := .type "tuple_iterator", data := .fields #[.ref l, .int 0 0] }).get? s.heap.objs.size
              = some { cls := .type "set", dict := none, data := .set #[] 0 (.fresh 0 0 led) } := Heap.get?_push_of_some _ hS
          exact PyProof.Rows.SetOf_congr ((PyProof.Rows.setObjOf_fresh (knd := PySem.strKind prog w) led).setOf hget (by unfold scanBound; omega)) (fun _ => rfl) rfl
        case hR =>
          intro s' hm hS'
          obtain ⟨h', g', d', tk', os'⟩ := s'
          have eg : g' = s.gens := hm.gens
          have ed : d' = s.drawn := hm.drawn
          have eo : os' = s.os := hm.os
          subst eg; subst ed; subst eo
          show wpAny _ _ _ _ _ _
          refine wpAny_pure ?_
          show wpAny _ _ (ret Value.none) _ _ _
          refine wpAny_pure ⟨rfl, h', tk', rfl, hS', fun b o hb e => ?_⟩
          have hb1 : b ≠ s.heap.objs.size := Nat.ne_of_lt hb
          have hb2 : b ≠ (s.heap.push { cls := .type "set", dict := none, data := .set #[] 0 (.fresh 0 0 led) }).objs.size := by
            rw [Heap.size_push]; exact Nat.ne_of_lt (Nat.lt_succ_of_lt hb)
          exact hm.heap b o (by simp only [List.mem_cons, List.mem_singleton, List.not_mem_nil, or_false, not_or]; exact ⟨hb1, hb2⟩) (Heap.get?_push_of_some _ (Heap.get?_push_of_some _ e))

      · cases r₂ with
        | error e => exact hr₂
        | ok fl₂ =>
          cases fl₂ with
          | ret r =>
            obtain ⟨rfl, h', tk, rfl, hS', hk'⟩ := hr₂
            repeat (any_goals (first | assumption | wp_step))
            exact h _ _ hS' hk'
          | _ => exact hr₂.elim
    | _ => exact hr.elim

end
/-- all are different exactly if none is left out -/
theorem dist_full (xs : List Str) : ∀ i, i ≤ xs.length → (dist xs i = i ↔ (xs.take i).Nodup)
  | 0, _ => by simp [dist]
  | i + 1, h => by
    have ih := dist_full xs i (by omega)
    have le := dist_le xs i
    have hix : xs[i]? = some (xs.getD i Str.empty) := by
      rw [List.getD_eq_getElem?_getD, List.getElem?_eq_getElem (by omega)]
      rfl
    rw [take_one hix, List.nodup_append]
    unfold dist
    by_cases e : (xs.take i).any (· == xs.getD i Str.empty) = true
    · rw [if_pos e]
      constructor
      · intro q; omega
      · rintro ⟨_, _, q⟩
        obtain ⟨y, hy, ey⟩ := List.any_eq_true.mp e
        exact absurd (beq_iff_eq.mp ey) (q y hy _ (by simp))
    · rw [if_neg e]
      constructor
      · intro q
        refine ⟨ih.mp (by omega), by simp, fun y hy z hz => ?_⟩
        have hz' : z = xs.getD i Str.empty := by simpa using hz
        rw [hz']
        intro ey
        exact e (List.any_eq_true.mpr ⟨y, hy, by simp [ey]⟩)
      · rintro ⟨q, _, _⟩
        rw [ih.mpr q]
end TS
open PySem in
/-- len(set(t)), t a tuple of texts -/
def tLenSetS (K : PySem.W.Frag) (ta : TE) : TE := fun σ H Q => ta σ H fun x H1 => ∃ (l : Addr) (xs : List Str), x = .ref l ∧ SqT K H1 l (xs.map V.str) ∧ xs.length < 1000 ∧ Q (.int (TS.dist xs xs.length : Nat)) H1
open PySem PySem.Spec PyProof.Rows in
theorem pe_lenSetS {X : Cx} {a : Expr} {ta : TE} {p p2 q pos : Pos} (hg : Gl X "len") (hm : X.mg "len" = none) (hg2 : Gl X "set") (hm2 : X.mg "set" = none) (ha : PE X a ta) (hc : X.calm = true := by rfl)
    (na : starEach [a] X.env = (false, eval a X.env) :: starEach [] X.env := by rfl) : PE X (.Call (.Name "len" p) [.Call (.Name "set" p2) [a] [] q] [] pos) (tLenSetS X.K ta) := by
  refine ⟨fun pins s σ H Q I h => ?_⟩
  refine Call_ (ld_blt I hg hm PySem.boot_len ?_)
  refine PyProof.Rows.callWith_builtin1 (PyProof.Rows.args_cons ?_ rfl) rfl rfl
  refine Call_ (ld_blt I hg2 hm2 PyProof.Rows.boot_set ?_)
  refine PyProof.Rows.callWith_type1 (PyProof.Rows.args_cons (thn (ha.run pins s σ H _ I h) fun v s1 ⟨x, H1, I1, r1, q1⟩ => PyProof.Rows.args_nil ?_) na) na rfl
  obtain ⟨l, xs, rfl, hq, h1, q1⟩ := q1
  cases r1
  obtain ⟨its, r, pl, hz⟩ := I1.tuple hq
  have hl : its.toArray.size = xs.length := by rw [List.size_toArray, ← r.length, List.length_map]
  refine TS.call_set_strs (I1.ok.hd hc) pl (by simpa using strsAre_of r) h1 fun h' tk hS hk => ?_
  refine PyProof.Rows.args_nil ?_
  rw [hl] at hS
  obtain ⟨o, es, ep, t, ho, hex, hd, _, _, _, hf, hn⟩ := hS
  have I2 : Inv X pins σ H1 { s1 with heap := h', toks := tk } := I1.kept fun b o e => hk b o (Heap.lt_size e) e
  have hdl := TS.dist_le xs xs.length
  exact call_len_set ho hex hd hf (by rw [hn] <;> omega) ⟨.int (TS.dist xs xs.length : Nat), H1, I2.tok _, ⟨_, by rw [hn]⟩, q1⟩
end L2
namespace L2
open PySem PySem.Spec PyProof.Rows
/-! ### a table of the written part, its keys texts -/
/-- the entries, key by key -/
def Ents (P : Params) : List DictEntry → List (Str × V) → Prop
  | [], [] => True
  | e :: r, (k, v) :: t => (∃ tk, e.key = .str k tk ∧ e.hash = PyData.keyHash P k) ∧ RelV v e.val ∧ Ents P r t
  | _, _ => False
/-- at a: the table tab -/
def WTab (K : PySem.W.Frag) (w : World) (a : Addr) (tab : List (Str × V)) : Prop :=
  ∃ es n, K.lookup a = some ⟨.type "dict", none, .dict es n, #[]⟩ ∧ Ents w.params es.toList tab ∧ (a == sysModules) = false
theorem Ents.lit {P : Params} : ∀ {es : List DictEntry} {tab : List (Str × V)}, Ents P es tab → PySem.W.KeysLit P es
  | [], [], _ => trivial
  | e :: r, (k, v) :: t, ⟨⟨tk, h1, h2⟩, _, h3⟩ => ⟨⟨k, tk, h1, h2⟩, h3.lit⟩
theorem Ents.noRef {P : Params} : ∀ {es : List DictEntry} {tab : List (Str × V)}, Ents P es tab → es.any (·.refKey) = false
  | [], [], _ => rfl
  | e :: r, (k, v) :: t, ⟨⟨tk, h1, _⟩, _, h3⟩ => by
    rw [List.any_cons, h3.noRef, Bool.or_false]
    unfold DictEntry.refKey
    rw [h1]
theorem Ents.find {P : Params} (z : Str) : ∀ {es : List DictEntry} {tab : List (Str × V)}, Ents P es tab → RelO (tab.lookup z) ((es.find? (·.key.isStr z)).map (·.val))
  | [], [], _ => trivial
  | e :: r, (k, v) :: t, ⟨⟨tk, h1, _⟩, h2, h3⟩ => by
    rw [List.find?_cons]
    by_cases q : z = k
    · have e1 : e.key.isStr z = true := by rw [h1, q]; exact (by show (k == k) = true; simp)
      have e2 : ((k, v) :: t).lookup z = some v := by rw [q]; simp [List.lookup]
      rw [e1, e2]
      exact h2
    · have e1 : e.key.isStr z = false := by
        rw [h1]
        show (k == z) = false
        simpa using fun h : k = z => q h.symm
      have e2 : ((k, v) :: t).lookup z = t.lookup z := by
        have : (z == k) = false := by simpa using q
        simp [List.lookup, this]
      rw [e1, e2]
      exact h3.find z
theorem WTab.ns {K : PySem.W.Frag} {w : World} {a : Addr} {tab : List (Str × V)} (T : WTab K w a tab) (z : Str) : ∃ r, PySem.W.nsIn K a z = some r ∧ RelO (tab.lookup z) r := by
  obtain ⟨es, n, hl, he, _⟩ := T
  have f := he.find z
  unfold PySem.W.nsIn
  rw [hl]
  show ∃ r, (match es.toList.find? (·.key.isStr z) with | some e => some (some e.val) | none => if es.toList.any (·.refKey) then none else some none) = some r ∧ _
  cases q : es.toList.find? (·.key.isStr z) with
  | some e =>
    rw [q] at f
    exact ⟨_, rfl, f⟩
  | none =>
    rw [q] at f
    exact ⟨none, by rw [he.noRef]; rfl, f⟩
/-- t[k], the key is there -/
def rIxW (K : PySem.W.Frag) (w : World) : R2 := fun x y H Q => ∃ p z tab v, x = .ref p ∧ y = .str z ∧ WTab K w p tab ∧ tab.lookup z = some v ∧ Q v H
def rNotInW (K : PySem.W.Frag) (w : World) : R2 := fun x y H Q => ∃ p z tab, x = .str z ∧ y = .ref p ∧ WTab K w p tab ∧ Q (.bl (!(tab.lookup z).isSome)) H
def rInW (K : PySem.W.Frag) (w : World) : R2 := fun x y H Q => ∃ p z tab, x = .str z ∧ y = .ref p ∧ WTab K w p tab ∧ Q (.bl (tab.lookup z).isSome) H
theorem RelO.isSome {a : Option V} {b : Option Value} (h : RelO a b) : b.isSome = a.isSome := by
  cases a <;> cases b <;> first | rfl | exact h.elim
section
variable {X : Cx}
theorem ix_wtab : IxR X (rIxW X.K X.w) := by
  intro value slice pins s σ H x y v u Q I rx ry h hs
  obtain ⟨p, z, tab, r, rfl, rfl, T, hlk, q⟩ := h
  obtain ⟨o, e, rel⟩ := T.ns z
  obtain ⟨es, n, hl, he, _⟩ := T
  rw [hlk] at rel
  cases o with
  | none => exact rel.elim
  | some u0 => exact ix_kdict value slice pins s σ H _ _ v u Q I rx ry ⟨p, z, r, rfl, rfl, ⟨es, n, u0, hl, he.lit, e, rel⟩, q⟩ hs
theorem op_notIn_wtab : OpR X (compareOp .NotIn) (rNotInW X.K X.w) := by
  intro pins s σ H x y v u Q I rx ry h
  obtain ⟨p, z, tab, rfl, rfl, T, q⟩ := h
  obtain ⟨o, e, rel⟩ := T.ns z
  obtain ⟨es, n, hl, he, lo⟩ := T
  obtain ⟨t, rfl⟩ := rx
  obtain rfl : u = Value.ref p := ry
  have hm := PySem.W.mapOf_K (prog := X.prog) (w := X.w) I.kIn hl he.lit
  refine wpAny_notIn_of (strKind_is X.prog X.w z t) lo hm ?_
  rw [PySem.W.find_K hl e, rel.isSome]
  exact ⟨.bl _, H, I.tok _, rfl, q⟩
theorem op_in_wtab : OpR X (compareOp .In) (rInW X.K X.w) := by
  intro pins s σ H x y v u Q I rx ry h
  obtain ⟨p, z, tab, rfl, rfl, T, q⟩ := h
  obtain ⟨o, e, rel⟩ := T.ns z
  obtain ⟨es, n, hl, he, lo⟩ := T
  obtain ⟨t, rfl⟩ := rx
  obtain rfl : u = Value.ref p := ry
  have hm := PySem.W.mapOf_K (prog := X.prog) (w := X.w) I.kIn hl he.lit
  refine wpAny_in_of (strKind_is X.prog X.w z t) lo hm ?_
  rw [PySem.W.find_K hl e, rel.isSome]
  exact ⟨.bl _, H, I.tok _, rfl, q⟩
end
/-! ### a method by its name, with its promise -/
def Mcal (P : Program) (w : World) (K : PySem.W.Frag) (mg : Str → Option Value) (base : Heap) (CX : CXT) (k : Nat) (C : Addr) (m : Str) (ps : List Str) (sp : Sp) : Prop :=
  ∃ (f : Addr) (fd : FuncData), Meth K C m f ∧ Binds K fd ps [] ∧ FnOk P w K mg base CX k f fd ps sp
theorem pe_mcal {X : Cx} {CX : CXT} {k : Nat} {C : Addr} {m : Str} {ps : List Str} {sp : Sp} {E : XK} {apos pos : Pos} {o e : Expr} {es : List Expr} {ta : TE} {t : TA} (ho : PE X o ta) (c : Cls X.K C) (M : Mcal X.prog X.w X.K X.mg X.base CX k C m ps sp) (hr : Room k X.A) (hx : Passes CX X E) (ha : PA X (e :: es) t)
    {pl : Sem Bool} (hc : eval (.Call (.Attribute o m apos) (e :: es) [] pos) X.env = (do
      let ov ← eval o X.env
      standAt apos.atName
      let (f, first) ← holding [ov] (getMethod ov m pl)
      callWith pos f first (backTo pos (starEach (e :: es) X.env)) (backToKw pos (keywordEach [] X.env))) := by rfl)
    (he : starEach (e :: es) X.env = (false, eval e X.env) :: starEach es X.env := by rfl) (hpl : (backTo pos (starEach es X.env)).any (·.1) = false := by rfl) :
    PE X (.Call (.Attribute o m apos) (e :: es) [] pos) (tMeth C m sp [] E ta t) := by
  obtain ⟨f, fd, h1, h2, h3⟩ := M
  exact pe_meth ho c h1 h3 hr h2 .nil hx ha he hpl hc
theorem pe_mcal0 {X : Cx} {CX : CXT} {k : Nat} {C : Addr} {m : Str} {ps : List Str} {sp : Sp} {E : XK} {apos pos : Pos} {o : Expr} {ta : TE} (ho : PE X o ta) (c : Cls X.K C) (M : Mcal X.prog X.w X.K X.mg X.base CX k C m ps sp) (hr : Room k X.A) (hx : Passes CX X E)
    {pl : Sem Bool} (hc : eval (.Call (.Attribute o m apos) [] [] pos) X.env = (do
      let ov ← eval o X.env
      standAt apos.atName
      let (f, first) ← holding [ov] (getMethod ov m pl)
      callWith pos f first (backTo pos (starEach [] X.env)) (backToKw pos (keywordEach [] X.env))) := by rfl) :
    PE X (.Call (.Attribute o m apos) [] [] pos) (tMeth C m sp [] E ta tNil) := by
  obtain ⟨f, fd, h1, h2, h3⟩ := M
  exact pe_meth0 ho c h1 h3 hr h2 .nil hx hc
end L2
/-! HK: the head of a long top by one kernel run, with own facts read off the tree. -/
namespace Hk
open PySem PySem.Spec PyProof.Rows L2
abbrev Fg : Type := PySem.W.Frag
def frAs {α : Type} : List Nat → (List Nat → α) → α
  | [], k => k []
  | a :: r, k => HandSHeadRun.frNat a fun a => frAs r fun r => k (a :: r)
theorem frAs_eq {α : Type} : ∀ (l : List Nat) (k : List Nat → α), frAs l k = k l
  | [], _ => rfl
  | a :: r, k => by
    show (HandSHeadRun.frNat a fun a => frAs r fun r => k (a :: r)) = _
    rw [HandSHeadRun.frNat_eq, frAs_eq r]
def frK {α : Type} : List (Addr × Obj) → (List (Addr × Obj) → α) → α
  | [], k => k []
  | (a, ⟨c, d, dt, sl⟩) :: r, k => HandSHeadRun.frNat a fun a => frK r fun r => k ((a, ⟨c, d, dt, sl⟩) :: r)
theorem frK_eq {α : Type} : ∀ (l : List (Addr × Obj)) (k : List (Addr × Obj) → α), frK l k = k l
  | [], _ => rfl
  | (a, ⟨c, d, dt, sl⟩) :: r, k => by
    show (HandSHeadRun.frNat a fun a => frK r fun r => k ((a, ⟨c, d, dt, sl⟩) :: r)) = _
    rw [HandSHeadRun.frNat_eq, frK_eq r]
/-! ### what is looked at -/
section
variable (g : Addr → Option Obj)
def gAt (ns : Addr) (x : Str) : Addr := match g ns with
  | some ⟨_, _, .dict es _, _⟩ => (match es.toList.find? (·.key.isStr x) with
    | some e => (match e.val with
      | .ref a => a
      | _ => 0)
    | none => 0)
  | _ => 0
def nsG (C : Addr) : Addr := match g C with
  | some ⟨_, _, .cls cd, _⟩ => cd.ns
  | _ => 0
def valsG (D : Addr) : List Addr := match g D with
  | some ⟨_, _, .dict es _, _⟩ => D :: es.toList.flatMap fun e => He.refV e.val
  | _ => [D]
def fnG (f : Addr) : List Addr := match g f with
  | some ⟨_, _, .func fd, _⟩ => f :: (He.refV fd.code ++ ((He.refV fd.kwdefaults).flatMap (valsG g) ++ (He.refV fd.defaults ++ fd.closure.map (·.2))))
  | _ => [f]
end
inductive Tgt where
  | obj (x : Str)
  | fn (x : Str)
  | cls (C : Str) (ms : List Str)
def Tgt.as (g : Addr → Option Obj) : Tgt → List Addr
  | .obj x => [gAt g mainGlobals x]
  | .fn x => HandSHeadRun.frNat (gAt g mainGlobals x) (fnG g)
  | .cls C ms => HandSHeadRun.frNat (gAt g mainGlobals C) fun c => HandSHeadRun.frNat (nsG g c) fun n => c :: n :: ms.flatMap fun m => HandSHeadRun.frNat (gAt g n m) (fnG g)
def asG (ts : List Tgt) (g : Addr → Option Obj) : List Addr := mainGlobals :: cStatics :: ts.flatMap (Tgt.as g)
/-! ### addresses by names, off the written part -/
section
variable (K : Fg)
def kwA (f : Addr) : Addr := match K.lookup f with
  | some ⟨_, _, .func fd, _⟩ => (match fd.kwdefaults with
    | .ref d => d
    | _ => 0)
  | _ => 0
def nsA (d : Addr) (x : Str) : Addr := match PySem.W.nsIn K d x with
  | some (some (.ref a)) => a
  | _ => 0
end
/-! ### functions -/
abbrev FnO : Type := Option (Str × Str × Arguments × FuncBody × Scope × Addr × List Str × Addr)
def fnO (K : Fg) (a : Addr) : FnO := match K.lookup a with
  | some ⟨_, _, .func fd, _⟩ => some (fd.name, fd.qualname, fd.params, fd.body, fd.scope, fd.globals, fd.closure.map (·.1), fd.builtins)
  | _ => none
structure Df where
  at_ : Fg → Addr
  name : Str
  qual : Str
  st : Stmt
  clo : List Str := []
def Df.val (d : Df) : FnO := some (d.name, d.qual, defArgs d.st, .stmts (defBody d.st), defScope d.st, mainGlobals, d.clo, builtinsNs)
def isNone : Value → Bool
  | .none => true
  | _ => false
theorem isNone_eq {v : Value} (h : isNone v = true) : v = .none := by
  cases v <;> first | rfl | cases h
def fnB (a : Fg → Addr) (qual : Str) (K : Fg) : Bool := PySem.W.keepIn K (.ref (a K)) && (match K.lookup (a K) with
  | some ⟨_, _, .func fd, _⟩ => PySem.W.codeIn K fd.code qual && isNone fd.defaults
  | _ => false)
theorem fn_fd {K : Fg} {a : Addr} {d : Df} (e : fnO K a = d.val) : ∃ oc od fd sl, K.lookup a = some ⟨oc, od, .func fd, sl⟩ ∧ fd.name = d.name ∧ fd.qualname = d.qual ∧ fd.params = defArgs d.st ∧ fd.body = .stmts (defBody d.st) ∧ fd.scope = defScope d.st ∧ fd.globals = mainGlobals ∧ fd.closure.map (·.1) = d.clo ∧ fd.builtins = builtinsNs := by
  unfold fnO at e
  cases q : K.lookup a with
  | none =>
    rw [q] at e
    cases e
  | some o =>
    obtain ⟨oc, od, dt, osl⟩ := o
    rw [q] at e
    cases dt with
    | func fd =>
      have e2 : (some (fd.name, fd.qualname, fd.params, fd.body, fd.scope, fd.globals, fd.closure.map (·.1), fd.builtins) : FnO) = some (d.name, d.qual, defArgs d.st, .stmts (defBody d.st), defScope d.st, mainGlobals, d.clo, builtinsNs) := e
      simp only [Option.some.injEq, Prod.mk.injEq] at e2
      obtain ⟨h1, h2, h3, h4, h5, h6, h7, h8⟩ := e2
      exact ⟨oc, od, fd, osl, rfl, h1, h2, h3, h4, h5, h6, h7, h8⟩
    | _ => cases e
theorem fn_ok {K : Fg} {d : Df} (hc : d.clo = []) (e : fnO K (d.at_ K) = d.val) (c : fnB d.at_ d.qual K = true) : ∃ (xo xk xc xp xe xt : Value) (xd xa : Option Addr) (xs : Array (Option Value)),
    K.lookup (d.at_ K) = some ⟨xo, xd, .func (PySem.W.fnOf d.name d.qual (defArgs d.st) (defBody d.st) (defScope d.st) .none xk xc xp xa xe xt), xs⟩ ∧ PySem.W.codeIn K xe d.qual = true ∧ PySem.W.keepIn K (.ref (d.at_ K)) = true ∧ (∀ D, kwA K (d.at_ K) = D → (D == 0) = false → xk = .ref D) := by
  obtain ⟨oc, od, fd, sl, q, h1, h2, h3, h4, h5, h6, h7, h8⟩ := fn_fd e
  obtain ⟨c1, c2⟩ := He.ba c
  rw [q] at c2
  have c3 : (PySem.W.codeIn K fd.code d.qual && isNone fd.defaults) = true := c2
  obtain ⟨c4, c5⟩ := He.ba c3
  obtain ⟨n1, n2, n3, n4, n5, n6, n7, n8, n9, n10, n11, n12, n13, n14, n15⟩ := fd
  dsimp only at h1 h2 h3 h4 h5 h6 h7 h8 c4 c5
  have h9 := isNone_eq c5
  rw [hc] at h7
  have h10 : n7 = [] := List.map_eq_nil_iff.mp h7
  subst h1 h2 h3 h4 h5 h6 h8 h9 h10
  refine ⟨oc, n9, n10, n11, n13, n14, od, n12, sl, q, c4, c1, fun D hD hz => ?_⟩
  clear c2 c3
  cases n9 with
  | ref a =>
    have e : a = D := by
      unfold kwA at hD
      rw [q] at hD
      exact hD
    rw [e]
  | _ =>
    have e : 0 = D := by
      unfold kwA at hD
      rw [q] at hD
      exact hD
    subst e
    cases hz
/-! ### tables of texts -/
def entO (e : DictEntry) : Option (Str × Int × Str) := match e.key, e.val with
  | .str k _, .str v _ => some (k, e.hash, v)
  | _, _ => none
abbrev TbO : Type := Option (List (Option (Str × Int × Str)))
def tabO (K : Fg) (a : Addr) : TbO := match K.lookup a with
  | some ⟨.type c, none, .dict es _, sl⟩ => (match decide (c = "dict") && (sl.isEmpty && !(a == sysModules)) with
    | true => some (es.toList.map entO)
    | false => none)
  | _ => none
structure Tb where
  at_ : Fg → Addr
  tab : List (Str × Str)
def Tb.val (t : Tb) (P : Params) : TbO := some (t.tab.map fun p => some (p.1, PyData.keyHash P p.1, p.2))
theorem ents_of {P : Params} : ∀ {l : List DictEntry} {tab : List (Str × Str)}, l.map entO = tab.map (fun p => some (p.1, PyData.keyHash P p.1, p.2)) → L2.Ents P l (tab.map fun p => (p.1, V.str p.2))
  | [], [], _ => trivial
  | [], _ :: _, h => by cases h
  | _ :: _, [], h => by cases h
  | e :: r, (k, v) :: t, h => by
    have h1 : entO e :: r.map entO = some (k, PyData.keyHash P k, v) :: t.map (fun p => some (p.1, PyData.keyHash P p.1, p.2)) := h
    injection h1 with h2 h3
    obtain ⟨ek, eh, ev⟩ := e
    unfold entO at h2
    split at h2
    · rename_i x tk y tv q1 q2
      dsimp only at q1 q2
      injection h2 with h4
      simp only [Prod.mk.injEq] at h4
      obtain ⟨h5, h6, h7⟩ := h4
      subst h5 h7 q1 q2
      exact ⟨⟨tk, rfl, h6⟩, ⟨tv, rfl⟩, ents_of h3⟩
    · cases h2
theorem tab_ok {K : Fg} {P : Params} {t : Tb} (h : tabO K (t.at_ K) = t.val P) : ∃ es n, K.lookup (t.at_ K) = some ⟨.type "dict", none, .dict es n, #[]⟩ ∧ L2.Ents P es.toList (t.tab.map fun p => (p.1, V.str p.2)) ∧ (t.at_ K == sysModules) = false := by
  unfold tabO at h
  cases q : K.lookup (t.at_ K) with
  | none =>
    rw [q] at h
    cases h
  | some o =>
    obtain ⟨oc, od, dt, osl⟩ := o
    rw [q] at h
    cases oc with
    | type c =>
      cases od with
      | none =>
        cases dt with
        | dict es n =>
          have h1 : (match decide (c = "dict") && (osl.isEmpty && !(t.at_ K == sysModules)) with
            | true => some (es.toList.map entO)
            | false => none) = t.val P := h
          cases z : decide (c = "dict") && (osl.isEmpty && !(t.at_ K == sysModules)) with
          | false =>
            rw [z] at h1
            cases h1
          | true =>
            rw [z] at h1
            obtain ⟨z1, z2⟩ := He.ba z
            obtain ⟨z3, z4⟩ := He.ba z2
            have e1 : c = "dict" := of_decide_eq_true z1
            have e2 : osl = #[] := Array.isEmpty_iff.mp z3
            have e3 : (t.at_ K == sysModules) = false := by
              cases y : t.at_ K == sysModules with
              | false => rfl
              | true =>
                rw [y] at z4
                cases z4
            subst e1 e2
            exact ⟨es, n, rfl, ents_of (Option.some.inj h1), e3⟩
        | _ => cases h
      | some b => cases dt <;> cases h
    | _ => cases od <;> cases dt <;> cases h
/-! ### tuples of texts -/
def txts : List Value → Option (List Str)
  | [] => some []
  | .str x _ :: r => (txts r).map (x :: ·)
  | _ => none
def tupB (a : Fg → Addr) (xs : List Str) (K : Fg) : Bool := match K.lookup (a K) with
  | some ⟨.type c, _, .seq its _, _⟩ => decide (c = "tuple") && (decide (its.size ≤ sizeLine) && decide (txts its.toList = some xs))
  | _ => false
theorem txts_ok : ∀ {l : List Value} {xs : List Str}, txts l = some xs → Vals (xs.map V.str) l
  | [], xs, h => by
    cases h
    exact .nil
  | v :: r, xs, h => by
    cases v with
    | str x t =>
      have h1 : (txts r).map (x :: ·) = some xs := h
      cases q : txts r with
      | none =>
        rw [q] at h1
        cases h1
      | some ys =>
        rw [q] at h1
        cases h1
        exact .cons ⟨t, rfl⟩ (txts_ok q)
    | _ => cases h
theorem tup_ok {K : Fg} {a : Fg → Addr} {xs : List Str} (h : tupB a xs K = true) (H : Hp) : SqT K H (a K) (xs.map V.str) := by
  unfold tupB at h
  cases q : K.lookup (a K) with
  | none =>
    rw [q] at h
    cases h
  | some o =>
    obtain ⟨oc, od, dt, osl⟩ := o
    rw [q] at h
    cases oc with
    | type c =>
      cases dt with
      | seq its n =>
        obtain ⟨h1, h2⟩ := He.ba (show (decide (c = "tuple") && (decide (its.size ≤ sizeLine) && decide (txts its.toList = some xs))) = true from h)
        obtain ⟨h3, h4⟩ := He.ba h2
        exact .inr ⟨_, its, n, q, congrArg Value.type (of_decide_eq_true h1), rfl, of_decide_eq_true h3, txts_ok (of_decide_eq_true h4)⟩
      | _ => cases h
    | _ => cases dt <;> cases h
/-! ### constants -/
def intB (x : Str) (i : Int) (K : Fg) : Bool := match PySem.W.nsIn K mainGlobals x with
  | some (some (.int j _)) => decide (j = i)
  | _ => false
def strB (x z : Str) (K : Fg) : Bool := match PySem.W.nsIn K mainGlobals x with
  | some (some (.str y _)) => decide (y = z)
  | _ => false
theorem int_ok {K : Fg} {x : Str} {i : Int} (c : intB x i K = true) : ∃ t, PySem.W.nsIn K mainGlobals x = some (some (.int i t)) := by
  unfold intB at c
  cases e : PySem.W.nsIn K mainGlobals x with
  | none =>
    rw [e] at c
    cases c
  | some o =>
    rw [e] at c
    cases o with
    | none => cases c
    | some v =>
      cases v with
      | int j t => exact ⟨t, by rw [of_decide_eq_true c]⟩
      | _ => cases c
theorem str_ok {K : Fg} {x z : Str} (c : strB x z K = true) : ∃ t, PySem.W.nsIn K mainGlobals x = some (some (.str z t)) := by
  unfold strB at c
  cases e : PySem.W.nsIn K mainGlobals x with
  | none =>
    rw [e] at c
    cases c
  | some o =>
    rw [e] at c
    cases o with
    | none => cases c
    | some v =>
      cases v with
      | str j t => exact ⟨t, by rw [of_decide_eq_true c]⟩
      | _ => cases c
/-! ### own exceptions -/
def excB (C : Fg → Addr) (tl : Fg → List Value) (K : Fg) : Bool := match K.lookup (C K) with
  | some ⟨.type t, _, .cls cd, sl⟩ => (match cd.mro, sl.toList with
    | .ref C' :: bm, [_, _, _, _, some (.builtin n), _] => decide (t = "type") && (decide (C' = C K) && (decide (n = "LookupError.__new__") && (!cd.hasDel && (cd.hasDict && decide (bm = tl K)))))
    | _, _ => false)
  | _ => false
theorem exc_ok {K : Fg} {C : Fg → Addr} {tl : Fg → List Value} (q : excB C tl K = true) : ∃ (nm qn : Str) (N : Addr) (bs : List Value) (sn : List Str) (sub : List Value) (ab : Bool) (col : Option Bool) (dd : Option Addr) (k0 k1 k2 k3 k5 : Option Value),
    K.lookup (C K) = some (excClassObj nm qn (C K) N bs (tl K) true sn sub ab col dd k0 k1 k2 k3 k5 "LookupError.__new__") := by
  unfold excB at q
  split at q
  · rename_i t dd cd sl ho
    split at q
    · rename_i C' bm k0 k1 k2 k3 n k5 hm hs
      obtain ⟨q1, q⟩ := He.ba q
      obtain ⟨q2, q⟩ := He.ba q
      obtain ⟨q3, q⟩ := He.ba q
      obtain ⟨q4, q⟩ := He.ba q
      obtain ⟨q5, q6⟩ := He.ba q
      have e1 := of_decide_eq_true q1
      have e2 := of_decide_eq_true q2
      have e3 := of_decide_eq_true q3
      have e6 := of_decide_eq_true q6
      obtain ⟨nm, bs, mro, ns, qn, hd, sn, sub, ab, col, del⟩ := cd
      dsimp only at hm q4 q5
      have e4 : del = false := by cases del <;> first | rfl | cases q4
      subst hm e4 q5 e1 e3
      have hsl : sl = #[k0, k1, k2, k3, some (.builtin "LookupError.__new__"), k5] := by
        obtain ⟨l⟩ := sl
        simp only at hs
        rw [hs]
      subst hsl
      rw [← e6]
      rw [e2] at ho
      exact ⟨nm, qn, ns, bs, sn, sub, ab, col, dd, k0, k1, k2, k3, k5, ho⟩
    · cases q
  · cases q
def fileB (file : Str) (K : Fg) (cd : Addr) : Bool := match K.lookup cd with
  | some ⟨_, _, .fields vs, _⟩ => (match vs[2]? with
    | some (Value.str f _) => file == f
    | _ => false)
  | _ => false
def cellB (K : Fg) (cc C : Addr) : Bool := match K.lookup cc with
  | some ⟨_, _, .cell (some (.ref c)), _⟩ => decide (c = C)
  | _ => false
def xfB (file : Str) (C fI : Fg → Addr) (qual : Str) (K : Fg) : Bool := match K.lookup (fI K) with
  | some ⟨_, _, .func fd, _⟩ => isNone fd.defaults && (match fd.closure, fd.code with
    | [(_, cc)], .ref cd => PySem.W.codeIn K (.ref cd) qual && (cellB K cc (C K) && fileB file K cd)
    | _, _ => false)
  | _ => false
theorem cellB_ok {K : Fg} {cc C : Addr} (h : cellB K cc C = true) : ∃ cl cld csl, K.lookup cc = some ⟨cl, cld, .cell (some (.ref C)), csl⟩ := by
  unfold cellB at h
  split at h
  · rename_i a b c d q
    rw [of_decide_eq_true h] at q
    exact ⟨_, _, _, q⟩
  · cases h
theorem fileB_ok {K : Fg} {file : Str} {cd : Addr} (h : fileB file K cd = true) : ∃ ccl cdd vs ccs fl tf, K.lookup cd = some ⟨ccl, cdd, .fields vs, ccs⟩ ∧ vs[2]? = some (.str fl tf) ∧ (file == fl) = true := by
  unfold fileB at h
  split at h
  · rename_i a b vs c q
    split at h
    · rename_i f t q2
      exact ⟨_, _, _, _, _, _, q, q2, h⟩
    · cases h
  · cases h
theorem xf_ok {K : Fg} {file : Str} {C : Fg → Addr} {d : Df} (hc : d.clo = [("__class__" : Str)]) (hn : d.name = "__init__") (e : fnO K (d.at_ K) = d.val) (c : xfB file C d.at_ d.qual K = true) :
    ∃ (oc kV dc pm ct ccl cll : Value) (od an cdd cld : Option Addr) (cd cc : Addr) (sl ccs csl : Array (Option Value)) (vs : Array Value) (fl : Str) (tf : Tok),
      K.lookup (d.at_ K) = some ⟨oc, od, .func (PySem.W.ksFn "__init__" d.qual (defArgs d.st) (defBody d.st) (defScope d.st) .none kV dc pm an (.ref cd) ct cc), sl⟩ ∧ PySem.W.codeIn K (.ref cd) d.qual = true ∧
      K.lookup cc = some ⟨cll, cld, .cell (some (.ref (C K))), csl⟩ ∧ K.lookup cd = some ⟨ccl, cdd, .fields vs, ccs⟩ ∧ vs[2]? = some (.str fl tf) ∧ (file == fl) = true := by
  obtain ⟨oc, od, fd, sl, q, h1, h2, h3, h4, h5, h6, h7, h8⟩ := fn_fd e
  unfold xfB at c
  rw [q] at c
  obtain ⟨c1, c2⟩ := He.ba (show (isNone fd.defaults && (match fd.closure, fd.code with
    | [(_, cc)], .ref cd => PySem.W.codeIn K (.ref cd) d.qual && (cellB K cc (C K) && fileB file K cd)
    | _, _ => false)) = true from c)
  obtain ⟨n1, n2, n3, n4, n5, n6, n7, n8, n9, n10, n11, n12, n13, n14, n15⟩ := fd
  dsimp only at h1 h2 h3 h4 h5 h6 h7 h8 c1 c2
  have h9 := isNone_eq c1
  split at c2
  · rename_i nm cc cd
    obtain ⟨c3, c4⟩ := He.ba c2
    obtain ⟨c5, c6⟩ := He.ba c4
    rw [hc] at h7
    rw [hn] at h1
    have h10 : nm = ("__class__" : Str) := by
      have h11 : [nm] = [("__class__" : Str)] := h7
      injection h11
    obtain ⟨cl, cld, csl, p1⟩ := cellB_ok c5
    obtain ⟨ccl, cdd, vs, ccs, fl, tf, p2, p3, p4⟩ := fileB_ok c6
    subst h1 h2 h3 h4 h5 h6 h8 h9 h10
    exact ⟨oc, n9, n10, n11, n14, ccl, cl, od, n12, cdd, cld, cd, cc, sl, ccs, csl, vs, fl, tf, q, c3, p1, p2, p3, p4⟩
  · cases c2
/-! ### the Hook -/
abbrev Al : Type := Bool × List FnO × List TbO
structure Ask where
  ts : List Tgt
  fs : List (List (Fg → Bool))
  ds : List Df
  tb : List Tb
def Ask.obs (q : Ask) (K : Fg) : Al := (q.fs.all fun b => b.all fun f => f K, q.ds.map fun d => fnO K (d.at_ K), q.tb.map fun t => tabO K (t.at_ K))
def Ask.val (q : Ask) (w : World) : Al := (true, q.ds.map Df.val, q.tb.map fun t => t.val w.params)
def Ask.look (q : Ask) (g : Addr → Option Obj) : Al := frAs (asG q.ts g) fun as => frK (He.frG g as) q.obs
theorem Ask.look_eq (q : Ask) (g : Addr → Option Obj) : q.look g = q.obs (He.frG g (asG q.ts g)) := by
  unfold Ask.look
  rw [frAs_eq, frK_eq]
def Ask.says (q : Ask) (w : World) (K : Fg) : Prop := q.obs K = q.val w
def hook (q : Ask) : PySem.W.Hook where
  α := Al
  obs := fun s => q.look s.heap.get?
  val := fun w => q.val w
  says := fun w h => ∃ K : PySem.W.Frag, K.In h ∧ q.says w K
  of := fun _ _ e => ⟨_, He.frG_in, (q.look_eq _).symm.trans e⟩
  keeps := fun _ _ _ ⟨K, hK, c⟩ k => ⟨K, PySem.W.Frag.In.keeps hK k, c⟩
def ob (q : Ask) (s : PySem.W.SharedT) : Al := q.look (HandSHeadRun.getT s)
theorem ob_eq (q : Ask) (s : PySem.W.SharedT) : ob q s = (hook q).obs s.abs := by
  have e : HandSHeadRun.getT s = s.abs.heap.get? := funext (HandSHeadRun.getT_eq s)
  unfold ob
  rw [e]
  rfl
section
variable {q : Ask} {w : World} {K : Fg}
theorem Ask.says.fact (c : q.says w K) (i j : Nat) {b : List (Fg → Bool)} {f : Fg → Bool} (h : q.fs[i]? = some b := by rfl) (h2 : b[j]? = some f := by rfl) : f K = true := by
  have c1 : (q.fs.all fun b => b.all fun f => f K) = true := congrArg (fun z : Al => z.1) c
  exact List.all_eq_true.mp (List.all_eq_true.mp c1 b (List.mem_of_getElem? h)) f (List.mem_of_getElem? h2)
theorem Ask.says.fn (c : q.says w K) (i : Nat) {d : Df} (h : q.ds[i]? = some d := by rfl) : fnO K (d.at_ K) = d.val := by
  have e : q.ds.map (fun d => fnO K (d.at_ K)) = q.ds.map Df.val := congrArg (fun z : Al => z.2.1) c
  have e2 : (q.ds.map fun d => fnO K (d.at_ K))[i]? = (q.ds.map Df.val)[i]? := by rw [e]
  rw [List.getElem?_map, List.getElem?_map, h] at e2
  exact Option.some.inj e2
theorem Ask.says.tab (c : q.says w K) (i : Nat) {t : Tb} (h : q.tb[i]? = some t := by rfl) : tabO K (t.at_ K) = t.val w.params := by
  have e : q.tb.map (fun t => tabO K (t.at_ K)) = q.tb.map fun t => t.val w.params := congrArg (fun z : Al => z.2.2) c
  have e2 : (q.tb.map fun t => tabO K (t.at_ K))[i]? = (q.tb.map fun t => t.val w.params)[i]? := by rw [e]
  rw [List.getElem?_map, List.getElem?_map, h] at e2
  exact Option.some.inj e2
end
end Hk
namespace Op
open PySem L2
abbrev PP : Program := PySem.Challenge.pw_openruns_k12_well_formed_histories
def top (i : Nat) : Stmt := PySem.Challenge.pw_openruns_k12_well_formed_histories.main.body.getD i (.Pass ⟨0, 0, 0, 0⟩)
abbrev s__wall : Stmt := top 0
abbrev s_InvalidProgram___init__ : Stmt := inClass (top 4) 0
abbrev s_InvalidHistory___init__ : Stmt := inClass (top 5) 0
abbrev s_InvalidArgument___init__ : Stmt := inClass (top 6) 0
abbrev s_InvalidNote___init__ : Stmt := inClass (top 7) 0
abbrev s_Falls___init__ : Stmt := inClass (top 9) 0
abbrev s_Breaks___init__ : Stmt := inClass (top 10) 0
abbrev s_is_integer : Stmt := top 20
abbrev s_is_word : Stmt := top 21
abbrev s_are_words : Stmt := top 22
abbrev s_same : Stmt := top 23
abbrev s_same_items : Stmt := top 24
abbrev s_check_notes : Stmt := top 25
abbrev s_inner_lists : Stmt := top 26
abbrev s_with_lists : Stmt := top 27
abbrev s_copy_row : Stmt := top 28
abbrev s_copy_rows : Stmt := top 29
abbrev s_checked_asks : Stmt := top 30
abbrev s_is_box : Stmt := top 31
abbrev s_checked_signals : Stmt := top 32
abbrev s_checked_inputs : Stmt := top 33
abbrev s_RowCheck___init__ : Stmt := inClass (top 34) 0
abbrev s_RowCheck_check : Stmt := inClass (top 34) 1
abbrev s_RowCheck_check_sizes : Stmt := inClass (top 34) 2
abbrev s_RowCheck_check_list : Stmt := inClass (top 34) 3
abbrev s_RowCheck_fits : Stmt := inClass (top 34) 4
abbrev s_RowCheck_id_fits : Stmt := inClass (top 34) 5
abbrev s_RowCheck_part_fits : Stmt := inClass (top 34) 6
abbrev s_RowCheck_collect : Stmt := inClass (top 34) 7
abbrev s_is_branches : Stmt := top 35
abbrev s_has_form : Stmt := top 41
abbrev s_is_outer : Stmt := top 42
abbrev s_suits_things : Stmt := top 43
abbrev s_enter_token : Stmt := top 44
abbrev s_check_tokens : Stmt := top 45
abbrev s_split_turns : Stmt := top 46
abbrev s_renamed : Stmt := top 47
abbrev s_turn_by_age : Stmt := top 48
abbrev s_turn_by_number : Stmt := top 49
abbrev s_Told___init__ : Stmt := inClass (top 51) 0
abbrev s_Told_write : Stmt := inClass (top 51) 1
abbrev s_Told_noted_word : Stmt := inClass (top 51) 2
abbrev s_Told_mark : Stmt := inClass (top 51) 3
abbrev s_Told_pass_mark : Stmt := inClass (top 51) 4
abbrev s_Told_finish : Stmt := inClass (top 51) 5
abbrev s_Replayed___init__ : Stmt := inClass (top 52) 0
abbrev s_Replayed_due : Stmt := inClass (top 52) 1
abbrev s_Replayed_write : Stmt := inClass (top 52) 2
abbrev s_Replayed_noted_word : Stmt := inClass (top 52) 3
abbrev s_Replayed_mark : Stmt := inClass (top 52) 4
abbrev s_Replayed_pass_mark : Stmt := inClass (top 52) 5
abbrev s_Replayed_finish : Stmt := inClass (top 52) 6
abbrev s_State___init__ : Stmt := inClass (top 54) 0
abbrev s_State_copied : Stmt := inClass (top 54) 1
abbrev s_State_is_free : Stmt := inClass (top 54) 2
abbrev s_State_done_word : Stmt := inClass (top 54) 3
abbrev s_State_earliest : Stmt := inClass (top 54) 4
abbrev s_State_set_free : Stmt := inClass (top 54) 5
abbrev s_State_label_rows : Stmt := inClass (top 54) 6
abbrev s_standing_of : Stmt := top 55
abbrev s_behind : Stmt := top 59
abbrev s_Turn___init__ : Stmt := inClass (top 60) 0
abbrev s_Turn_count : Stmt := inClass (top 60) 1
abbrev s_Turn_complete : Stmt := inClass (top 60) 2
abbrev s_Turn_drop : Stmt := inClass (top 60) 3
abbrev s_Turn_can_pass : Stmt := inClass (top 60) 4
abbrev s_Turn_pass_wait : Stmt := inClass (top 60) 5
abbrev s_Turn_first_ready : Stmt := inClass (top 60) 6
abbrev s_Turn_close_list : Stmt := inClass (top 60) 7
abbrev s_do_start : Stmt := top 61
abbrev s_do_await : Stmt := top 62
abbrev s_do_first : Stmt := top 63
abbrev s_do_wait : Stmt := top 64
abbrev s_do_drop : Stmt := top 65
abbrev s_do_note : Stmt := top 66
abbrev s_do_put : Stmt := top 67
abbrev s_do_if : Stmt := top 68
abbrev s_do_inner : Stmt := top 69
abbrev s_do_leave : Stmt := top 70
abbrev s_do_gate : Stmt := top 71
abbrev s_do_past : Stmt := top 72
abbrev s_do_end : Stmt := top 73
abbrev s_do_row : Stmt := top 75
abbrev s_go_on : Stmt := top 76
abbrev s_perform : Stmt := top 77
abbrev s_token_fault : Stmt := top 78
abbrev s_read_onto : Stmt := top 79
abbrev s_outer_of_state : Stmt := top 80
abbrev s_Program___init__ : Stmt := inClass (top 82) 0
abbrev s_Program_add_rows : Stmt := inClass (top 82) 1
abbrev s_Program___len__ : Stmt := inClass (top 82) 2
abbrev s_Program___eq__ : Stmt := inClass (top 82) 3
abbrev s_Program_rows : Stmt := inClass (top 82) 4
abbrev s_Program_asks : Stmt := inClass (top 82) 5
abbrev s_Program_signals : Stmt := inClass (top 82) 6
abbrev s_Program_inputs : Stmt := inClass (top 82) 7
abbrev s_Program_names : Stmt := inClass (top 82) 8
abbrev s_Program_paths : Stmt := inClass (top 82) 9
abbrev s_Program_row_at : Stmt := inClass (top 82) 10
abbrev s_Program_with_rows : Stmt := inClass (top 82) 11
abbrev s_check_program : Stmt := top 83
abbrev s_Run___init__ : Stmt := inClass (top 85) 0
abbrev s_Run_do_turn : Stmt := inClass (top 85) 1
abbrev s_Run_by_number : Stmt := inClass (top 85) 2
abbrev s_Run_outer : Stmt := inClass (top 85) 3
abbrev s_Run_tell : Stmt := inClass (top 85) 4
abbrev s_Run___call__ : Stmt := inClass (top 85) 5
abbrev s_Run_history : Stmt := inClass (top 85) 6
abbrev s_Run_standing : Stmt := inClass (top 85) 7
abbrev s_Run_fork : Stmt := inClass (top 85) 8
abbrev s_Run_over : Stmt := inClass (top 85) 9
abbrev s_check : Stmt := top 87
abbrev s_cut : Stmt := top 88
abbrev s_Replay___init__ : Stmt := inClass (top 89) 0
abbrev s_replayed : Stmt := top 90
abbrev s_read : Stmt := top 91
abbrev s_good_turns : Stmt := top 92
abbrev s_resume : Stmt := top 93
abbrev s__law_bag : Stmt := top 95
abbrev s__law_draw : Stmt := top 96
abbrev s__law_one : Stmt := top 97
abbrev s__law_words : Stmt := top 98
abbrev s__law_same : Stmt := top 99
abbrev s__law_word : Stmt := top 100
abbrev s__law_token : Stmt := top 101
abbrev s__law_odd : Stmt := top 102
abbrev s__law_fits : Stmt := top 103
abbrev s__law_enter : Stmt := top 104
abbrev s__law_fault : Stmt := top 105
abbrev s__law_told : Stmt := top 106
abbrev s__law_history : Stmt := top 107
abbrev s__law_turns : Stmt := top 108
abbrev s__law_no_program : Stmt := top 109
abbrev s_law : Stmt := top 110
end Op
namespace L2
open PySem PySem.Spec PyProof.Rows
/-! ### a def by its name, with its promise -/
def Cal (P : Program) (w : World) (K : PySem.W.Frag) (mg : Str → Option Value) (base : Heap) (CX : CXT) (k : Nat) (x : Str) (ps : List Str) (sp : Sp) : Prop :=
  ∃ (f : Addr) (fd : FuncData), mg x = some (.ref f) ∧ PySem.W.keepIn K (.ref f) = true ∧ Binds K fd ps [] ∧ FnOk P w K mg base CX k f fd ps sp
theorem pe_cal {X : Cx} {CX : CXT} {k : Nat} {x : Str} {ps : List Str} {sp : Sp} {E : XK} {p pos : Pos} {e : Expr} {es : List Expr} {t : TA} (c : Cal X.prog X.w X.K X.mg X.base CX k x ps sp) (hr : Room k X.A) (hg : Gl X x) (hx : Passes CX X E) (ha : PA X (e :: es) t)
    (hdb : (x == ("__debug__" : Str)) = false := by decide) (he : starEach (e :: es) X.env = (false, eval e X.env) :: starEach es X.env := by rfl) (hpl : (backTo pos (starEach es X.env)).any (·.1) = false := by rfl) :
    PE X (.Call (.Name x p) (e :: es) [] pos) (tCall sp [] E t) := by
  obtain ⟨f, fd, h1, h2, h3, h4⟩ := c
  exact pe_call h4 hr hg h1 h2 h3 .nil hx ha hdb he hpl
/-! ### data -/
theorem SqL.mono {K : PySem.W.Frag} {H H' : Hp} {a : Addr} {xs : List V} (h : SqL K H a xs) (s : Same H H') : SqL K H' a xs := Evl.ex_l s h
theorem SqT.mono {K : PySem.W.Frag} {H H' : Hp} {a : Addr} {xs : List V} (h : SqT K H a xs) (s : Same H H') : SqT K H' a xs := Evl.ex_t s h
mutual
theorem Dp.mono {K : PySem.W.Frag} {H H' : Hp} (s : Same H H') : ∀ {v : V} {d : PyData}, Dp K H v d → Dp K H' v d
  | _, _, .non => .non
  | _, _, .bl b => .bl b
  | _, _, .int i => .int i
  | _, _, .str x => .str x
  | _, _, .lst h a => .lst (h.mono s) (DpAll.mono s a)
  | _, _, .tup h a => .tup (h.mono s) (DpAll.mono s a)
theorem DpAll.mono {K : PySem.W.Frag} {H H' : Hp} (s : Same H H') : ∀ {vs : List V} {ds : List PyData}, DpAll K H vs ds → DpAll K H' vs ds
  | _, _, .nil => .nil
  | _, _, .cons h a => .cons (Dp.mono s h) (DpAll.mono s a)
end
theorem DpAll.len {K : PySem.W.Frag} {H : Hp} : ∀ {vs : List V} {ds : List PyData}, DpAll K H vs ds → vs.length = ds.length
  | _, _, .nil => rfl
  | _, _, .cons _ a => congrArg Nat.succ a.len
theorem DpAll.get {K : PySem.W.Frag} {H : Hp} : ∀ {vs : List V} {ds : List PyData} {i : Nat} {v : V}, DpAll K H vs ds → vs[i]? = some v → ∃ d, ds[i]? = some d ∧ Dp K H v d
  | _, _, i, _, .nil, h => by simp at h
  | _, _, 0, v, .cons (d := d) h a, e => by
    have e' := Option.some.inj e
    subst e'
    exact ⟨d, rfl, h⟩
  | _, _, i + 1, v, .cons h a, e => a.get (i := i) e
theorem DpAll.drop {K : PySem.W.Frag} {H : Hp} : ∀ {vs : List V} {ds : List PyData} (n : Nat), DpAll K H vs ds → DpAll K H (vs.drop n) (ds.drop n)
  | _, _, 0, h => h
  | _, _, _ + 1, .nil => .nil
  | _, _, n + 1, .cons _ a => DpAll.drop n a
/-- the name of a datum's class -/
def tyN : PyData → String
  | .none => "NoneType"
  | .bool _ => "bool"
  | .int _ => "int"
  | .str _ => "str"
  | .list _ => "list"
  | .tuple _ => "tuple"
  | .dict _ => "dict"
theorem ty_dp {K : PySem.W.Frag} {H : Hp} {v : V} {d : PyData} (h : Dp K H v d) : TyX K H v (.type (tyN d)) := by
  cases h with
  | non => exact .base .non
  | bl b => exact .base (.bl b)
  | int i => exact .base (.int i)
  | str x => exact .base (.str x)
  | lst hs _ => 
    rcases hs with (hs | ⟨o, hs⟩) | hs
    · exact .base (.lst hs)
    · exact .base (.frz hs)
    · obtain ⟨o, its, n, h1, h2, _⟩ := hs
      exact .kList h1 h2
  | tup hs _ => 
    rcases hs with (hs | ⟨o, hs⟩) | hs
    · exact .base (.tup hs)
    · exact .fTuple hs
    · obtain ⟨o, its, n, h1, h2, _⟩ := hs
      exact .kTuple h1 h2
end L2
namespace Op
open PySem L2 PyProof.Rows
theorem ifT {c : Bool} {A B : Prop} (hc : c = true) (h : A) : if c = true then A else B := by
  rw [if_pos hc]
  exact h
theorem ifF {c : Bool} {A B : Prop} (hc : c = false) (h : B) : if c = true then A else B := by
  rw [hc, if_neg Bool.false_ne_true]
  exact h
/-! ### the mirror: words -/
def letters : Str := "abcdefghijklmnopqrstuvwxyz"
def isWordS (x : Str) : Bool := decide (1 ≤ x.length ∧ x.length ≤ 8) && x.cps.toList.all fun c => decide (c ∈ letters.cps.toList)
def isWord : PyData → Bool
  | .str x => isWordS x
  | _ => false
def isStr : PyData → Bool
  | .str _ => true
  | _ => false
def isList : PyData → Bool
  | .list _ => true
  | _ => false
def isTup : PyData → Bool
  | .tuple _ => true
  | _ => false
def isInt : PyData → Bool
  | .int _ => true
  | _ => false
def strOf : PyData → Str
  | .str x => x
  | _ => ""
def areWords (most : Int) : PyData → Bool
  | .tuple ds => decide (1 ≤ ds.length ∧ (ds.length : Int) ≤ most) && (ds.all isWord && decide ((ds.map strOf).Nodup))
  | _ => false
def isBranches : PyData → Bool
  | .tuple ds => decide (2 ≤ ds.length ∧ ds.length ≤ 3) && ds.all isList
  | _ => false
section
variable {K : PySem.W.Frag} {H : Hp}
theorem kit_str (d : PyData) : PySem.W.kitOne K (.type (tyN d)) (.type "str") = some (isStr d) := by
  cases d with
  | none => exact kit_ty (show kitB "NoneType" "str" = some false by decide +kernel)
  | bool _ => exact kit_ty (show kitB "bool" "str" = some false by decide +kernel)
  | int _ => exact kit_ty (show kitB "int" "str" = some false by decide +kernel)
  | str _ => exact kit_ty (show kitB "str" "str" = some true by decide +kernel)
  | list _ => exact kit_ty (show kitB "list" "str" = some false by decide +kernel)
  | tuple _ => exact kit_ty (show kitB "tuple" "str" = some false by decide +kernel)
  | dict _ => exact kit_ty (show kitB "dict" "str" = some false by decide +kernel)
theorem kit_list (d : PyData) : PySem.W.kitOne K (.type (tyN d)) (.type "list") = some (isList d) := by
  cases d with
  | none => exact kit_ty (show kitB "NoneType" "list" = some false by decide +kernel)
  | bool _ => exact kit_ty (show kitB "bool" "list" = some false by decide +kernel)
  | int _ => exact kit_ty (show kitB "int" "list" = some false by decide +kernel)
  | str _ => exact kit_ty (show kitB "str" "list" = some false by decide +kernel)
  | list _ => exact kit_ty (show kitB "list" "list" = some true by decide +kernel)
  | tuple _ => exact kit_ty (show kitB "tuple" "list" = some false by decide +kernel)
  | dict _ => exact kit_ty (show kitB "dict" "list" = some false by decide +kernel)
theorem kit_tuple (d : PyData) : PySem.W.kitOne K (.type (tyN d)) (.type "tuple") = some (isTup d) := by
  cases d with
  | none => exact kit_ty (show kitB "NoneType" "tuple" = some false by decide +kernel)
  | bool _ => exact kit_ty (show kitB "bool" "tuple" = some false by decide +kernel)
  | int _ => exact kit_ty (show kitB "int" "tuple" = some false by decide +kernel)
  | str _ => exact kit_ty (show kitB "str" "tuple" = some false by decide +kernel)
  | list _ => exact kit_ty (show kitB "list" "tuple" = some false by decide +kernel)
  | tuple _ => exact kit_ty (show kitB "tuple" "tuple" = some true by decide +kernel)
  | dict _ => exact kit_ty (show kitB "dict" "tuple" = some false by decide +kernel)
theorem kit_int (d : PyData) : PySem.W.kitOne K (.type (tyN d)) (.type "int") = some (match d with | .int _ => true | .bool _ => true | _ => false) := by
  cases d with
  | none => exact kit_ty (show kitB "NoneType" "int" = some false by decide +kernel)
  | bool _ => exact kit_ty (show kitB "bool" "int" = some true by decide +kernel)
  | int _ => exact kit_ty (show kitB "int" "int" = some true by decide +kernel)
  | str _ => exact kit_ty (show kitB "str" "int" = some false by decide +kernel)
  | list _ => exact kit_ty (show kitB "list" "int" = some false by decide +kernel)
  | tuple _ => exact kit_ty (show kitB "tuple" "int" = some false by decide +kernel)
  | dict _ => exact kit_ty (show kitB "dict" "int" = some false by decide +kernel)
theorem kit_bool (d : PyData) : PySem.W.kitOne K (.type (tyN d)) (.type "bool") = some (match d with | .bool _ => true | _ => false) := by
  cases d with
  | none => exact kit_ty (show kitB "NoneType" "bool" = some false by decide +kernel)
  | bool _ => exact kit_ty (show kitB "bool" "bool" = some true by decide +kernel)
  | int _ => exact kit_ty (show kitB "int" "bool" = some false by decide +kernel)
  | str _ => exact kit_ty (show kitB "str" "bool" = some false by decide +kernel)
  | list _ => exact kit_ty (show kitB "list" "bool" = some false by decide +kernel)
  | tuple _ => exact kit_ty (show kitB "tuple" "bool" = some false by decide +kernel)
  | dict _ => exact kit_ty (show kitB "dict" "bool" = some false by decide +kernel)
theorem kit_dict (d : PyData) : PySem.W.kitOne K (.type (tyN d)) (.type "dict") = some (match d with | .dict _ => true | _ => false) := by
  cases d with
  | none => exact kit_ty (show kitB "NoneType" "dict" = some false by decide +kernel)
  | bool _ => exact kit_ty (show kitB "bool" "dict" = some false by decide +kernel)
  | int _ => exact kit_ty (show kitB "int" "dict" = some false by decide +kernel)
  | str _ => exact kit_ty (show kitB "str" "dict" = some false by decide +kernel)
  | list _ => exact kit_ty (show kitB "list" "dict" = some false by decide +kernel)
  | tuple _ => exact kit_ty (show kitB "tuple" "dict" = some false by decide +kernel)
  | dict _ => exact kit_ty (show kitB "dict" "dict" = some true by decide +kernel)
end
/-- the names of the module and of the machine that are read -/
structure Txt (mg : Str → Option Value) : Prop where
  b_len : mg "len" = none
  b_int : mg "int" = none
  b_bool : mg "bool" = none
  b_str : mg "str" = none
  b_list : mg "list" = none
  b_tuple : mg "tuple" = none
  b_dict : mg "dict" = none
  b_set : mg "set" = none
  b_range : mg "range" = none
  b_zip : mg "zip" = none
  b_enumerate : mg "enumerate" = none
  b_sorted : mg "sorted" = none
  b_isinstance : mg "isinstance" = none
  g_LETTERS : ∃ t, mg "LETTERS" = some (.str letters t)
def spWord (K : PySem.W.Frag) : Sp := fun vs H Q _ => ∃ (v : V) (d : PyData), vs = [v] ∧ Dp K H v d ∧ (∀ x, d = .str x → x.length ≤ 100000) ∧ Q (.bl (isWord d)) H
section
variable {P : Program} {w : World} {K : PySem.W.Frag} {mg : Str → Option Value} {base : Heap} {H : Hp}
theorem chain_le {σ : L2.St} {H : Hp} {Q : VK} {ta tb : TE} {lo hi n : Int} (tl : TE) (h1 : ∀ Q, Q (.int lo) H → ta σ H Q) (h : ∀ Q, Q (.int n) H → tl σ H Q) (h2 : ∀ Q, Q (.int hi) H → tb σ H Q) (q : Q (.bl (decide (lo ≤ n ∧ n ≤ hi))) H) :
    tChain (rI0 fun i j => .bl (decide (i ≤ j))) (rI0 fun i j => .bl (decide (i ≤ j))) ta tl tb σ H Q := by
  refine h1 _ (h _ ⟨_, _, rfl, rfl, _, rfl, ?_⟩)
  by_cases c : lo ≤ n
  · refine ifT (decide_eq_true c) (h2 _ ⟨_, _, rfl, rfl, ?_⟩)
    have e : decide (n ≤ hi) = decide (lo ≤ n ∧ n ≤ hi) := by simp [c]
    show Q (.bl (decide (n ≤ hi))) H
    rw [e]
    exact q
  · refine ifF (decide_eq_false c) ?_
    have e : false = decide (lo ≤ n ∧ n ≤ hi) := by simp [c]
    rw [e]
    exact q
theorem sc_is_word : FnScope ["value", "letter"] ["value"] (defScope s_is_word) := ⟨rfl, rfl, rfl, by decide +kernel, rfl, by decide +kernel, by decide +kernel⟩
theorem ok_is_word {f : Addr} {fd : FuncData} (F : Fun K "is_word" "is_word" s_is_word f fd) (T : Txt mg) : FnOk P w K mg base CX0 1 f fd ["value"] (spWord K) := by
  refine F.ok sc_is_word (fun vs H Q E h => ?_) (fun cdv A outer s H vs Q E hr h => ?_)
  · obtain ⟨v, d, rfl, _⟩ := h
    rfl
  · obtain ⟨v, d, rfl, hd, hl, k⟩ := h
    obtain ⟨tk, hL⟩ := T.g_LETTERS
    refine ⟨_, (pss_cons (ps_if (PW.pt (pw_or (pt_not (pt_val (pe_callB call_isi (by rfl) T.b_isinstance (by decide +kernel) (pa_cons (pv 0) (pa_cons (pe_bltn (v := .ty "str") (by rfl) T.b_str (by decide +kernel) rfl) pa_nil))))) (pw_or1 (pt_not (pt_chain op_le op_le pe_int (pe_callB call_len_str (by rfl) T.b_len (by decide +kernel) (pa_cons (pv 0) pa_nil)) pe_int))))) (pss_one (ps_ret pe_bl)) pss_nil)
      (pss_cons (ps_for PassesOwn.never rfl (pi_str (pv 0)) (pg_name (i := 1) sc_is_word.nd rfl (.inl rfl)) (pss_one (ps_if (pt_cmpR op_notIn_sign (pv 1) (pe_glob (v := .str letters) rfl hL ⟨_, rfl⟩) (by rfl)) (pss_one (ps_ret pe_bl)) pss_nil)))
      (pss_one (ps_ret pe_bl)))), ?_⟩
    refine ⟨_, rfl, v, _, _, _, _, rfl, .ty _, ty_dp hd, kit_str d, _, rfl, ?_⟩
    cases hd with
    | str x =>
      refine ifF rfl ?_
      refine chain_le _ (fun Q q => q) (fun Q q => ⟨_, rfl, x, rfl, Evl.sz_of (hl x rfl), q⟩) (fun Q q => q) ⟨_, rfl, ?_⟩
      by_cases c : (1 : Int) ≤ (x.length : Int) ∧ (x.length : Int) ≤ 8
      · rw [decide_eq_true c]
        refine ifF rfl ?_
        have eL : decide (1 ≤ x.length ∧ x.length ≤ 8) = true := decide_eq_true (by omega)
        refine ⟨_, rfl, x, rfl, for_it walk_str (fun i σ H' => H' = H ∧ (∃ y : Option V, σ = [some (.str x), y]) ∧ (x.cps.toList.take i).all (fun c => decide (c ∈ letters.cps.toList)) = true) ⟨rfl, ⟨none, rfl⟩, rfl⟩ (fun _ _ _ _ _ => trivial) ?_ ?_⟩
        · rintro i v σ H1 H2 hi ⟨rfl, ⟨y, rfl⟩, hp⟩ ⟨rfl, c, hc, rfl⟩
          have hc' : x.cps.toList[i]? = some c := by rw [Array.getElem?_toList]; exact hc
          refine ⟨_, rfl, c, letters, rfl, rfl, _, rfl, ?_⟩
          by_cases m : c ∈ letters.cps.toList
          · rw [decide_eq_true m]
            refine ifF rfl ⟨rfl, ⟨_, rfl⟩, ?_⟩
            rw [TS.take_one hc', List.all_append, hp, List.all_cons, List.all_nil, decide_eq_true m]
            rfl
          · rw [decide_eq_false m]
            refine ifT rfl ?_
            have e : isWord (.str x) = false := by
              show (decide (1 ≤ x.length ∧ x.length ≤ 8) && _) = false
              rw [eL, Bool.true_and]
              refine Bool.eq_false_iff.mpr fun q => ?_
              have := List.all_eq_true.mp q c (List.mem_of_getElem? hc')
              exact m (of_decide_eq_true this)
            rw [e] at k
            exact k
        · rintro σ H1 ⟨rfl, ⟨y, rfl⟩, hp⟩
          have e : isWord (.str x) = true := by
            show (decide (1 ≤ x.length ∧ x.length ≤ 8) && _) = true
            rw [eL, Bool.true_and]
            rw [List.take_of_length_le (by rw [Array.length_toList]; exact Nat.le_refl _)] at hp
            exact hp
          rw [e] at k
          exact k
      · rw [decide_eq_false c]
        refine ifT rfl ?_
        have e : isWord (.str x) = false := by
          show (decide (1 ≤ x.length ∧ x.length ≤ 8) && _) = false
          rw [decide_eq_false (by omega)]
          rfl
        rw [e] at k
        exact k
    | _ => exact ifT rfl k
/-! data that are of a size that is counted -/
mutual
def small : PyData → Bool
  | .str x => decide (x.length ≤ 100000)
  | .list xs => decide (xs.length ≤ 100000) && smalls xs
  | .tuple xs => decide (xs.length ≤ 100000) && smalls xs
  | _ => true
def smalls : List PyData → Bool
  | [] => true
  | x :: r => small x && smalls r
end
theorem smalls_get : ∀ {ds : List PyData} {i : Nat} {d : PyData}, smalls ds = true → ds[i]? = some d → small d = true
  | [], i, d, _, h => by simp at h
  | x :: r, 0, d, h, e => by
    have e' := Option.some.inj e
    subst e'
    exact (Bool.and_eq_true_iff.mp h).1
  | x :: r, i + 1, d, h, e => smalls_get (ds := r) (i := i) (Bool.and_eq_true_iff.mp h).2 e
theorem small_str {x : Str} (h : small (.str x) = true) : x.length ≤ 100000 := of_decide_eq_true h
theorem strs_of : ∀ {ds : List PyData} {xs : List V}, ds.all isWord = true → DpAll K H xs ds → ∃ zs : List Str, ds = zs.map PyData.str ∧ xs = zs.map V.str := by
  intro ds
  induction ds with
  | nil =>
    intro xs _ h
    cases h
    exact ⟨[], rfl, rfl⟩
  | cons d r ih =>
    intro xs h hp
    cases hp with
    | cons hd ha =>
      obtain ⟨h1, h2⟩ := Bool.and_eq_true_iff.mp h
      obtain ⟨zs, e1, e2⟩ := ih h2 ha
      cases hd with
      | str x => exact ⟨x :: zs, by rw [e1]; rfl, by rw [e2]; rfl⟩
      | _ => cases h1
def spAreWords (K : PySem.W.Frag) : Sp := fun vs H Q _ => ∃ (v : V) (d : PyData) (m : Int), vs = [v, .int m] ∧ Dp K H v d ∧ small d = true ∧ m < 100 ∧ Q (.bl (areWords m d)) H
theorem sc_are_words : FnScope ["value", "most", "item"] ["value", "most"] (defScope s_are_words) := ⟨rfl, rfl, rfl, by decide +kernel, rfl, by decide +kernel, by decide +kernel⟩
theorem ok_are_words {f : Addr} {fd : FuncData} (F : Fun K "are_words" "are_words" s_are_words f fd) (T : Txt mg) (c_is_word : Cal P w K mg base CX0 1 "is_word" ["value"] (spWord K)) : FnOk P w K mg base CX0 2 f fd ["value", "most"] (spAreWords K) := by
  refine F.ok sc_are_words (fun vs H Q E h => ?_) (fun cdv A outer s H vs Q E hr h => ?_)
  · obtain ⟨v, d, m, rfl, _⟩ := h
    rfl
  · obtain ⟨v, d, m, rfl, hd, hs, hm, k⟩ := h
    refine ⟨_, (pss_cons (ps_if (PW.pt (pw_or (pt_not (pt_val (pe_callB call_isi (by rfl) T.b_isinstance (by decide +kernel) (pa_cons (pv 0) (pa_cons (pe_bltn (v := .ty "tuple") (by rfl) T.b_tuple (by decide +kernel) rfl) pa_nil))))) (pw_or1 (pt_not (pt_chain op_le op_le pe_int (pe_callB call_len_seq (by rfl) T.b_len (by decide +kernel) (pa_cons (pv 0) pa_nil)) (pv 1)))))) (pss_one (ps_ret pe_bl)) pss_nil)
      (pss_cons (ps_for PassesOwn.never rfl (pi_tup (pv 0)) (pg_name (i := 2) sc_are_words.nd rfl (.inl rfl)) (pss_one (ps_if (pt_not (pt_val (pe_cal c_is_word (hr.mono (by omega)) rfl pass0 (pa_cons (pv 2) pa_nil)))) (pss_one (ps_ret pe_bl)) pss_nil)))
      (pss_one (ps_ret (pe_cmpR op_eq (pe_lenSetS (by rfl) T.b_len (by rfl) T.b_set (pv 0)) (pe_callB call_len_seq (by rfl) T.b_len (by decide +kernel) (pa_cons (pv 0) pa_nil)) (nomark _)))))), ?_⟩
    refine ⟨_, rfl, v, _, _, _, _, rfl, .ty _, ty_dp hd, kit_tuple d, _, rfl, ?_⟩
    cases hd with
    | @tup a xs ds hq ha =>
      refine ifF rfl ?_
      have hlen := ha.len
      refine chain_le _ (fun Q q => q) (fun Q q => ⟨_, rfl, a, xs, rfl, .inr hq, q⟩) (fun Q q => ⟨_, rfl, q⟩) ⟨_, rfl, ?_⟩
      by_cases c : (1 : Int) ≤ (xs.length : Int) ∧ (xs.length : Int) ≤ m
      · rw [decide_eq_true c]
        refine ifF rfl ?_
        have eL : decide (1 ≤ ds.length ∧ (ds.length : Int) ≤ m) = true := decide_eq_true (by omega)
        refine ⟨_, rfl, a, rfl, ⟨_, hq⟩, for_it walk_tup (fun i σ H' => H' = H ∧ (∃ y : Option V, σ = [some (.ref a), some (.int m), y]) ∧ (ds.take i).all isWord = true) ⟨rfl, ⟨none, rfl⟩, rfl⟩ (fun _ _ _ _ p => by rw [p.1]; exact hq) ?_ ?_⟩
        · rintro i x σ H1 H2 hi ⟨rfl, ⟨y, rfl⟩, hp⟩ ⟨rfl, hx⟩
          obtain ⟨d, hd1, hd2⟩ := ha.get hx
          have hsd := smalls_get (Bool.and_eq_true_iff.mp hs).2 hd1
          refine ⟨_, rfl, x, d, rfl, hd2, fun z e => small_str (by rw [← e]; exact hsd), _, rfl, ?_⟩
          by_cases mw : isWord d = true
          · rw [mw]
            refine ifF rfl ⟨rfl, ⟨_, rfl⟩, ?_⟩
            rw [TS.take_one hd1, List.all_append, hp]
            simp [mw]
          · rw [Bool.eq_false_iff.mpr mw]
            refine ifT rfl ?_
            have e : areWords m (.tuple ds) = false := by
              show (decide (1 ≤ ds.length ∧ (ds.length : Int) ≤ m) && (ds.all isWord && _)) = false
              rw [eL, Bool.true_and]
              refine Bool.eq_false_iff.mpr fun q => ?_
              exact mw (List.all_eq_true.mp (Bool.and_eq_true_iff.mp q).1 d (List.mem_of_getElem? hd1))
            rw [e] at k
            exact k
        · rintro σ H1 ⟨rfl, ⟨y, rfl⟩, hp⟩
          rw [List.take_of_length_le (by omega)] at hp
          obtain ⟨zs, rfl, rfl⟩ := strs_of hp ha
          rw [List.length_map] at hlen c
          refine ⟨_, rfl, a, zs, rfl, hq, by omega, _, rfl, a, _, rfl, .inr hq, rfl, ?_⟩
          have e : areWords m (.tuple (zs.map PyData.str)) = decide (V.int (TS.dist zs zs.length : Nat) = V.int ((zs.map V.str).length : Nat)) := by
            show (decide _ && ((zs.map PyData.str).all isWord && decide (((zs.map PyData.str).map strOf).Nodup))) = _
            rw [eL, hp, Bool.true_and, Bool.true_and, List.map_map]
            have e1 : zs.map (strOf ∘ PyData.str) = zs := by
              have : (strOf ∘ PyData.str) = id := by funext z; rfl
              rw [this, List.map_id]
            rw [e1, List.length_map]
            have f := TS.dist_full zs zs.length (Nat.le_refl _)
            rw [List.take_length] at f
            by_cases nd : zs.Nodup
            · rw [decide_eq_true nd, f.mpr nd]; simp
            · rw [decide_eq_false nd]
              refine (decide_eq_false fun q => nd (f.mp ?_)).symm
              have := V.int.inj q
              omega
          rw [e] at k
          exact k
      · rw [decide_eq_false c]
        refine ifT rfl ?_
        have e : areWords m (.tuple ds) = false := by
          show (decide (1 ≤ ds.length ∧ (ds.length : Int) ≤ m) && _) = false
          rw [decide_eq_false (by omega)]
          rfl
        rw [e] at k
        exact k
    | _ => exact ifT rfl k
def spBr (K : PySem.W.Frag) : Sp := fun vs H Q _ => ∃ (v : V) (d : PyData), vs = [v] ∧ Dp K H v d ∧ Q (.bl (isBranches d)) H
theorem sc_is_branches : FnScope ["value", "rows"] ["value"] (defScope s_is_branches) := ⟨rfl, rfl, rfl, by decide +kernel, rfl, by decide +kernel, by decide +kernel⟩
theorem ok_is_branches {f : Addr} {fd : FuncData} (F : Fun K "is_branches" "is_branches" s_is_branches f fd) (T : Txt mg) : FnOk P w K mg base CX0 1 f fd ["value"] (spBr K) := by
  refine F.ok sc_is_branches (fun vs H Q E h => ?_) (fun cdv A outer s H vs Q E hr h => ?_)
  · obtain ⟨v, d, rfl, _⟩ := h
    rfl
  · obtain ⟨v, d, rfl, hd, k⟩ := h
    refine ⟨_, (pss_cons (ps_if (PW.pt (pw_or (pt_not (pt_val (pe_callB call_isi (by rfl) T.b_isinstance (by decide +kernel) (pa_cons (pv 0) (pa_cons (pe_bltn (v := .ty "tuple") (by rfl) T.b_tuple (by decide +kernel) rfl) pa_nil))))) (pw_or1 (pt_not (pt_chain op_le op_le pe_int (pe_callB call_len_seq (by rfl) T.b_len (by decide +kernel) (pa_cons (pv 0) pa_nil)) pe_int))))) (pss_one (ps_ret pe_bl)) pss_nil)
      (pss_cons (ps_for PassesOwn.never rfl (pi_tup (pv 0)) (pg_name (i := 1) sc_is_branches.nd rfl (.inl rfl)) (pss_one (ps_if (pt_not (pt_val (pe_callB call_isi (by rfl) T.b_isinstance (by decide +kernel) (pa_cons (pv 1) (pa_cons (pe_bltn (v := .ty "list") (by rfl) T.b_list (by decide +kernel) rfl) pa_nil))))) (pss_one (ps_ret pe_bl)) pss_nil)))
      (pss_one (ps_ret pe_bl)))), ?_⟩
    refine ⟨_, rfl, v, _, _, _, _, rfl, .ty _, ty_dp hd, kit_tuple d, _, rfl, ?_⟩
    cases hd with
    | @tup a xs ds hq ha =>
      refine ifF rfl ?_
      have hlen := ha.len
      refine chain_le _ (fun Q q => q) (fun Q q => ⟨_, rfl, a, xs, rfl, .inr hq, q⟩) (fun Q q => q) ⟨_, rfl, ?_⟩
      by_cases c : (2 : Int) ≤ (xs.length : Int) ∧ (xs.length : Int) ≤ 3
      · rw [decide_eq_true c]
        refine ifF rfl ?_
        have eL : decide (2 ≤ ds.length ∧ ds.length ≤ 3) = true := decide_eq_true (by omega)
        refine ⟨_, rfl, a, rfl, ⟨_, hq⟩, for_it walk_tup (fun i σ H' => H' = H ∧ (∃ y : Option V, σ = [some (.ref a), y]) ∧ (ds.take i).all isList = true) ⟨rfl, ⟨none, rfl⟩, rfl⟩ (fun _ _ _ _ p => by rw [p.1]; exact hq) ?_ ?_⟩
        · rintro i x σ H1 H2 hi ⟨rfl, ⟨y, rfl⟩, hp⟩ ⟨rfl, hx⟩
          obtain ⟨d, hd1, hd2⟩ := ha.get hx
          refine ⟨_, rfl, x, _, _, _, _, rfl, .ty _, ty_dp hd2, kit_list d, _, rfl, ?_⟩
          by_cases mw : isList d = true
          · rw [mw]
            refine ifF rfl ⟨rfl, ⟨_, rfl⟩, ?_⟩
            rw [TS.take_one hd1, List.all_append, hp]
            simp [mw]
          · rw [Bool.eq_false_iff.mpr mw]
            refine ifT rfl ?_
            have e : isBranches (.tuple ds) = false := by
              show (decide (2 ≤ ds.length ∧ ds.length ≤ 3) && ds.all isList) = false
              rw [eL, Bool.true_and]
              refine Bool.eq_false_iff.mpr fun q => ?_
              exact mw (List.all_eq_true.mp q d (List.mem_of_getElem? hd1))
            rw [e] at k
            exact k
        · rintro σ H1 ⟨rfl, ⟨y, rfl⟩, hp⟩
          rw [List.take_of_length_le (by omega)] at hp
          have e : isBranches (.tuple ds) = true := by
            show (decide (2 ≤ ds.length ∧ ds.length ≤ 3) && ds.all isList) = true
            rw [eL, hp]
            rfl
          rw [e] at k
          exact k
      · rw [decide_eq_false c]
        refine ifT rfl ?_
        have e : isBranches (.tuple ds) = false := by
          show (decide (2 ≤ ds.length ∧ ds.length ≤ 3) && _) = false
          rw [decide_eq_false (by omega)]
          rfl
        rw [e] at k
        exact k
    | _ => exact ifT rfl k
end
end Op
namespace Op
open PySem L2 PyProof.Rows
/-! ### the mirror: one row -/
structure Chk where
  total : Int
  labels : List Str
  slots : List Str
  gates : List Str
  edits : List Str
/-- what a check knows: asks, signals, whether edit rows may be -/
structure Env0 where
  asks : List Str
  sigs : List Str
  we : Bool
def partFits (E : Env0) (code : Str) (d : PyData) : Bool :=
  if code = "a" then isWord d && decide (strOf d ∈ E.asks)
  else if code = "g" then isWord d && decide (strOf d ∈ E.sigs)
  else if code = "s" then isWord d && !decide (strOf d = "in")
  else if code = "m" ∨ code = "v" then areWords 3 d
  else if code = "b" then isList d
  else if code = "t" then isBranches d
  else isWord d
def idFits (c : Chk) (kind : Str) (parts : List PyData) : Bool :=
  if kind = "edit" then !decide (strOf (parts.headD .none) ∈ c.edits) && !decide (strOf (parts.headD .none) ∈ c.gates)
  else if kind = "gate" ∨ kind = "past" then !decide (strOf (parts.headD .none) ∈ c.edits)
  else true
def shapes : List (Str × Str) := [("ask", "al"), ("timer", "l"), ("await", "ls"), ("first", "ms"), ("drop", "l"), ("take", "gs"), ("note", "sv"), ("put", "sw"), ("if", "rwbb"), ("loop", "b"), ("leave", ""), ("part", "b"), ("both", "t"), ("gate", "ibb"), ("past", "ib"), ("edit", "ibb"), ("end", "r"), ("anew", "r")]
def putW (xs : List Str) (x : Str) : List Str := if x ∈ xs then xs else xs ++ [x]
/-! ### the object -/
structure RcA where
  C : Addr
  a : Addr
  dx : Addr
  ka : Addr
  ks : Addr
  l : Addr
  s : Addr
  g : Addr
  e : Addr
def dkT (xs : List Str) : List (Key × V) := xs.map fun x => (.inr x, .bl true)
theorem valV_dkT (x : Str) : ∀ xs : List Str, (valV (dkT xs) (.inr x)).isSome = decide (x ∈ xs)
  | [] => rfl
  | y :: r => by
    show (valV ((Sum.inr y, V.bl true) :: dkT r) (.inr x)).isSome = _
    by_cases e : y = x
    · rw [valV_pos (by rw [e])]; simp [e]
    · rw [valV_neg (fun q => e (Sum.inr.inj q)), valV_dkT x r]
      simp [Ne.symm e]
theorem dkT_put (xs : List Str) (x : Str) : putK (dkT xs) (.inr x) (.bl true) = dkT (putW xs x) := by
  unfold putW
  by_cases e : x ∈ xs
  · rw [if_pos e]
    unfold putK
    have h : ((dkT xs).any fun kv => decide (kv.1 = Sum.inr x)) = true := by rw [valV_any, valV_dkT]; exact decide_eq_true e
    rw [if_pos h]
    unfold dkT
    rw [List.map_map]
    refine List.map_congr_left fun y _ => ?_
    show (if (Sum.inr y : Key) = Sum.inr x then ((Sum.inr y : Key), V.bl true) else (Sum.inr y, V.bl true)) = _
    split <;> rfl
  · rw [if_neg e, putK_new _ (by
      have h := valV_dkT x xs
      rw [decide_eq_false e] at h
      cases q : valV (dkT xs) (.inr x) with
      | none => rfl
      | some v => rw [q] at h; cases h)]
    unfold dkT
    rw [List.map_append]
    rfl
theorem dkT_len (xs : List Str) : (dkT xs).length = xs.length := List.length_map _
def rcF (A : RcA) (E : Env0) (c : Chk) : List (Str × V) := [("known_asks", .ref A.ka), ("known_signals", .ref A.ks), ("with_edits", .bl E.we), ("total", .int c.total), ("label_words", .ref A.l), ("slot_words", .ref A.s), ("gate_words", .ref A.g), ("edit_words", .ref A.e)]
def Known (H : Hp) (p : Addr) (xs : List Str) : Prop := ∃ kvs, H p = some (.dK kvs) ∧ ∀ x, (valV kvs (.inr x)).isSome = decide (x ∈ xs)
structure RC (H : Hp) (A : RcA) (E : Env0) (c : Chk) : Prop where
  ob : H A.a = some (.ins A.C A.dx (rcF A E c))
  ka : Known H A.ka E.asks
  ks : Known H A.ks E.sigs
  dl : H A.l = some (.dK (dkT c.labels))
  ds : H A.s = some (.dK (dkT c.slots))
  dg : H A.g = some (.dK (dkT c.gates))
  de : H A.e = some (.dK (dkT c.edits))
  nd : [A.ka, A.l, A.s, A.g, A.e].Nodup
  nk : [A.ks, A.l, A.s, A.g, A.e].Nodup
/-- what the class must have -/
structure RcC (K : PySem.W.Frag) (C : Addr) : Prop where
  cls : Cls K C
  n1 : NoAttr K C "known_asks"
  n2 : NoAttr K C "known_signals"
  n3 : NoAttr K C "with_edits"
  n4 : NoAttr K C "total"
  n5 : NoAttr K C "label_words"
  n6 : NoAttr K C "slot_words"
  n7 : NoAttr K C "gate_words"
  n8 : NoAttr K C "edit_words"
mutual
def wt : PyData → Nat
  | .str x => 1 + x.length
  | .list xs => 1 + wts xs
  | .tuple xs => 1 + wts xs
  | _ => 1
def wts : List PyData → Nat
  | [] => 0
  | x :: r => wt x + wts r
end
theorem wt_pos (d : PyData) : 1 ≤ wt d := by cases d <;> unfold wt <;> omega
theorem wts_len : ∀ ds : List PyData, ds.length ≤ wts ds
  | [] => Nat.le_refl _
  | d :: r => by
    have := wts_len r
    have := wt_pos d
    show r.length + 1 ≤ wt d + wts r
    omega
theorem wts_mem {d : PyData} : ∀ {ds : List PyData}, d ∈ ds → wt d ≤ wts ds
  | x :: r, h => by
    show _ ≤ wt x + wts r
    rcases List.mem_cons.mp h with rfl | h
    · omega
    · have := wts_mem h
      omega
mutual
theorem small_of : ∀ d : PyData, wt d ≤ 100000 → small d = true
  | .str x, h => by
    unfold wt at h
    exact decide_eq_true (by omega)
  | .list xs, h => by
    unfold wt at h
    have := wts_len xs
    unfold small
    rw [decide_eq_true (by omega : xs.length ≤ 100000), smalls_of xs (by omega)]
    rfl
  | .tuple xs, h => by
    unfold wt at h
    have := wts_len xs
    unfold small
    rw [decide_eq_true (by omega : xs.length ≤ 100000), smalls_of xs (by omega)]
    rfl
  | .none, _ => by unfold small; rfl
  | .bool _, _ => by unfold small; rfl
  | .int _, _ => by unfold small; rfl
  | .dict _, _ => by unfold small; rfl
theorem smalls_of : ∀ ds : List PyData, wts ds ≤ 100000 → smalls ds = true
  | [], _ => by unfold smalls; rfl
  | d :: r, h => by
    unfold wts at h
    unfold smalls
    rw [small_of d (by omega), smalls_of r (by omega)]
    rfl
end
section
variable {P : Program} {w : World} {K : PySem.W.Frag} {mg : Str → Option Value} {base : Heap}
def spPF (K : PySem.W.Frag) : Sp := fun vs H Q _ => ∃ (A : RcA) (E : Env0) (c : Chk) (x : Str) (v : V) (d : PyData), vs = [.ref A.a, .str x, v] ∧ RC H A E c ∧ RcC K A.C ∧ Dp K H v d ∧ wt d ≤ 100000 ∧ Q (.bl (partFits E x d)) H
theorem dec_strV {x y : Str} : decide (V.str x = V.str y) = decide (x = y) := by
  rw [Bool.eq_iff_iff]
  simp
theorem mono_str {v : V} {d : PyData} {K} {H : Hp} (h : Dp K H v d) (hw : isWord d = true) : v = .str (strOf d) := by
  cases h with
  | str x => rfl
  | _ => cases hw
theorem dget_known {H : Hp} {p : Addr} {kvs : List (Key × V)} {x : Str} (h : H p = some (.dK kvs)) : DGet H p (.str x) (valV kvs (.inr x)) := DGet.k (k := .inr x) h
theorem sc_RowCheck_part_fits : FnScope ["self", "code", "part"] ["self", "code", "part"] (defScope s_RowCheck_part_fits) := ⟨rfl, rfl, rfl, by decide +kernel, rfl, by decide +kernel, by decide +kernel⟩
theorem ok_part_fits {f : Addr} {fd : FuncData} (F : Fun K "part_fits" "RowCheck.part_fits" s_RowCheck_part_fits f fd) (T : Txt mg) (c_is_word : Cal P w K mg base CX0 1 "is_word" ["value"] (spWord K)) (c_are_words : Cal P w K mg base CX0 2 "are_words" ["value", "most"] (spAreWords K)) (c_is_branches : Cal P w K mg base CX0 1 "is_branches" ["value"] (spBr K)) :
    FnOk P w K mg base CX0 3 f fd ["self", "code", "part"] (spPF K) := by
  refine F.ok sc_RowCheck_part_fits (fun vs H Q E h => ?_) (fun cdv A outer s H vs Q E hr h => ?_)
  · obtain ⟨A, E, c, x, v, d, rfl, _⟩ := h
    rfl
  · obtain ⟨R, E0, c, x, v, d, rfl, O, rc, hd, hw, k⟩ := h
    have hu := hu_of hr
    have hs := small_of d hw
    have hsx : ∀ x, d = .str x → x.length ≤ 100000 := fun z e => small_str (by rw [← e]; exact hs)
    obtain ⟨ka, hka, pka⟩ := O.ka
    obtain ⟨ks, hks, pks⟩ := O.ks
    unfold partFits at k
    refine ⟨_, (pss_cons (ps_if (pt_cmpR op_eq (pv 1) pe_str (nomark _)) (pss_one (ps_ret (pe_and (pe_cal c_is_word (hr.mono (by omega)) rfl pass0 (pa_cons (pv 2) pa_nil)) (pe_one (pe_cmp (pc_din hu (pv 2) (pe_fld (pv 0) rfl))))))) pss_nil)
      (pss_cons (ps_if (pt_cmpR op_eq (pv 1) pe_str (nomark _)) (pss_one (ps_ret (pe_and (pe_cal c_is_word (hr.mono (by omega)) rfl pass0 (pa_cons (pv 2) pa_nil)) (pe_one (pe_cmp (pc_din hu (pv 2) (pe_fld (pv 0) rfl))))))) pss_nil)
      (pss_cons (ps_if (pt_cmpR op_eq (pv 1) pe_str (nomark _)) (pss_one (ps_ret (pe_and (pe_cal c_is_word (hr.mono (by omega)) rfl pass0 (pa_cons (pv 2) pa_nil)) (pe_one (pe_cmpR op_ne (pv 2) pe_str (nomark _)))))) pss_nil)
      (pss_cons (ps_if (PW.pt (pw_or (pt_cmpR op_eq (pv 1) pe_str (nomark _)) (pw_or1 (pt_cmpR op_eq (pv 1) pe_str (nomark _))))) (pss_one (ps_ret (pe_cal c_are_words (hr.mono (by omega)) rfl pass0 (pa_cons (pv 2) (pa_cons pe_int pa_nil))))) pss_nil)
      (pss_cons (ps_if (pt_cmpR op_eq (pv 1) pe_str (nomark _)) (pss_one (ps_ret (pe_callB call_isi (by rfl) T.b_isinstance (by decide +kernel) (pa_cons (pv 2) (pa_cons (pe_bltn (v := .ty "list") (by rfl) T.b_list (by decide +kernel) rfl) pa_nil))))) pss_nil)
      (pss_cons (ps_if (pt_cmpR op_eq (pv 1) pe_str (nomark _)) (pss_one (ps_ret (pe_cal c_is_branches (hr.mono (by omega)) rfl pass0 (pa_cons (pv 2) pa_nil)))) pss_nil)
      (pss_one (ps_ret (pe_cal c_is_word (hr.mono (by omega)) rfl pass0 (pa_cons (pv 2) pa_nil)))))))))), ?_⟩
    refine ⟨_, rfl, rfl, _, rfl, ?_⟩
    rw [dec_strV]
    by_cases e1 : x = "a"
    · rw [if_pos e1] at k
      refine ifT (decide_eq_true e1) ⟨_, rfl, v, d, rfl, hd, hsx, _, rfl, ?_⟩
      by_cases q : isWord d = true
      · rw [q] at k
        refine ifT q ?_
        obtain rfl := mono_str hd q
        refine ⟨_, rfl, _, rfl, _, _, _, _, _, rfl, O.ob, rc.cls, rc.n1, rfl, _, _, rfl, dget_known hka, ?_⟩
        rw [pka]
        exact k
      · rw [Bool.eq_false_iff.mpr q] at k
        exact ifF (Bool.eq_false_iff.mpr q) k
    · rw [if_neg e1] at k
      refine ifF (decide_eq_false e1) ⟨_, rfl, rfl, _, rfl, ?_⟩
      rw [dec_strV]
      by_cases e2 : x = "g"
      · rw [if_pos e2] at k
        refine ifT (decide_eq_true e2) ⟨_, rfl, v, d, rfl, hd, hsx, _, rfl, ?_⟩
        by_cases q : isWord d = true
        · rw [q] at k
          refine ifT q ?_
          obtain rfl := mono_str hd q
          refine ⟨_, rfl, _, rfl, _, _, _, _, _, rfl, O.ob, rc.cls, rc.n2, rfl, _, _, rfl, dget_known hks, ?_⟩
          rw [pks]
          exact k
        · rw [Bool.eq_false_iff.mpr q] at k
          exact ifF (Bool.eq_false_iff.mpr q) k
      · rw [if_neg e2] at k
        refine ifF (decide_eq_false e2) ⟨_, rfl, rfl, _, rfl, ?_⟩
        rw [dec_strV]
        by_cases e3 : x = "s"
        · rw [if_pos e3] at k
          refine ifT (decide_eq_true e3) ⟨_, rfl, v, d, rfl, hd, hsx, _, rfl, ?_⟩
          by_cases q : isWord d = true
          · rw [q] at k
            refine ifT q ?_
            obtain rfl := mono_str hd q
            refine ⟨_, rfl, rfl, ?_⟩
            rw [dec_strV]
            exact k
          · rw [Bool.eq_false_iff.mpr q] at k
            exact ifF (Bool.eq_false_iff.mpr q) k
        · rw [if_neg e3] at k
          refine ifF (decide_eq_false e3) ⟨_, rfl, rfl, _, rfl, ?_⟩
          rw [dec_strV]
          by_cases e4 : x = "m" ∨ x = "v"
          · rw [if_pos e4] at k
            by_cases e5 : x = "m"
            · refine ifT (decide_eq_true e5) ?_
              refine ifT rfl ⟨_, rfl, v, d, 3, rfl, hd, hs, by decide, k⟩
            · refine ifF (decide_eq_false e5) ⟨_, rfl, rfl, _, rfl, ?_⟩
              rw [dec_strV]
              refine ifT (decide_eq_true (e4.resolve_left e5)) ⟨_, rfl, v, d, 3, rfl, hd, hs, by decide, k⟩
          · rw [if_neg e4] at k
            refine ifF (decide_eq_false fun h => e4 (.inl h)) ⟨_, rfl, rfl, _, rfl, ?_⟩
            rw [dec_strV]
            refine ifF (decide_eq_false fun h => e4 (.inr h)) ⟨_, rfl, rfl, _, rfl, ?_⟩
            rw [dec_strV]
            by_cases e6 : x = "b"
            · rw [if_pos e6] at k
              exact ifT (decide_eq_true e6) ⟨_, rfl, v, _, _, _, _, rfl, .ty _, ty_dp hd, kit_list d, k⟩
            · rw [if_neg e6] at k
              refine ifF (decide_eq_false e6) ⟨_, rfl, rfl, _, rfl, ?_⟩
              rw [dec_strV]
              by_cases e7 : x = "t"
              · rw [if_pos e7] at k
                exact ifT (decide_eq_true e7) ⟨_, rfl, v, d, rfl, hd, k⟩
              · rw [if_neg e7] at k
                exact ifF (decide_eq_false e7) ⟨_, rfl, v, d, rfl, hd, hsx, k⟩
end
end Op
namespace L2
open PySem PySem.Spec PyProof.Rows
/-! ### frames -/
def seqO : HO → Bool
  | .lst _ => true
  | .tup _ => true
  | .frz _ _ => true
  | _ => false
/-- lists and tuples stay -/
def Kp (H H' : Hp) : Prop := ∀ b o, H b = some o → seqO o = true → H' b = some o
/-- all but those of L stay -/
def Fr (L : List Addr) (H H' : Hp) : Prop := ∀ b o, H b = some o → b ∉ L → H' b = some o
theorem Same.kp {H H' : Hp} (s : Same H H') : Kp H H' := fun b o h _ => s b o h
theorem Same.fr {L : List Addr} {H H' : Hp} (s : Same H H') : Fr L H H' := fun b o h _ => s b o h
theorem Fr.refl {L : List Addr} {H : Hp} : Fr L H H := fun _ _ h _ => h
theorem Fr.trans {L : List Addr} {H H' H'' : Hp} (a : Fr L H H') (b : Fr L H' H'') : Fr L H H'' := fun c o h n => b c o (a c o h n) n
theorem Fr.upd {L : List Addr} {H H' : Hp} {a : Addr} {o : HO} (f : Fr L H H') (h : a ∈ L) : Fr L H (upd H' a o) := fun b u e n => by
  have q : b ≠ a := fun q => n (by rw [q]; exact h)
  rw [L2.upd_ne q]
  exact f b u e n
theorem Same.new {H : Hp} {a : Addr} {o : HO} (h : H a = none) : Same H (upd H a o) := fun b u e => by rw [upd_ne (ne_of_none e h)]; exact e
theorem Kp.trans {H H' H'' : Hp} (a : Kp H H') (b : Kp H' H'') : Kp H H'' := fun c o h n => b c o (a c o h n) n
theorem SqL.kp {K : PySem.W.Frag} {H H' : Hp} {a : Addr} {xs : List V} (h : SqL K H a xs) (s : Kp H H') : SqL K H' a xs := by
  rcases h with (h | ⟨o, h⟩) | h
  · exact .inl (.inl (s _ _ h rfl))
  · exact .inl (.inr ⟨o, s _ _ h rfl⟩)
  · exact .inr h
theorem SqT.kp {K : PySem.W.Frag} {H H' : Hp} {a : Addr} {xs : List V} (h : SqT K H a xs) (s : Kp H H') : SqT K H' a xs := by
  rcases h with (h | ⟨o, h⟩) | h
  · exact .inl (.inl (s _ _ h rfl))
  · exact .inl (.inr ⟨o, s _ _ h rfl⟩)
  · exact .inr h
mutual
theorem Dp.kp {K : PySem.W.Frag} {H H' : Hp} (s : Kp H H') : ∀ {v : V} {d : PyData}, Dp K H v d → Dp K H' v d
  | _, _, .non => .non
  | _, _, .bl b => .bl b
  | _, _, .int i => .int i
  | _, _, .str x => .str x
  | _, _, .lst h a => .lst (h.kp s) (DpAll.kp s a)
  | _, _, .tup h a => .tup (h.kp s) (DpAll.kp s a)
theorem DpAll.kp {K : PySem.W.Frag} {H H' : Hp} (s : Kp H H') : ∀ {vs : List V} {ds : List PyData}, DpAll K H vs ds → DpAll K H' vs ds
  | _, _, .nil => .nil
  | _, _, .cons h a => .cons (Dp.kp s h) (DpAll.kp s a)
end
theorem DpAll.get' {K : PySem.W.Frag} {H : Hp} : ∀ {vs : List V} {ds : List PyData} {i : Nat} {d : PyData}, DpAll K H vs ds → ds[i]? = some d → ∃ v, vs[i]? = some v ∧ Dp K H v d
  | _, _, i, _, .nil, h => by simp at h
  | _, _, 0, d, .cons (v := v) h a, e => by
    have e' := Option.some.inj e
    subst e'
    exact ⟨v, rfl, h⟩
  | _, _, i + 1, v, .cons h a, e => a.get' (i := i) e
end L2
namespace Op
open PySem L2 PyProof.Rows
def RcA.L (A : RcA) : List Addr := [A.a, A.l, A.s, A.g, A.e]
section
variable {H H' : Hp} {A : RcA} {E : Env0} {c : Chk}
theorem RC.kp (O : RC H A E c) (f : Fr A.L H H') : Kp H H' := fun b o h n => f b o h fun m => by
  have : b = A.a ∨ b = A.l ∨ b = A.s ∨ b = A.g ∨ b = A.e := by simpa [RcA.L] using m
  rcases this with rfl | rfl | rfl | rfl | rfl
  · rw [O.ob] at h; cases h; cases n
  · rw [O.dl] at h; cases h; cases n
  · rw [O.ds] at h; cases h; cases n
  · rw [O.dg] at h; cases h; cases n
  · rw [O.de] at h; cases h; cases n
theorem Known.mono {p : Addr} {xs : List Str} (h : Known H p xs) (s : ∀ o, H p = some o → H' p = some o) : Known H' p xs := let ⟨kvs, h1, h2⟩ := h; ⟨kvs, s _ h1, h2⟩
theorem RC.mono (O : RC H A E c) (s : Same H H') : RC H' A E c := ⟨s _ _ O.ob, O.ka.mono (s _), O.ks.mono (s _), s _ _ O.dl, s _ _ O.ds, s _ _ O.dg, s _ _ O.de, O.nd, O.nk⟩
theorem Known.ne_ins {p a C dx : Addr} {fs : List (Str × V)} {xs : List Str} (h : Known H p xs) (e : H a = some (.ins C dx fs)) : p ≠ a := fun q => by
  obtain ⟨kvs, h1, _⟩ := h
  rw [q, e] at h1
  cases h1
theorem RC.nes (O : RC H A E c) : A.a ≠ A.l ∧ A.a ≠ A.s ∧ A.a ≠ A.g ∧ A.a ≠ A.e ∧ A.a ≠ A.ka ∧ A.a ≠ A.ks :=
  ⟨ne_of O.ob O.dl nofun, ne_of O.ob O.ds nofun, ne_of O.ob O.dg nofun, ne_of O.ob O.de nofun, (O.ka.ne_ins O.ob).symm, (O.ks.ne_ins O.ob).symm⟩
theorem RC.nds (O : RC H A E c) : (A.ka ≠ A.l ∧ A.ka ≠ A.s ∧ A.ka ≠ A.g ∧ A.ka ≠ A.e) ∧ (A.ks ≠ A.l ∧ A.ks ≠ A.s ∧ A.ks ≠ A.g ∧ A.ks ≠ A.e) ∧ A.l ≠ A.s ∧ A.l ≠ A.g ∧ A.l ≠ A.e ∧ A.s ≠ A.g ∧ A.s ≠ A.e ∧ A.g ≠ A.e := by
  have h1 := O.nd
  have h2 := O.nk
  simp [List.nodup_cons] at h1 h2
  obtain ⟨⟨a1, a2, a3, a4⟩, ⟨b1, b2, b3⟩, ⟨c1, c2⟩, d1⟩ := h1
  obtain ⟨⟨e1, e2, e3, e4⟩, _⟩ := h2
  exact ⟨⟨a1, a2, a3, a4⟩, ⟨e1, e2, e3, e4⟩, b1, b2, b3, c1, c2, d1⟩
theorem RC.put_l (O : RC H A E c) (x : Str) : RC (upd H A.l (.dK (dkT (putW c.labels x)))) A E { c with labels := putW c.labels x } := by
  obtain ⟨a1, a2, a3, a4, a5, a6⟩ := O.nes
  obtain ⟨⟨k1, k2, k3, k4⟩, ⟨s1, s2, s3, s4⟩, b1, b2, b3, b4, b5, b6⟩ := O.nds
  exact ⟨by rw [upd_ne a1]; exact O.ob, O.ka.mono fun o h => by rw [upd_ne k1]; exact h, O.ks.mono fun o h => by rw [upd_ne s1]; exact h, upd_same, by rw [upd_ne b1.symm]; exact O.ds, by rw [upd_ne b2.symm]; exact O.dg, by rw [upd_ne b3.symm]; exact O.de, O.nd, O.nk⟩
theorem RC.put_s (O : RC H A E c) (x : Str) : RC (upd H A.s (.dK (dkT (putW c.slots x)))) A E { c with slots := putW c.slots x } := by
  obtain ⟨a1, a2, a3, a4, a5, a6⟩ := O.nes
  obtain ⟨⟨k1, k2, k3, k4⟩, ⟨s1, s2, s3, s4⟩, b1, b2, b3, b4, b5, b6⟩ := O.nds
  exact ⟨by rw [upd_ne a2]; exact O.ob, O.ka.mono fun o h => by rw [upd_ne k2]; exact h, O.ks.mono fun o h => by rw [upd_ne s2]; exact h, by rw [upd_ne b1]; exact O.dl, upd_same, by rw [upd_ne b4.symm]; exact O.dg, by rw [upd_ne b5.symm]; exact O.de, O.nd, O.nk⟩
theorem RC.put_g (O : RC H A E c) (x : Str) : RC (upd H A.g (.dK (dkT (putW c.gates x)))) A E { c with gates := putW c.gates x } := by
  obtain ⟨a1, a2, a3, a4, a5, a6⟩ := O.nes
  obtain ⟨⟨k1, k2, k3, k4⟩, ⟨s1, s2, s3, s4⟩, b1, b2, b3, b4, b5, b6⟩ := O.nds
  exact ⟨by rw [upd_ne a3]; exact O.ob, O.ka.mono fun o h => by rw [upd_ne k3]; exact h, O.ks.mono fun o h => by rw [upd_ne s3]; exact h, by rw [upd_ne b2]; exact O.dl, by rw [upd_ne b4]; exact O.ds, upd_same, by rw [upd_ne b6.symm]; exact O.de, O.nd, O.nk⟩
theorem RC.put_e (O : RC H A E c) (x : Str) : RC (upd H A.e (.dK (dkT (putW c.edits x)))) A E { c with edits := putW c.edits x } := by
  obtain ⟨a1, a2, a3, a4, a5, a6⟩ := O.nes
  obtain ⟨⟨k1, k2, k3, k4⟩, ⟨s1, s2, s3, s4⟩, b1, b2, b3, b4, b5, b6⟩ := O.nds
  exact ⟨by rw [upd_ne a4]; exact O.ob, O.ka.mono fun o h => by rw [upd_ne k4]; exact h, O.ks.mono fun o h => by rw [upd_ne s4]; exact h, by rw [upd_ne b3]; exact O.dl, by rw [upd_ne b5]; exact O.ds, by rw [upd_ne b6]; exact O.dg, upd_same, O.nd, O.nk⟩
theorem RC.tot (O : RC H A E c) (n : Int) : RC (upd H A.a (.ins A.C A.dx (rcF A E { c with total := n }))) A E { c with total := n } := by
  obtain ⟨a1, a2, a3, a4, a5, a6⟩ := O.nes
  exact ⟨upd_same, O.ka.mono fun o h => by rw [upd_ne a5.symm]; exact h, O.ks.mono fun o h => by rw [upd_ne a6.symm]; exact h, by rw [upd_ne a1.symm]; exact O.dl, by rw [upd_ne a2.symm]; exact O.ds, by rw [upd_ne a3.symm]; exact O.dg, by rw [upd_ne a4.symm]; exact O.de, O.nd, O.nk⟩
theorem dput_w {p : Addr} {xs : List Str} {x : Str} (h : H p = some (.dK (dkT xs))) (hl : xs.length < sizeLine) : DPut H p (.str x) (.bl true) (upd H p (.dK (dkT (putW xs x)))) := by
  rw [← dkT_put]
  exact DPut.k (k := .inr x) h (by rw [dkT_len]; exact hl)
theorem putW_len (xs : List Str) (x : Str) : (putW xs x).length ≤ xs.length + 1 := by
  unfold putW
  split
  · omega
  · simp
end
section
variable {P : Program} {w : World} {K : PySem.W.Frag} {mg : Str → Option Value} {base : Heap}
def spID (K : PySem.W.Frag) : Sp := fun vs H Q _ => ∃ (A : RcA) (E : Env0) (c : Chk) (t : Addr) (kind : Str) (parts : List PyData), vs = [.ref A.a, .ref t] ∧ RC H A E c ∧ RcC K A.C ∧ Dp K H (.ref t) (.tuple (.str kind :: parts)) ∧
  (kind = "edit" ∨ kind = "gate" ∨ kind = "past" → ∃ x r, parts = .str x :: r) ∧ ∀ H', Same H H' → Q (.bl (idFits c kind parts)) H'
theorem sz_lit {n : Nat} (h : n ≤ 100000) : n ≤ sizeLine := Evl.sz_of h
theorem inV2 (x a b : Str) : inV (.str x) [.str a, .str b] = decide (x = a ∨ x = b) := by
  show (eqV (.str a) (.str x) || (eqV (.str b) (.str x) || false)) = _
  have e : ∀ y : Str, eqV (.str y) (.str x) = decide (x = y) := fun y => by
    show (y == x) = _
    by_cases q : x = y
    · rw [decide_eq_true q, q]; simp
    · rw [decide_eq_false q]; simpa using Ne.symm q
  rw [e, e, Bool.or_false, Bool.eq_iff_iff]
  simp
theorem atI_zero {α : Type} (x : α) (r : List α) : atI (x :: r) 0 = some x := by
  unfold atI ixN
  rw [if_pos (Int.le_refl _), if_pos (by simp only [List.length_cons]; omega)]
  rfl
theorem atI_one {α : Type} (x y : α) (r : List α) : atI (x :: y :: r) 1 = some y := by
  unfold atI ixN
  rw [if_pos (by decide), if_pos (by simp only [List.length_cons]; omega)]
  rfl
theorem sc_RowCheck_id_fits : FnScope ["self", "row"] ["self", "row"] (defScope s_RowCheck_id_fits) := ⟨rfl, rfl, rfl, by decide +kernel, rfl, by decide +kernel, by decide +kernel⟩
theorem ok_id_fits {f : Addr} {fd : FuncData} (F : Fun K "id_fits" "RowCheck.id_fits" s_RowCheck_id_fits f fd) : FnOk P w K mg base CX0 1 f fd ["self", "row"] (spID K) := by
  refine F.ok sc_RowCheck_id_fits (fun vs H Q E h => ?_) (fun cdv A outer s H vs Q E hr h => ?_)
  · obtain ⟨A, E, c, t, kind, parts, rfl, _⟩ := h
    rfl
  · obtain ⟨R, E0, c, t, kind, parts, rfl, O, rc, hd, hp, k⟩ := h
    have hu := hu_of hr
    cases hd with
    | @tup _ xs _ hq ha =>
    cases ha with
    | @cons v0 _ vr _ h0 hr0 =>
    cases h0 with
    | str kind =>
    unfold idFits at k
    refine ⟨_, (pss_cons (ps_if (pt_cmpR op_eq (pe_ix ix_tup (pv 1) pe_int (fun _ _ => rfl)) pe_str (nomark _)) (pss_one (ps_ret (pe_and (pe_cmp (pc_dnotin hu (pe_ix ix_tup (pv 1) pe_int (fun _ _ => rfl)) (pe_fld (pv 0) rfl))) (pe_one (pe_cmp (pc_dnotin hu (pe_ix ix_tup (pv 1) pe_int (fun _ _ => rfl)) (pe_fld (pv 0) rfl))))))) pss_nil)
      (pss_cons (ps_if (pt_cmpR op_in_seq (pe_ix ix_tup (pv 1) pe_int (fun _ _ => rfl)) (pe_tup (pa_cons pe_str (pa_cons pe_str pa_nil))) (by rfl)) (pss_one (ps_ret (pe_cmp (pc_dnotin hu (pe_ix ix_tup (pv 1) pe_int (fun _ _ => rfl)) (pe_fld (pv 0) rfl))))) pss_nil)
      (pss_one (ps_ret pe_bl)))), ?_⟩
    refine ⟨_, rfl, t, _, 0, _, rfl, rfl, hq, atI_zero _ _, rfl, _, rfl, ?_⟩
    rw [dec_strV]
    by_cases e1 : kind = "edit"
    · obtain ⟨x, r, rfl⟩ := hp (.inl e1)
      cases hr0 with
      | @cons v1 _ vr _ h1 _ =>
      cases h1 with
      | str x =>
      rw [if_pos e1] at k
      refine ifT (decide_eq_true e1) ?_
      refine ⟨_, rfl, t, _, 1, _, rfl, rfl, hq, atI_one _ _ _, _, rfl, _, _, _, _, _, rfl, O.ob, rc.cls, rc.n8, rfl, _, _, rfl, dget_known O.de, _, rfl, ?_⟩
      rw [valV_dkT]
      by_cases q : x ∈ c.edits
      · rw [decide_eq_true q]
        refine ifF rfl ?_
        have := k H (Same.refl H)
        rw [show (PyData.str x :: r).headD PyData.none = .str x from rfl] at this
        rw [show strOf (.str x) = x from rfl, decide_eq_true q] at this
        exact this
      · rw [decide_eq_false q]
        refine ifT rfl ?_
        refine ⟨_, rfl, t, _, 1, _, rfl, rfl, hq, atI_one _ _ _, _, rfl, _, _, _, _, _, rfl, O.ob, rc.cls, rc.n7, rfl, _, _, rfl, dget_known O.dg, ?_⟩
        rw [valV_dkT]
        have := k H (Same.refl H)
        rw [show (PyData.str x :: r).headD PyData.none = .str x from rfl] at this
        rw [show strOf (.str x) = x from rfl, decide_eq_false q] at this
        exact this
    · rw [if_neg e1] at k
      refine ifF (decide_eq_false e1) ?_
      refine ⟨_, rfl, t, _, 0, _, rfl, rfl, hq, atI_zero _ _, sz_lit (by decide), fun p hp0 => ⟨p, _, rfl, .inr (.inl (.inl upd_same)), rfl, rfl, _, rfl, ?_⟩⟩
      rw [inV2]
      have sm : Same H (upd H p (.tup [.str "gate", .str "past"])) := Same.new hp0
      by_cases e2 : kind = "gate" ∨ kind = "past"
      · rw [if_pos e2] at k
        refine ifT (decide_eq_true e2) ?_
        obtain ⟨x, r, rfl⟩ := hp (.inr e2)
        cases hr0 with
        | @cons v1 _ vr _ h1 _ =>
        cases h1 with
        | str x =>
        refine ⟨_, rfl, t, _, 1, _, rfl, rfl, hq.mono sm, atI_one _ _ _, _, rfl, _, _, _, _, _, rfl, sm _ _ O.ob, rc.cls, rc.n8, rfl, _, _, rfl, dget_known (sm _ _ O.de), ?_⟩
        rw [valV_dkT]
        exact k _ sm
      · rw [if_neg e2] at k
        refine ifF (decide_eq_false e2) ?_
        exact k _ sm
end
end Op
namespace Op
open PySem L2 PyProof.Rows
def colPart (kind : Str) (c : Chk) (code : Str) (d : PyData) : Chk :=
  if code = "l" then { c with labels := putW c.labels (strOf d) }
  else if code = "m" then { c with labels := (match d with | .tuple ds => (ds.map strOf).foldl putW c.labels | _ => c.labels) }
  else if (code = "s" ∨ code = "r") ∧ ¬ strOf d = "in" then { c with slots := putW c.slots (strOf d) }
  else if code = "i" ∧ kind = "edit" then { c with edits := putW c.edits (strOf d) }
  else if code = "i" then { c with gates := putW c.gates (strOf d) }
  else c
def collect (c : Chk) (kind sh : Str) (parts : List PyData) : Chk := (sh.cps.toList.zip parts).foldl (fun c p => colPart kind c ⟨#[p.1]⟩ p.2) c
def colN (c : Chk) (kind sh : Str) (parts : List PyData) (i : Nat) : Chk := ((sh.cps.toList.zip parts).take i).foldl (fun c p => colPart kind c ⟨#[p.1]⟩ p.2) c
theorem colN_zero (c : Chk) (kind sh : Str) (parts : List PyData) : colN c kind sh parts 0 = c := rfl
theorem colN_all {c : Chk} {kind sh : Str} {parts : List PyData} (h : sh.cps.size = parts.length) : colN c kind sh parts parts.length = collect c kind sh parts := by
  unfold colN collect
  rw [List.take_of_length_le (by rw [List.length_zip, Array.length_toList]; omega)]
theorem colN_succ {c : Chk} {kind sh : Str} {parts : List PyData} {i ch : Nat} {d : PyData} (h1 : sh.cps[i]? = some ch) (h2 : parts[i]? = some d) : colN c kind sh parts (i + 1) = colPart kind (colN c kind sh parts i) ⟨#[ch]⟩ d := by
  unfold colN
  have h : (sh.cps.toList.zip parts)[i]? = some (ch, d) := by
    rw [List.getElem?_zip_eq_some]
    exact ⟨by rw [Array.getElem?_toList]; exact h1, h2⟩
  rw [TS.take_one h, List.foldl_append]
  rfl
/-- sizes of what was collected -/
def Cap (c : Chk) (n : Nat) : Prop := c.labels.length ≤ n ∧ c.slots.length ≤ n ∧ c.gates.length ≤ n ∧ c.edits.length ≤ n
theorem Cap.mono {c : Chk} {m n : Nat} (h : Cap c m) (e : m ≤ n) : Cap c n := ⟨by have := h.1; omega, by have := h.2.1; omega, by have := h.2.2.1; omega, by have := h.2.2.2; omega⟩
theorem foldW_len : ∀ (ys xs : List Str), (ys.foldl putW xs).length ≤ xs.length + ys.length
  | [], xs => Nat.le_refl _
  | y :: r, xs => by
    have := foldW_len r (putW xs y)
    have := putW_len xs y
    show (r.foldl putW (putW xs y)).length ≤ _
    rw [List.length_cons]
    omega
section
variable {E : Env0} {d : PyData}
theorem pf_word {x : Str} (h : partFits E x d = true) (n : ¬ (x = "m" ∨ x = "v") ∧ ¬ x = "b" ∧ ¬ x = "t") : isWord d = true := by
  unfold partFits at h
  rw [if_neg n.1, if_neg n.2.1, if_neg n.2.2] at h
  split at h
  · exact (Bool.and_eq_true_iff.mp h).1
  · split at h
    · exact (Bool.and_eq_true_iff.mp h).1
    · split at h
      · exact (Bool.and_eq_true_iff.mp h).1
      · exact h
theorem pf_m (h : partFits E "m" d = true) : areWords 3 d = true := h
theorem aw_tup {m : Int} (h : areWords m d = true) : ∃ zs : List Str, d = .tuple (zs.map PyData.str) ∧ (zs.length : Int) ≤ m ∧ (∀ z ∈ zs, isWordS z = true) ∧ zs.Nodup ∧ 1 ≤ zs.length := by
  cases d with
  | tuple ds =>
    obtain ⟨h1, h2⟩ := Bool.and_eq_true_iff.mp h
    obtain ⟨h3, h4⟩ := Bool.and_eq_true_iff.mp h2
    have h1 := of_decide_eq_true h1
    have h4 := of_decide_eq_true h4
    have key : ∀ ds : List PyData, ds.all isWord = true → ∃ zs : List Str, ds = zs.map PyData.str ∧ ∀ z ∈ zs, isWordS z = true := by
      intro ds
      induction ds with
      | nil => exact fun _ => ⟨[], rfl, fun _ h => by cases h⟩
      | cons d r ih =>
        intro h
        obtain ⟨a, b⟩ := Bool.and_eq_true_iff.mp h
        obtain ⟨zs, e, p⟩ := ih b
        cases d with
        | str x => exact ⟨x :: zs, by rw [e]; rfl, fun z hz => by
            rcases List.mem_cons.mp hz with rfl | hz
            · exact a
            · exact p z hz⟩
        | _ => cases a
    obtain ⟨zs, rfl, p⟩ := key ds h3
    have e1 : (zs.map PyData.str).map strOf = zs := by
      rw [List.map_map]
      have : (strOf ∘ PyData.str) = id := by funext z; rfl
      rw [this, List.map_id]
    rw [e1] at h4
    rw [List.length_map] at h1
    exact ⟨zs, rfl, h1.2, p, h4, h1.1⟩
  | _ => cases h
end
theorem map_strOf (zs : List Str) : (zs.map PyData.str).map strOf = zs := by
  rw [List.map_map]
  have : (strOf ∘ PyData.str) = id := by funext z; rfl
  rw [this, List.map_id]
/-- the names of the module that the check reads -/
structure TxtC (P : Program) (w : World) (K : PySem.W.Frag) (mg : Str → Option Value) (pS CI : Addr) : Prop extends Txt mg where
  g_SHAPES : mg "SHAPES" = some (.ref pS)
  w_SHAPES : WTab K w pS (shapes.map fun p => (p.1, .str p.2))
  g_MOST_ROWS : ∃ t, mg "MOST_ROWS" = some (.int 60 t)
  g_MOST_LABELS : ∃ t, mg "MOST_LABELS" = some (.int 6 t)
  g_MOST_SLOTS : ∃ t, mg "MOST_SLOTS" = some (.int 4 t)
  g_MOST_GATES : ∃ t, mg "MOST_GATES" = some (.int 8 t)
  g_MOST_EDITS : ∃ t, mg "MOST_EDITS" = some (.int 4 t)
  g_DEEPEST : ∃ t, mg "DEEPEST" = some (.int 5 t)
  g_InvalidProgram : mg "InvalidProgram" = some (.ref CI)
  k_InvalidProgram : PySem.W.keepIn K (.ref CI) = true
  mk_InvalidProgram : XMk P w K CI 2 [] (fun vs _ => [("path", vs.getD 1 .non), ("part", vs.getD 0 .non)])
  r_InvalidProgram : ∀ (M : Model) (h : Heap), K.In h → PySem.W.Looks M h (isSubtype (.ref CI) (.type "BaseException")) true ∧ PySem.W.Looks M h (typeOf (.ref CI)) (.type "type")
theorem shapes_look (x : Str) : (shapes.map fun p => (p.1, V.str p.2)).lookup x = (shapes.lookup x).map V.str := by
  generalize shapes = l
  induction l with
  | nil => rfl
  | cons p r ih =>
    obtain ⟨a, b⟩ := p
    simp only [List.map_cons, List.lookup_cons]
    cases x == a with
    | true => rfl
    | false => exact ih
theorem lt_sz {n : Nat} (h : n < 100000) : n < sizeLine := Nat.lt_of_lt_of_le h (sz_lit (Nat.le_refl _))
theorem cut1 (v : V) (r : List V) : cutV (v :: r) (some 1) none = r := by
  unfold cutV
  rw [HT.sIx_none, show (1 : Int) = ((1 : Nat) : Int) from rfl, HT.sIx_nat, List.length_cons, show min 1 (r.length + 1) = 1 by omega]
  show r.take (r.length + 1 - 1) = r
  rw [List.take_of_length_le (by omega)]
theorem cut1n (v : V) (r : List V) : ¬ (HT.sIx (v :: r).length 0 (some 1) = 0 ∧ HT.sIx (v :: r).length (v :: r).length none = (v :: r).length) := by
  rw [show (1 : Int) = ((1 : Nat) : Int) from rfl, HT.sIx_nat, List.length_cons]
  omega
section
variable {P : Program} {w : World} {K : PySem.W.Frag} {mg : Str → Option Value} {base : Heap} {pS CI : Addr}
def Fitted (E : Env0) (sh : Str) (parts : List PyData) : Prop := sh.cps.size = parts.length ∧ ∀ (i ch : Nat) (d : PyData), sh.cps[i]? = some ch → parts[i]? = some d → partFits E ⟨#[ch]⟩ d = true
def spCol (K : PySem.W.Frag) : Sp := fun vs H Q _ => ∃ (A : RcA) (E : Env0) (c : Chk) (t : Addr) (kind sh : Str) (parts : List PyData), vs = [.ref A.a, .ref t] ∧ RC H A E c ∧ RcC K A.C ∧ Dp K H (.ref t) (.tuple (.str kind :: parts)) ∧
  shapes.lookup kind = some sh ∧ Fitted E sh parts ∧ parts.length ≤ 100 ∧ Cap c 90000 ∧ ∀ H', Fr A.L H H' → RC H' A E (collect c kind sh parts) → Q .non H'
theorem sc_RowCheck_collect : FnScope ["self", "row", "code", "part", "label"] ["self", "row"] (defScope s_RowCheck_collect) := ⟨rfl, rfl, rfl, by decide +kernel, rfl, by decide +kernel, by decide +kernel⟩
theorem ok_collect {f : Addr} {fd : FuncData} (F : Fun K "collect" "RowCheck.collect" s_RowCheck_collect f fd) (T : TxtC P w K mg pS CI) : FnOk P w K mg base CX0 1 f fd ["self", "row"] (spCol K) := by
  refine F.ok sc_RowCheck_collect (fun vs H Q E h => ?_) (fun cdv A outer s H vs Q E hr h => ?_)
  · obtain ⟨A, E, c, t, kind, sh, parts, rfl, _⟩ := h
    rfl
  · obtain ⟨R, E0, c, t, kind, sh, parts, rfl, O, rc, hd, hsh, ⟨hlen, hfit⟩, hpl, hcap, k⟩ := h
    have hu := hu_of hr
    cases hd with
    | @tup _ xs _ hq ha =>
    cases ha with
    | @cons v0 vr d0 dr h0 hr0 =>
    cases h0 with
    | str kind =>
    have hvl := hr0.len
    refine ⟨_, (pss_one (ps_for PassesOwn.never rfl (pi_zipS (by rfl) T.b_zip (pa_cons (pe_ix ix_wtab (pe_gref rfl T.g_SHAPES) (pe_ix ix_tup (pv 1) pe_int (fun _ _ => rfl)) (fun _ _ => rfl)) (pa_cons (pe_slice sl_tupA (pv 1) (po_some pe_int) po_none) pa_nil))) (pg_tup rfl (pgs_cons (pg_name (i := 2) sc_RowCheck_collect.nd rfl (.inl rfl)) (pgs_cons (pg_name (i := 3) sc_RowCheck_collect.nd rfl (.inl rfl)) pgs_nil))) (pss_one (ps_if (pt_cmpR op_eq (pv 2) pe_str (nomark _)) (pss_one (ps_dput hu (pe_fld (pv 0) rfl) (pv 3) pe_bl rfl)) (pss_one (ps_if (pt_cmpR op_eq (pv 2) pe_str (nomark _)) (pss_one (ps_for PassesOwn.never rfl (pi_tup (pv 3)) (pg_name (i := 4) sc_RowCheck_collect.nd rfl (.inl rfl)) (pss_one (ps_dput hu (pe_fld (pv 0) rfl) (pv 4) pe_bl rfl)))) (pss_one (ps_if (PW.pt (pw_and (pt_cmpR op_in_seq (pv 2) (pe_tup (pa_cons pe_str (pa_cons pe_str pa_nil))) (by rfl)) (pw_and1 (pt_cmpR op_ne (pv 3) pe_str (nomark _))))) (pss_one (ps_dput hu (pe_fld (pv 0) rfl) (pv 3) pe_bl rfl)) (pss_one (ps_if (PW.pt (pw_and (pt_cmpR op_eq (pv 2) pe_str (nomark _)) (pw_and1 (pt_cmpR op_eq (pe_ix ix_tup (pv 1) pe_int (fun _ _ => rfl)) pe_str (nomark _))))) (pss_one (ps_dput hu (pe_fld (pv 0) rfl) (pv 3) pe_bl rfl)) (pss_one (ps_if (pt_cmpR op_eq (pv 2) pe_str (nomark _)) (pss_one (ps_dput hu (pe_fld (pv 0) rfl) (pv 3) pe_bl rfl)) pss_nil)))))))))))), ?_⟩
    refine ⟨_, rfl, t, _, 0, _, rfl, rfl, hq, atI_zero _ _, pS, kind, _, .str sh, rfl, rfl, T.w_SHAPES, by rw [shapes_look, hsh]; rfl, ?_⟩
    refine ⟨_, rfl, 1, rfl, t, _, rfl, hq, fun z => absurd z (cut1n _ _), fun _ p hp => ?_⟩
    rw [cut1]
    have sm : Same H (upd H p (.tup vr)) := Same.new hp
    refine ⟨sh, p, vr, rfl, .inl (.inl upd_same), ?_⟩
    refine for_zipS (by omega) (fun i σ H' => (∃ y2 y3 y4 : Option V, σ = [some (.ref R.a), some (.ref t), y2, y3, y4]) ∧ RC H' R E0 (colN c kind sh parts i) ∧ Fr R.L (upd H p (.tup vr)) H' ∧ Cap (colN c kind sh parts i) (90000 + 3 * i)) ⟨⟨_, _, _, rfl⟩, O.mono sm, Fr.refl, hcap⟩ (fun i σ H' q => SqT.kp (.inl (.inl upd_same)) ((O.mono sm).kp q.2.2.1)) ?_ ?_
    · rintro i ch y T0 σ H' h1 h2 ⟨⟨y2, y3, y4, rfl⟩, O1, fr1, cap1⟩ hT0
      obtain ⟨d, h3, hdy⟩ := hr0.get h2
      have hf := hfit i ch d h1 h3
      have hi : i < 100 := by
        have := (List.getElem?_eq_some_iff.mp h3).1
        omega
      have hdy1 : Dp K H' y d := hdy.kp (sm.kp.trans ((O.mono sm).kp fr1))
      refine ⟨T0, _, rfl, .inl (.inl upd_same), rfl, ?_⟩
      have sm1 : Same H' (upd H' T0 (.tup [.str ⟨#[ch]⟩, y])) := Same.new hT0
      have O2 := O1.mono sm1
      have fr2 : Fr R.L (upd H p (.tup vr)) (upd H' T0 (.tup [.str ⟨#[ch]⟩, y])) := fr1.trans sm1.fr
      have hdy2 : Dp K (upd H' T0 (.tup [.str ⟨#[ch]⟩, y])) y d := hdy1.kp sm1.kp
      rw [colN_succ h1 h3]
      revert O2 fr2 hdy2
      generalize upd H' T0 (.tup [.str ⟨#[ch]⟩, y]) = H2
      generalize colN c kind sh parts i = c1 at *
      intro O2 fr2 hdy2
      generalize (⟨#[ch]⟩ : Str) = x at *
      refine ⟨_, _, rfl, _, _, rfl, rfl, _, rfl, rfl, _, rfl, ?_⟩
      rw [dec_strV]
      have word : ¬ (x = "m" ∨ x = "v") ∧ ¬ x = "b" ∧ ¬ x = "t" → y = .str (strOf d) := fun n => mono_str hdy2 (pf_word hf n)
      have cl : c1.labels.length < sizeLine := Nat.lt_of_le_of_lt cap1.1 (lt_sz (by omega))
      have cs : c1.slots.length < sizeLine := Nat.lt_of_le_of_lt cap1.2.1 (lt_sz (by omega))
      have cg : c1.gates.length < sizeLine := Nat.lt_of_le_of_lt cap1.2.2.1 (lt_sz (by omega))
      have ce : c1.edits.length < sizeLine := Nat.lt_of_le_of_lt cap1.2.2.2 (lt_sz (by omega))
      have cap2 : Cap c1 (90000 + 3 * (i + 1)) := cap1.mono (by omega)
      unfold colPart
      by_cases e1 : x = "l"
      · obtain rfl := word (by rw [e1]; decide +kernel)
        rw [if_pos e1]
        refine ifT (decide_eq_true e1) ?_
        refine ⟨_, rfl, _, _, _, _, _, rfl, O2.ob, rc.cls, rc.n5, rfl, _, rfl, _, _, rfl, dput_w O2.dl cl, ⟨_, _, _, rfl⟩, O2.put_l _, fr2.upd (by simp [RcA.L]), ?_, cap2.2⟩
        have := putW_len c1.labels (strOf d)
        have := cap1.1
        show (putW c1.labels (strOf d)).length ≤ _
        omega
      · rw [if_neg e1]
        refine ifF (decide_eq_false e1) ⟨_, rfl, rfl, _, rfl, ?_⟩
        rw [dec_strV]
        by_cases e2 : x = "m"
        · rw [if_pos e2]
          refine ifT (decide_eq_true e2) ?_
          obtain ⟨zs, rfl, hz3, _⟩ := aw_tup (pf_m (by rw [← e2]; exact hf))
          cases hdy2 with
          | @tup q ws _ hws haw =>
          obtain ⟨zs', ez, rfl⟩ := strs_of (by
            have := pf_m (d := .tuple (zs.map PyData.str)) (by rw [← e2]; exact hf)
            exact (Bool.and_eq_true_iff.mp (Bool.and_eq_true_iff.mp this).2).1) haw
          obtain rfl : zs = zs' := by
            have := congrArg (List.map strOf) ez
            rw [map_strOf, map_strOf] at this
            exact this
          refine ⟨_, rfl, q, rfl, ⟨_, hws⟩, for_it walk_tup (fun j σ H3 => (∃ y4 : Option V, σ = [some (.ref R.a), some (.ref t), some (.str x), some (.ref q), y4]) ∧ RC H3 R E0 { c1 with labels := (zs.take j).foldl putW c1.labels } ∧ Fr R.L H2 H3) ⟨⟨_, rfl⟩, O2, Fr.refl⟩ (fun j σ H3 _ p => hws.kp (O2.kp p.2.2)) ?_ ?_⟩
          · rintro j v σ H3 H4 hj ⟨⟨y4', rfl⟩, O3, fr3⟩ ⟨rfl, hv⟩
            have hj' : j < zs.length := by rw [List.length_map] at hj; exact hj
            have hz : zs[j]? = some zs[j] := List.getElem?_eq_getElem hj'
            obtain rfl : v = .str zs[j] := by
              rw [List.getElem?_map, hz] at hv
              exact (Option.some.inj hv).symm
            have hl3 : ((zs.take j).foldl putW c1.labels).length < sizeLine := by
              have h1 := foldW_len (zs.take j) c1.labels
              have h2 : (zs.take j).length ≤ 3 := by rw [List.length_take]; omega
              have := cap1.1
              exact Nat.lt_of_le_of_lt h1 (lt_sz (by omega))
            refine ⟨_, rfl, _, _, _, _, _, rfl, O3.ob, rc.cls, rc.n5, rfl, _, rfl, _, _, rfl, dput_w O3.dl hl3, ⟨_, rfl⟩, ?_, fr3.upd (by simp [RcA.L])⟩
            have e := O3.put_l zs[j]
            rw [TS.take_one hz, List.foldl_append]
            exact e
          · rintro σ H3 ⟨⟨y4', rfl⟩, O3, fr3⟩
            rw [List.length_map, List.take_length] at O3
            refine ⟨⟨_, _, _, rfl⟩, ?_, fr2.trans fr3, ?_, cap2.2⟩
            · show RC H3 R E0 { c1 with labels := ((zs.map PyData.str).map strOf).foldl putW c1.labels }
              rw [map_strOf]
              exact O3
            · show (((zs.map PyData.str).map strOf).foldl putW c1.labels).length ≤ _
              rw [map_strOf]
              have := foldW_len zs c1.labels
              have := cap1.1
              omega
        · rw [if_neg e2]
          refine ifF (decide_eq_false e2) ?_
          refine ⟨_, rfl, sz_lit (by decide), fun p1 hp1 => ⟨p1, _, rfl, .inr (.inl (.inl upd_same)), rfl, rfl, _, rfl, ?_⟩⟩
          rw [inV2]
          have sm3 : Same H2 (upd H2 p1 (.tup [.str "s", .str "r"])) := Same.new hp1
          have O3 := O2.mono sm3
          have fr3 := fr2.trans (sm3.fr (L := R.L))
          have hq3 : SqT K (upd H2 p1 (.tup [.str "s", .str "r"])) t (.str kind :: vr) := hq.kp (sm.kp.trans ((O.mono sm).kp fr3))
          revert O3 fr3 hq3
          generalize upd H2 p1 (.tup [.str "s", .str "r"]) = H3
          intro O3 fr3 hq3
          by_cases e3 : x = "s" ∨ x = "r"
          · refine ifT (decide_eq_true e3) ?_
            obtain rfl := word (by rcases e3 with e | e <;> (rw [e]; decide +kernel))
            refine ⟨_, rfl, rfl, _, rfl, ?_⟩
            rw [dec_strV]
            by_cases e4 : strOf d = "in"
            · rw [if_neg (fun h => h.2 e4), if_neg (by rcases e3 with e | e <;> (rw [e]; intro h; exact absurd h.1 (by decide +kernel))), if_neg (by rcases e3 with e | e <;> (rw [e]; decide +kernel))]
              refine ifF (by rw [decide_eq_true e4]; rfl) ?_
              refine ⟨_, rfl, rfl, _, rfl, ?_⟩
              rw [dec_strV]
              refine ifF (decide_eq_false (by rcases e3 with e | e <;> (rw [e]; decide +kernel))) ?_
              refine ifF rfl ⟨_, rfl, rfl, _, rfl, ?_⟩
              rw [dec_strV]
              exact ifF (decide_eq_false (by rcases e3 with e | e <;> (rw [e]; decide +kernel))) ⟨⟨_, _, _, rfl⟩, O3, fr3, cap2⟩
            · rw [if_pos ⟨e3, e4⟩]
              refine ifT (by rw [decide_eq_false e4]; rfl) ?_
              refine ⟨_, rfl, _, _, _, _, _, rfl, O3.ob, rc.cls, rc.n6, rfl, _, rfl, _, _, rfl, dput_w O3.ds cs, ⟨_, _, _, rfl⟩, O3.put_s _, fr3.upd (by simp [RcA.L]), cap2.1, ?_, cap2.2.2⟩
              have := putW_len c1.slots (strOf d)
              have := cap1.2.1
              show (putW c1.slots (strOf d)).length ≤ _
              omega
          · rw [if_neg (fun h => e3 h.1)]
            refine ifF (decide_eq_false e3) (ifF rfl ⟨_, rfl, rfl, _, rfl, ?_⟩)
            rw [dec_strV]
            by_cases e5 : x = "i"
            · obtain rfl := word (by rw [e5]; decide +kernel)
              refine ifT (decide_eq_true e5) ⟨_, rfl, t, _, 0, _, rfl, rfl, hq3, atI_zero _ _, rfl, _, rfl, ?_⟩
              rw [dec_strV]
              by_cases e6 : kind = "edit"
              · rw [if_pos ⟨e5, e6⟩]
                refine ifT (decide_eq_true e6) ?_
                refine ⟨_, rfl, _, _, _, _, _, rfl, O3.ob, rc.cls, rc.n8, rfl, _, rfl, _, _, rfl, dput_w O3.de ce, ⟨_, _, _, rfl⟩, O3.put_e _, fr3.upd (by simp [RcA.L]), cap2.1, cap2.2.1, cap2.2.2.1, ?_⟩
                have := putW_len c1.edits (strOf d)
                have := cap1.2.2.2
                show (putW c1.edits (strOf d)).length ≤ _
                omega
              · rw [if_neg (fun h => e6 h.2), if_pos e5]
                refine ifF (decide_eq_false e6) ⟨_, rfl, rfl, _, rfl, ?_⟩
                rw [dec_strV]
                refine ifT (decide_eq_true e5) ?_
                refine ⟨_, rfl, _, _, _, _, _, rfl, O3.ob, rc.cls, rc.n7, rfl, _, rfl, _, _, rfl, dput_w O3.dg cg, ⟨_, _, _, rfl⟩, O3.put_g _, fr3.upd (by simp [RcA.L]), cap2.1, cap2.2.1, ?_, cap2.2.2.2⟩
                have := putW_len c1.gates (strOf d)
                have := cap1.2.2.1
                show (putW c1.gates (strOf d)).length ≤ _
                omega
            · rw [if_neg (fun h => e5 h.1), if_neg e5]
              refine ifF (decide_eq_false e5) (ifF rfl ⟨_, rfl, rfl, _, rfl, ?_⟩)
              rw [dec_strV]
              exact ifF (decide_eq_false e5) ⟨⟨_, _, _, rfl⟩, O3, fr3, cap2⟩
    · rintro σ H' ⟨_, O1, fr1, _⟩
      rw [hvl, colN_all hlen] at O1
      exact k _ (sm.fr.trans fr1) O1
end
end Op
namespace Op
open PySem L2 PyProof.Rows
theorem wt_tuple (xs : List PyData) : wt (.tuple xs) = 1 + wts xs := by rw [wt]
theorem wt_list (xs : List PyData) : wt (.list xs) = 1 + wts xs := by rw [wt]
theorem wts_cons (x : PyData) (r : List PyData) : wts (x :: r) = wt x + wts r := by rw [wts]
theorem wts_nil : wts [] = 0 := by rw [wts]
def fitAll (E : Env0) (sh : Str) (parts : List PyData) : Bool := (sh.cps.toList.zip parts).all fun p => partFits E ⟨#[p.1]⟩ p.2
/-- does a text have the sign -/
def hasC (c : Nat) (sh : Str) : Bool := decide (c ∈ sh.cps.toList)
def fitRow (E : Env0) (c : Chk) (kind : Str) (parts : List PyData) (depth : Int) (lp : Bool) (sh : Str) : Bool :=
  if kind = "edit" ∧ E.we = false then false
  else if kind = "leave" ∧ lp = false then false
  else if ¬ parts.length = sh.length then false
  else if (hasC 98 sh || hasC 116 sh) = true ∧ 5 ≤ depth then false
  else if fitAll E sh parts = true then idFits c kind parts else false
def fits (E : Env0) (c : Chk) (d : PyData) (depth : Int) (lp : Bool) : Bool :=
  match d with
  | .tuple (.str kind :: parts) => match shapes.lookup kind with
    | none => false
    | some sh => fitRow E c kind parts depth lp sh
  | _ => false
theorem fitAll_iff {E : Env0} {sh : Str} {parts : List PyData} (hl : sh.cps.size = parts.length) : fitAll E sh parts = true ↔ Fitted E sh parts := by
  unfold fitAll Fitted
  rw [List.all_eq_true]
  constructor
  · intro h
    refine ⟨hl, fun i ch d h1 h2 => h (ch, d) ?_⟩
    refine List.mem_of_getElem? (i := i) ?_
    rw [List.getElem?_zip_eq_some]
    exact ⟨by rw [Array.getElem?_toList]; exact h1, h2⟩
  · rintro ⟨_, h⟩ ⟨ch, d⟩ hm
    obtain ⟨i, hi⟩ := List.getElem?_of_mem hm
    rw [List.getElem?_zip_eq_some] at hi
    exact h i ch d (by rw [← Array.getElem?_toList]; exact hi.1) hi.2
theorem ids_word {E : Env0} {kind sh : Str} {parts : List PyData} (hs : shapes.lookup kind = some sh) (h : Fitted E sh parts) (hk : kind = "edit" ∨ kind = "gate" ∨ kind = "past") : ∃ x r, parts = .str x :: r := by
  have key : ∀ sh : Str, sh.cps[0]? = some 105 → Fitted E sh parts → ∃ x r, parts = .str x :: r := by
    intro sh h0 ⟨hl, hf⟩
    cases parts with
    | nil =>
      have := (Array.getElem?_eq_some_iff.mp h0).1
      rw [hl] at this
      cases this
    | cons d r =>
      have := pf_word (hf 0 105 d h0 rfl) (by decide +kernel)
      cases d with
      | str x => exact ⟨x, r, rfl⟩
      | _ => cases this
  rcases hk with rfl | rfl | rfl
  · obtain rfl : sh = "ibb" := (Option.some.inj (hs.symm.trans (by decide +kernel : shapes.lookup ("edit" : Str) = some "ibb")))
    exact key _ (by decide +kernel) h
  · obtain rfl : sh = "ibb" := (Option.some.inj (hs.symm.trans (by decide +kernel : shapes.lookup ("gate" : Str) = some "ibb")))
    exact key _ (by decide +kernel) h
  · obtain rfl : sh = "ib" := (Option.some.inj (hs.symm.trans (by decide +kernel : shapes.lookup ("past" : Str) = some "ib")))
    exact key _ (by decide +kernel) h
theorem andNo {p : Prop} [Decidable p] {A N : Prop} (h : p → N → A) (n : N) : if decide p = true then A else N := by
  by_cases q : p
  · rw [decide_eq_true q]; exact h q n
  · rw [decide_eq_false q]; exact n
theorem orNo {p : Prop} [Decidable p] {A B N : Prop} (ha : p → N → A) (hb : ¬ p → N → B) (n : N) : if decide p = true then A else B := by
  by_cases q : p
  · rw [decide_eq_true q]; exact ha q n
  · rw [decide_eq_false q]; exact hb q n
section
variable {P : Program} {w : World} {K : PySem.W.Frag} {mg : Str → Option Value} {base : Heap} {pS CI C : Addr}
def spFits (K : PySem.W.Frag) (C : Addr) : Sp := fun vs H Q _ => ∃ (A : RcA) (E : Env0) (c : Chk) (v : V) (d : PyData) (depth : Int) (lp : Bool), vs = [.ref A.a, v, .int depth, .bl lp] ∧ A.C = C ∧ RC H A E c ∧ Dp K H v d ∧ wt d ≤ 100000 ∧
  ∀ H', Same H H' → Q (.bl (fits E c d depth lp)) H'
theorem shapes_len : ∀ {kind sh : Str}, shapes.lookup kind = some sh → sh.length ≤ 4 := by
  have key : ∀ (l : List (Str × Str)) (kind sh : Str), l.all (fun p => decide (p.2.length ≤ 4)) = true → l.lookup kind = some sh → sh.length ≤ 4 := by
    intro l
    induction l with
    | nil => intro kind sh _ h; cases h
    | cons p r ih =>
      intro kind sh ha h
      obtain ⟨a, b⟩ := p
      obtain ⟨h1, h2⟩ := Bool.and_eq_true_iff.mp ha
      rw [List.lookup_cons] at h
      cases q : kind == a with
      | true =>
        rw [q] at h
        obtain rfl := Option.some.inj h
        exact of_decide_eq_true h1
      | false =>
        rw [q] at h
        exact ih kind sh h2 h
  intro kind sh h
  exact key shapes kind sh (by decide +kernel) h
theorem sc_RowCheck_fits : FnScope ["self", "row", "depth", "in_loop", "kind", "shape", "code", "part"] ["self", "row", "depth", "in_loop"] (defScope s_RowCheck_fits) := ⟨rfl, rfl, rfl, by decide +kernel, rfl, by decide +kernel, by decide +kernel⟩
theorem ok_fits {f : Addr} {fd : FuncData} (F : Fun K "fits" "RowCheck.fits" s_RowCheck_fits f fd) (T : TxtC P w K mg pS CI) (rc : RcC K C) (m_part_fits : Mcal P w K mg base CX0 3 C "part_fits" ["self", "code", "part"] (spPF K)) (m_id_fits : Mcal P w K mg base CX0 1 C "id_fits" ["self", "row"] (spID K)) :
    FnOk P w K mg base CX0 4 f fd ["self", "row", "depth", "in_loop"] (spFits K C) := by
  refine F.ok sc_RowCheck_fits (fun vs H Q E h => ?_) (fun cdv A outer s H vs Q E hr h => ?_)
  · obtain ⟨A, E, c, v, d, depth, lp, rfl, _⟩ := h
    rfl
  · obtain ⟨R, E0, c, v, d, depth, lp, rfl, hC, O, hd, hw, k⟩ := h
    have hu := hu_of hr
    have c_RowCheck := rc.cls
    refine ⟨_, (pss_cons (ps_if (PW.pt (pw_or (pt_not (pt_val (pe_callB call_isi (by rfl) T.b_isinstance (by decide +kernel) (pa_cons (pv 1) (pa_cons (pe_bltn (v := .ty "tuple") (by rfl) T.b_tuple (by decide +kernel) rfl) pa_nil))))) (pw_or (pt_cmpR op_eq (pe_callB call_len_seq (by rfl) T.b_len (by decide +kernel) (pa_cons (pv 1) pa_nil)) pe_int (nomark _)) (pw_or1 (pt_not (pt_val (pe_callB call_isi (by rfl) T.b_isinstance (by decide +kernel) (pa_cons (pe_ix ix_tup (pv 1) pe_int (fun _ _ => rfl)) (pa_cons (pe_bltn (v := .ty "str") (by rfl) T.b_str (by decide +kernel) rfl) pa_nil))))))))) (pss_one (ps_ret pe_bl)) pss_nil)
      (pss_cons (ps_set (i := 4) sc_RowCheck_fits.nd rfl (.inl rfl) (pe_ix ix_tup (pv 1) pe_int (fun _ _ => rfl)))
      (pss_cons (ps_if (PW.pt (pw_or (pt_cmpR op_notIn_wtab (pv 4) (pe_gref rfl T.g_SHAPES) (by rfl)) (pw_or1 (PW.pt (pw_and (pt_cmpR op_eq (pv 4) pe_str (nomark _)) (pw_and1 (pt_not (pt_val (pe_fld (pv 0) rfl))))))))) (pss_one (ps_ret pe_bl)) pss_nil)
      (pss_cons (ps_if (PW.pt (pw_and (pt_cmpR op_eq (pv 4) pe_str (nomark _)) (pw_and1 (pt_not (pt_val (pv 3)))))) (pss_one (ps_ret pe_bl)) pss_nil)
      (pss_cons (ps_set (i := 5) sc_RowCheck_fits.nd rfl (.inl rfl) (pe_ix ix_wtab (pe_gref rfl T.g_SHAPES) (pv 4) (fun _ _ => rfl)))
      (pss_cons (ps_if (pt_cmpR op_ne (pe_callB call_len_seq (by rfl) T.b_len (by decide +kernel) (pa_cons (pv 1) pa_nil)) (pe_op op_add pe_int (pe_callB call_len_str (by rfl) T.b_len (by decide +kernel) (pa_cons (pv 5) pa_nil))) (nomark _)) (pss_one (ps_ret pe_bl)) pss_nil)
      (pss_cons (ps_if (PW.pt (pw_and (PW.pt (pw_or (pt_cmpR op_in_sign pe_str (pv 5) (by rfl)) (pw_or1 (pt_cmpR op_in_sign pe_str (pv 5) (by rfl))))) (pw_and1 (pt_cmpR op_ge (pv 2) (pe_glob (v := .int (5)) rfl T.g_DEEPEST.choose_spec ⟨_, rfl⟩) (nomark _))))) (pss_one (ps_ret pe_bl)) pss_nil)
      (pss_cons (ps_for PassesOwn.never rfl (pi_zipS (by rfl) T.b_zip (pa_cons (pv 5) (pa_cons (pe_slice sl_tupA (pv 1) (po_some pe_int) po_none) pa_nil))) (pg_tup rfl (pgs_cons (pg_name (i := 6) sc_RowCheck_fits.nd rfl (.inl rfl)) (pgs_cons (pg_name (i := 7) sc_RowCheck_fits.nd rfl (.inl rfl)) pgs_nil))) (pss_one (ps_if (pt_not (pt_val (pe_mcal (pv 0) c_RowCheck m_part_fits (hr.mono (by omega)) pass0 (pa_cons (pv 6) (pa_cons (pv 7) pa_nil))))) (pss_one (ps_ret pe_bl)) pss_nil)))
      (pss_one (ps_ret (pe_mcal (pv 0) c_RowCheck m_id_fits (hr.mono (by omega)) pass0 (pa_cons (pv 1) pa_nil)))))))))))), ?_⟩
    refine ⟨_, rfl, v, _, _, _, _, rfl, .ty _, ty_dp hd, kit_tuple d, _, rfl, ?_⟩
    cases hd with
    | @tup t xs ds hq ha =>
      refine ifF rfl ⟨_, rfl, t, xs, rfl, .inr hq, rfl, _, rfl, ?_⟩
      cases ha with
      | nil => exact ifT rfl (ifT rfl (k _ (Same.refl _)))
      | @cons v0 vr d0 dr h0 hr0 =>
      refine ifF (decide_eq_false (by intro z; injection z with z; rw [List.length_cons] at z; omega)) ?_
      refine ⟨_, rfl, t, _, 0, _, rfl, rfl, hq, atI_zero _ _, v0, _, _, _, _, rfl, .ty _, ty_dp h0, kit_str d0, _, rfl, ?_⟩
      cases h0 with
      | str kind =>
        refine ifF rfl ?_
        refine ⟨_, rfl, t, _, 0, _, rfl, rfl, hq, atI_zero _ _, ?_⟩
        refine ⟨_, rfl, pS, kind, _, rfl, rfl, T.w_SHAPES, _, rfl, ?_⟩
        rw [shapes_look]
        have k : ∀ H', Same H H' → Q (.bl (match shapes.lookup kind with | none => false | some sh => fitRow E0 c kind dr depth lp sh)) H' := k
        cases hsh : shapes.lookup kind with
        | none =>
          rw [hsh] at k
          exact ifT rfl (ifT rfl (k _ (Same.refl _)))
        | some sh =>
        rw [hsh] at k
        have k : ∀ H', Same H H' → Q (.bl (fitRow E0 c kind dr depth lp sh)) H' := k
        unfold fitRow at k
        refine ifF rfl ⟨_, rfl, rfl, _, rfl, ?_⟩
        rw [dec_strV]
        by_cases e1 : kind = "edit" ∧ E0.we = false
        · rw [if_pos e1] at k
          refine ifT (decide_eq_true e1.1) ⟨_, rfl, _, _, _, _, _, rfl, O.ob, hC ▸ rc.cls, hC ▸ rc.n3, rfl, _, rfl, ?_⟩
          rw [e1.2]
          exact ifT rfl (k _ (Same.refl _))
        rw [if_neg e1] at k
        refine andNo (fun e n => ?_) (ifF rfl ?_)
        · refine ⟨_, rfl, _, _, _, _, _, rfl, O.ob, hC ▸ rc.cls, hC ▸ rc.n3, rfl, _, rfl, ?_⟩
          rw [show E0.we = true from (by cases q : E0.we with | true => rfl | false => exact absurd ⟨e, q⟩ e1)]
          exact n
        refine ⟨_, rfl, rfl, _, rfl, ?_⟩
        rw [dec_strV]
        by_cases e2 : kind = "leave" ∧ lp = false
        · rw [if_pos e2] at k
          refine ifT (decide_eq_true e2.1) ⟨_, rfl, _, rfl, ?_⟩
          rw [e2.2]
          exact ifT rfl (k _ (Same.refl _))
        rw [if_neg e2] at k
        refine andNo (fun e n => ?_) (ifF rfl ?_)
        · refine ⟨_, rfl, _, rfl, ?_⟩
          cases lp with
          | true => exact n
          | false => exact absurd ⟨e, rfl⟩ e2
        refine ⟨_, rfl, pS, kind, _, .str sh, rfl, rfl, T.w_SHAPES, by rw [shapes_look, hsh]; rfl, ?_⟩
        have hsl := shapes_len hsh
        have hvl := hr0.len
        refine ⟨_, rfl, t, _, rfl, .inr hq, _, rfl, sh, rfl, sz_lit (by omega), _, _, rfl, rfl, rfl, _, rfl, ?_⟩
        have el : decide (V.int ((V.str kind :: vr).length : Nat) = V.int (1 + (sh.length : Nat))) = decide (dr.length = sh.length) := by
          rw [Bool.eq_iff_iff, decide_eq_true_iff, decide_eq_true_iff, List.length_cons]
          constructor
          · intro z; injection z with z; omega
          · intro z; congr 1; omega
        rw [el]
        by_cases e3 : ¬ dr.length = sh.length
        · rw [if_pos e3] at k
          rw [decide_eq_false e3]
          exact ifT rfl (k _ (Same.refl _))
        rw [if_neg e3] at k
        have e3 : dr.length = sh.length := Decidable.byContradiction e3
        rw [decide_eq_true e3]
        refine ifF rfl ?_
        refine ⟨_, rfl, 98, sh, rfl, rfl, _, rfl, ?_⟩
        by_cases e4 : (hasC 98 sh || hasC 116 sh) = true ∧ 5 ≤ depth
        · rw [if_pos e4] at k
          by_cases q : 98 ∈ sh.cps.toList
          · refine ifT (decide_eq_true q) (ifT rfl ⟨_, rfl, _, _, rfl, rfl, _, rfl, ?_⟩)
            exact ifT (decide_eq_true e4.2) (k _ (Same.refl _))
          · refine ifF (decide_eq_false q) ⟨_, rfl, 116, sh, rfl, rfl, _, rfl, ?_⟩
            have e5 := e4.1
            unfold hasC at e5
            rw [decide_eq_false q, Bool.false_or] at e5
            refine ifT e5 ⟨_, rfl, _, _, rfl, rfl, _, rfl, ?_⟩
            exact ifT (decide_eq_true e4.2) (k _ (Same.refl _))
        rw [if_neg e4] at k
        apply orNo
        · intro e n
          refine ifT rfl ⟨_, rfl, _, _, rfl, rfl, _, rfl, ?_⟩
          have e5 : decide (5 ≤ depth) = false := decide_eq_false fun h => e4 ⟨by unfold hasC; rw [decide_eq_true e]; rfl, h⟩
          show ite (decide (5 ≤ depth) = true) _ _
          rw [e5]
          exact n
        · intro e n
          refine ⟨_, rfl, 116, sh, rfl, rfl, _, rfl, ?_⟩
          by_cases q : 116 ∈ sh.cps.toList
          · refine ifT (decide_eq_true q) ⟨_, rfl, _, _, rfl, rfl, _, rfl, ?_⟩
            have e5 : decide (5 ≤ depth) = false := decide_eq_false fun h => e4 ⟨by unfold hasC; rw [decide_eq_true q, Bool.or_true], h⟩
            show ite (decide (5 ≤ depth) = true) _ _
            rw [e5]
            exact n
          · exact ifF (decide_eq_false q) n
        refine ifF rfl ?_
        refine ⟨_, rfl, _, rfl, 1, rfl, t, _, rfl, hq, fun z => absurd z (cut1n _ _), fun _ p hp => ?_⟩
        rw [cut1]
        have sm : Same H (upd H p (.tup vr)) := Same.new hp
        refine ⟨sh, p, vr, rfl, .inl (.inl upd_same), ?_⟩
        have hlen : sh.cps.size = dr.length := e3.symm
        refine for_zipS (by omega) (fun i σ H' => (∃ y6 y7 : Option V, σ = [some (.ref R.a), some (.ref t), some (.int depth), some (.bl lp), some (.str kind), some (.str sh), y6, y7]) ∧ Same H H' ∧ SqT K H' p vr ∧ ((sh.cps.toList.zip dr).take i).all (fun p => partFits E0 ⟨#[p.1]⟩ p.2) = true) ⟨⟨_, _, rfl⟩, sm, .inl (.inl upd_same), rfl⟩ (fun i σ H' q => q.2.2.1) ?_ ?_
        · rintro i ch y T0 σ H' h1 h2 ⟨⟨y6, y7, rfl⟩, s1, hp1, hall⟩ hT0
          obtain ⟨d, h3, hdy⟩ := hr0.get h2
          have sm1 : Same H' (upd H' T0 (.tup [.str ⟨#[ch]⟩, y])) := Same.new hT0
          have hz : (sh.cps.toList.zip dr)[i]? = some (ch, d) := by
            rw [List.getElem?_zip_eq_some]
            exact ⟨by rw [Array.getElem?_toList]; exact h1, h3⟩
          refine ⟨T0, _, rfl, .inl (.inl upd_same), rfl, _, _, rfl, _, _, rfl, rfl, ?_⟩
          have s2 := s1.trans sm1
          have hp2 := hp1.mono sm1
          revert s2 hp2
          generalize upd H' T0 (.tup [.str ⟨#[ch]⟩, y]) = H2
          intro s2 hp2
          have O2 := O.mono s2
          have hwd : wt d ≤ 100000 := by
            have a1 := wts_mem (List.mem_of_getElem? h3)
            have a2 : wt (.tuple (.str kind :: dr)) = 1 + (wt (.str kind) + wts dr) := by rw [wt_tuple, wts_cons]
            omega
          subst hC
          refine ⟨_, rfl, _, _, _, rfl, O2.ob, rfl, _, rfl, _, rfl, R, E0, c, _, y, d, rfl, O2, rc, hdy.mono s2, hwd, _, rfl, ?_⟩
          by_cases q : partFits E0 ⟨#[ch]⟩ d = true
          · rw [q]
            refine ifF rfl ⟨⟨_, _, rfl⟩, s2, hp2, ?_⟩
            rw [TS.take_one hz, List.all_append, hall]
            simp [q]
          · rw [Bool.eq_false_iff.mpr q]
            refine ifT rfl ?_
            have e5 : fitAll E0 sh dr = false := by
              refine Bool.eq_false_iff.mpr fun z => q ?_
              exact List.all_eq_true.mp z (ch, d) (List.mem_of_getElem? hz)
            rw [e5] at k
            exact k _ s2
        · rintro σ H' ⟨⟨y6, y7, rfl⟩, s1, _, hall⟩
          rw [List.take_of_length_le (by rw [List.length_zip, Array.length_toList]; omega)] at hall
          have e5 : fitAll E0 sh dr = true := hall
          rw [if_pos e5] at k
          have O2 := O.mono s1
          subst hC
          refine ⟨_, rfl, _, _, _, rfl, O2.ob, rfl, _, rfl, R, E0, c, t, kind, dr, rfl, O2, rc, .tup (hq.mono s1) (.cons (.str kind) (DpAll.mono s1 hr0)), ids_word hsh ((fitAll_iff hlen).mp e5), fun H3 s3 => k _ (s1.trans s3)⟩
      | _ => exact ifT rfl (k _ (Same.refl _))
    | _ => exact ifT rfl (ifT rfl (k _ (Same.refl _)))
end
end Op
namespace L2
open PySem PySem.Spec PyProof.Rows
theorem DpAll.append {K : PySem.W.Frag} {H : Hp} : ∀ {vs ws : List V} {ds es : List PyData}, DpAll K H vs ds → DpAll K H ws es → DpAll K H (vs ++ ws) (ds ++ es)
  | _, _, _, _, .nil, h => h
  | _, _, _, _, .cons a b, h => .cons a (b.append h)
end L2
namespace Op
open PySem L2 PyProof.Rows
/-- the lists of rows within a row -/
def innerL (kind : Str) (parts : List PyData) : List PyData :=
  if kind = "both" then (match parts with | .tuple ds :: _ => ds | _ => []) else parts.filter isList
section
variable {P : Program} {w : World} {K : PySem.W.Frag} {mg : Str → Option Value} {base : Heap}
def spInner (K : PySem.W.Frag) : Sp := fun vs H Q _ => ∃ (t : Addr) (kind : Str) (parts : List PyData), vs = [.ref t] ∧ Dp K H (.ref t) (.tuple (.str kind :: parts)) ∧ parts.length ≤ 1000 ∧ (kind = "both" → ∃ ds r, parts = .tuple ds :: r) ∧
  ∀ p xs H', Same H H' → H p = none → H' p = some (.lst xs) → DpAll K H xs (innerL kind parts) → Q (.ref p) H'
/-- the same, the data read in a part G of the heap -/
def spInnerG (K : PySem.W.Frag) : Sp := fun vs H Q _ => ∃ (G : Hp) (t : Addr) (kind : Str) (parts : List PyData), vs = [.ref t] ∧ Same G H ∧ Dp K G (.ref t) (.tuple (.str kind :: parts)) ∧ parts.length ≤ 1000 ∧ (kind = "both" → ∃ ds r, parts = .tuple ds :: r) ∧
  ∀ p xs H', Same H H' → H p = none → H' p = some (.lst xs) → DpAll K G xs (innerL kind parts) → Q (.ref p) H'
theorem sc_inner_lists : FnScope ["row", "part"] ["row"] (defScope s_inner_lists) := ⟨rfl, rfl, rfl, by decide +kernel, rfl, by decide +kernel, by decide +kernel⟩
theorem ok_inner_listsG {f : Addr} {fd : FuncData} (F : Fun K "inner_lists" "inner_lists" s_inner_lists f fd) (T : Txt mg) : FnOk P w K mg base CX0 1 f fd ["row"] (spInnerG K) := by
  refine F.ok sc_inner_lists (fun vs H Q E h => ?_) (fun cdv A outer s H vs Q E hr h => ?_)
  · obtain ⟨G, t, kind, parts, rfl, _⟩ := h
    rfl
  · obtain ⟨G, t, kind, parts, rfl, hG, hd, hpl, hb, k⟩ := h
    cases hd with
    | @tup _ xs _ hq ha =>
    cases ha with
    | @cons v0 vr d0 dr h0 hr0 =>
    cases h0 with
    | str kind =>
    have hqG := hq
    replace hq := hq.mono hG
    have hvl := hr0.len
    unfold innerL at k
    refine ⟨_, (pss_cons (ps_if (pt_cmpR op_eq (pe_ix ix_tup (pv 0) pe_int (fun _ _ => rfl)) pe_str (nomark _)) (pss_one (ps_ret (pe_callTy call_list_of (by rfl) T.b_list (by decide +kernel) (pa_cons (pe_ix ix_tup (pv 0) pe_int (fun _ _ => rfl)) pa_nil)))) pss_nil)
      (pss_one (ps_ret (pe_lc (own := [("part", 1)]) (g := gName 1)  rfl sc_inner_lists.nd (pi_tup (pv 0)) (blkOk_by (own := [("part", 1)]) (N := ["row", "part"]) (sc := defScope s_inner_lists) (by decide +kernel)) (fun _ _ _ _ _ => (pg_name (i := 1) sc_inner_lists.nd rfl (.inl rfl))) (fun _ _ _ _ _ => (pts_one (pt_val (pe_callB (id := "isinstance") (r := rIsi K) call_isi (by rfl) T.b_isinstance (by decide +kernel) (pa_cons (pv 1) (pa_cons (pe_bltn (v := .ty "list") (by rfl) T.b_list (by decide +kernel) rfl) pa_nil)))))) (fun _ _ _ _ _ => (pv 1)))))), ?_⟩
    refine ⟨_, rfl, t, _, 0, _, rfl, rfl, hq, atI_zero _ _, rfl, _, rfl, ?_⟩
    rw [dec_strV]
    by_cases e1 : kind = "both"
    · rw [if_pos e1] at k
      obtain ⟨ds, r, rfl⟩ := hb e1
      cases hr0 with
      | @cons v1 vs1 d1 dr1 h1 hr1 =>
      cases h1 with
      | @tup q ws _ hqw haw =>
      refine ifT (decide_eq_true e1) ⟨_, rfl, t, _, 1, _, rfl, rfl, hq, atI_one _ _ _, q, ws, rfl, .inr (hqw.mono hG), fun l hl => ?_⟩
      exact k l ws _ (Same.new hl) hl upd_same haw
    · rw [if_neg e1] at k
      refine ifF (decide_eq_false e1) ⟨_, rfl, t, rfl, ⟨_, hq⟩, fun D hD => ?_⟩
      refine lc_it (walk_tup (xs := .str kind :: vr)) (fun i H' => ∃ acc, H' D = some (.lst acc) ∧ acc.length ≤ i ∧ DpAll K G acc (((.str kind :: parts).take i).filter isList) ∧ Same H H') ⟨[], upd_same, Nat.le_refl _, .nil, Same.new hD⟩ (fun i H' _ p => hq.mono (let ⟨_, _, _, _, s⟩ := p; s)) ?_ ?_
      · rintro i x H1 H2 hi ⟨acc, hacc, hal, hdp, sm⟩ ⟨rfl, hx⟩
        obtain ⟨d, hd1, hd2⟩ := DpAll.get (.cons (.str kind) hr0) hx
        refine ⟨rfl, _, rfl, x, _, _, _, _, rfl, .ty _, ty_dp ((hd2.mono hG).mono sm), kit_list d, _, rfl, ?_⟩
        have hi' : i < 2000 := by rw [List.length_cons] at hi; omega
        have e2 : ((.str kind :: parts).take (i + 1)).filter isList = ((.str kind :: parts).take i).filter isList ++ [d].filter isList := by
          rw [TS.take_one hd1, List.filter_append]
        by_cases q : isList d = true
        · rw [q]
          refine ifT rfl ⟨_, rfl, acc, hacc, lt_sz (by omega), acc ++ [x], upd_same, by rw [List.length_append]; show acc.length + 1 ≤ _; omega, ?_, fun b o hb => ?_⟩
          · rw [e2, List.filter_cons_of_pos q, List.filter_nil]
            exact hdp.append (.cons hd2 .nil)
          · rw [upd_ne (ne_of_none hb hD)]
            exact sm b o hb
        · rw [Bool.eq_false_iff.mpr q]
          refine ifF rfl ⟨acc, hacc, by omega, ?_, sm⟩
          rw [e2, List.filter_cons_of_neg (by rw [Bool.eq_false_iff.mpr q]; exact Bool.false_ne_true), List.filter_nil, List.append_nil]
          exact hdp
      · rintro H1 ⟨acc, hacc, _, hdp, sm⟩
        refine k D acc H1 sm hD hacc ?_
        rw [List.take_of_length_le (by rw [List.length_cons, List.length_cons]; omega)] at hdp
        exact hdp
theorem ok_inner_lists {f : Addr} {fd : FuncData} (F : Fun K "inner_lists" "inner_lists" s_inner_lists f fd) (T : Txt mg) : FnOk P w K mg base CX0 1 f fd ["row"] (spInner K) :=
  (ok_inner_listsG F T).imp fun vs H Q E h => by
    obtain ⟨t, kind, parts, rfl, hd, hpl, hb, k⟩ := h
    exact ⟨H, t, kind, parts, rfl, fun _ _ z => z, hd, hpl, hb, k⟩
end
end Op
namespace Op
open PySem L2 PyProof.Rows
/-! ### the mirror: the check of a list of rows -/
abbrev Out := Except (List Int) Chk
def listOf : PyData → List PyData
  | .list ds => ds
  | _ => []
def chkIn (rec : List PyData → List Int → Chk → Out) (pre : List Int) : List PyData → Nat → Chk → Out
  | [], _, c => .ok c
  | d :: r, j, c => match rec (listOf d) (pre ++ [(j : Int)]) c with
    | .error p => .error p
    | .ok c' => chkIn rec pre r (j + 1) c'
def inside (lp : Bool) (kind : Str) : Bool := if kind = "both" then false else lp || decide (kind = "loop")
def shapeOf (kind : Str) : Str := (shapes.lookup kind).getD ""
def chkRow (rec : Bool → List PyData → List Int → Chk → Out) (E : Env0) (depth : Int) (lp : Bool) (pre : List Int) (d : PyData) (i : Nat) (c : Chk) : Out :=
  match d with
  | .tuple (.str kind :: parts) => if fits E c d depth lp = true then chkIn (rec (inside lp kind)) (pre ++ [(i : Int)]) (innerL kind parts) 0 (collect { c with total := c.total + 1 } kind (shapeOf kind) parts) else .error (pre ++ [(i : Int)])
  | _ => .error (pre ++ [(i : Int)])
def chkRows (row : PyData → Nat → Chk → Out) : List PyData → Nat → Chk → Out
  | [], _, c => .ok c
  | d :: r, i, c => match row d i c with
    | .error p => .error p
    | .ok c' => chkRows row r (i + 1) c'
def chkL (E : Env0) : Nat → Bool → List PyData → List Int → Chk → Out
  | 0, _, _, _, c => .ok c
  | n + 1, lp, ds, pre, c => chkRows (chkRow (chkL E n) E (5 - (n : Int)) lp pre) ds 0 c
/-! ### sizes -/
theorem colPart_cap {E : Env0} {kind : Str} {c : Chk} {x : Str} {d : PyData} {n : Nat} (hf : partFits E x d = true) (h : Cap c n) : Cap (colPart kind c x d) (n + 3) := by
  obtain ⟨h1, h2, h3, h4⟩ := h
  unfold colPart
  split
  · have := putW_len c.labels (strOf d)
    exact ⟨by show (putW c.labels (strOf d)).length ≤ _; omega, by show c.slots.length ≤ _; omega, by show c.gates.length ≤ _; omega, by show c.edits.length ≤ _; omega⟩
  · split
    · rename_i e
      obtain ⟨zs, rfl, hz, _⟩ := aw_tup (pf_m (by rw [← e]; exact hf))
      refine ⟨?_, by show c.slots.length ≤ _; omega, by show c.gates.length ≤ _; omega, by show c.edits.length ≤ _; omega⟩
      show (((zs.map PyData.str).map strOf).foldl putW c.labels).length ≤ _
      rw [map_strOf]
      have := foldW_len zs c.labels
      omega
    · split
      · have := putW_len c.slots (strOf d)
        exact ⟨by show c.labels.length ≤ _; omega, by show (putW c.slots (strOf d)).length ≤ _; omega, by show c.gates.length ≤ _; omega, by show c.edits.length ≤ _; omega⟩
      · split
        · have := putW_len c.edits (strOf d)
          exact ⟨by show c.labels.length ≤ _; omega, by show c.slots.length ≤ _; omega, by show c.gates.length ≤ _; omega, by show (putW c.edits (strOf d)).length ≤ _; omega⟩
        · split
          · have := putW_len c.gates (strOf d)
            exact ⟨by show c.labels.length ≤ _; omega, by show c.slots.length ≤ _; omega, by show (putW c.gates (strOf d)).length ≤ _; omega, by show c.edits.length ≤ _; omega⟩
          · exact ⟨by omega, by omega, by omega, by omega⟩
theorem colPart_total {kind : Str} {c : Chk} {x : Str} {d : PyData} : (colPart kind c x d).total = c.total := by
  unfold colPart
  repeat' split
  all_goals rfl
theorem collect_cap {E : Env0} {kind sh : Str} {c : Chk} {parts : List PyData} {n : Nat} (hf : Fitted E sh parts) (h : Cap c n) : Cap (collect c kind sh parts) (n + 3 * parts.length) := by
  have key : ∀ i, i ≤ parts.length → Cap (colN c kind sh parts i) (n + 3 * i) := by
    intro i
    induction i with
    | zero => intro _; exact h
    | succ i ih =>
      intro hi
      have h2 : parts[i]? = some parts[i] := List.getElem?_eq_getElem hi
      have hs : i < sh.cps.size := by rw [hf.1]; exact hi
      have h1 : sh.cps[i]? = some sh.cps[i] := Array.getElem?_eq_getElem hs
      rw [colN_succ h1 h2]
      exact (colPart_cap (hf.2 i _ _ h1 h2) (ih (by omega))).mono (by omega)
  rw [← colN_all hf.1]
  exact key _ (Nat.le_refl _)
def wIn : List PyData → Nat
  | [] => 0
  | d :: r => wts (listOf d) + wIn r
theorem wts_listOf (d : PyData) : wts (listOf d) + 1 ≤ wt d := by
  cases d with
  | list ds => rw [wt_list]; show wts ds + 1 ≤ _; omega
  | _ => exact (by have := wt_pos; rw [show listOf _ = [] from rfl, wts_nil]; exact wt_pos _)
theorem wIn_le : ∀ ds : List PyData, wIn ds ≤ wts ds
  | [] => by rw [wts_nil]; exact Nat.le_refl _
  | d :: r => by
    have := wIn_le r
    have := wts_listOf d
    rw [wts_cons]
    show wts (listOf d) + wIn r ≤ _
    omega
theorem wIn_filter : ∀ ds : List PyData, ds.length + wIn (ds.filter isList) ≤ wts ds
  | [] => by rw [wts_nil]; exact Nat.le_refl _
  | d :: r => by
    have h1 := wIn_filter r
    have h2 := wts_listOf d
    rw [wts_cons, List.length_cons]
    by_cases q : isList d = true
    · rw [List.filter_cons_of_pos q]
      show _ + (wts (listOf d) + wIn (r.filter isList)) ≤ _
      omega
    · rw [List.filter_cons_of_neg q]
      omega
theorem wIn_inner (kind : Str) (parts : List PyData) : parts.length + wIn (innerL kind parts) ≤ wts parts := by
  unfold innerL
  split
  · cases parts with
    | nil => rw [wts_nil]; exact Nat.le_refl _
    | cons d r =>
      have h1 := wts_len r
      have h0 := wt_pos d
      rw [wts_cons, List.length_cons]
      cases d with
      | tuple ds =>
        have := wIn_le ds
        rw [wt_tuple]
        show _ + wIn ds ≤ _
        omega
      | _ =>
        show r.length + 1 + 0 ≤ _
        omega
  · exact wIn_filter parts
def CapF (f : List PyData → List Int → Chk → Out) : Prop := ∀ ds pre c c' m, f ds pre c = .ok c' → Cap c m → Cap c' (m + 3 * wts ds)
theorem chkIn_cap {f : List PyData → List Int → Chk → Out} (hf : CapF f) {pre : List Int} : ∀ (l : List PyData) (j : Nat) (c c' : Chk) (m : Nat), chkIn f pre l j c = .ok c' → Cap c m → Cap c' (m + 3 * wIn l)
  | [], j, c, c', m, h, k => by
    obtain rfl := Except.ok.inj h
    exact k
  | d :: r, j, c, c', m, h, k => by
    unfold chkIn at h
    cases q : f (listOf d) (pre ++ [(j : Int)]) c with
    | error p => rw [q] at h; cases h
    | ok c1 =>
      rw [q] at h
      have h1 := hf _ _ _ _ _ q k
      have h2 := chkIn_cap hf r (j + 1) c1 c' _ h h1
      exact h2.mono (by show _ ≤ m + 3 * (wts (listOf d) + wIn r); omega)
theorem fits_shape {E : Env0} {c : Chk} {kind : Str} {parts : List PyData} {depth : Int} {lp : Bool} (h : fits E c (.tuple (.str kind :: parts)) depth lp = true) : shapes.lookup kind = some (shapeOf kind) ∧ Fitted E (shapeOf kind) parts ∧ ((hasC 98 (shapeOf kind) || hasC 116 (shapeOf kind)) = true → depth < 5) := by
  have h : (match shapes.lookup kind with | none => false | some sh => fitRow E c kind parts depth lp sh) = true := h
  cases q : shapes.lookup kind with
  | none => rw [q] at h; cases h
  | some sh =>
    rw [q] at h
    have e : shapeOf kind = sh := by unfold shapeOf; rw [q]; rfl
    rw [e]
    have h : fitRow E c kind parts depth lp sh = true := h
    unfold fitRow at h
    split at h
    · cases h
    · split at h
      · cases h
      · split at h
        · cases h
        · rename_i e3
          have e3 : parts.length = sh.length := Decidable.byContradiction e3
          split at h
          · cases h
          · rename_i e4
            split at h
            · rename_i e5
              exact ⟨rfl, (fitAll_iff e3.symm).mp e5, fun z => Decidable.byContradiction fun w => e4 ⟨z, by omega⟩⟩
            · cases h
theorem chkRow_cap {rec : Bool → List PyData → List Int → Chk → Out} (hr : ∀ lp, CapF (rec lp)) {E : Env0} {depth : Int} {lp : Bool} {pre : List Int} {d : PyData} {i : Nat} {c c' : Chk} {m : Nat} (h : chkRow rec E depth lp pre d i c = .ok c') (k : Cap c m) : Cap c' (m + 3 * wt d) := by
  unfold chkRow at h
  split at h
  · rename_i kind parts
    split at h
    · rename_i hf
      obtain ⟨_, hF, _⟩ := fits_shape hf
      have h1 := collect_cap (kind := kind) (c := { c with total := c.total + 1 }) hF k
      have h2 := chkIn_cap (hr _) _ _ _ _ _ h h1
      have h3 := wIn_inner kind parts
      refine h2.mono ?_
      rw [wt_tuple, wts_cons]
      omega
    · cases h
  · cases h
theorem chkRows_cap {row : PyData → Nat → Chk → Out} (hr : ∀ d i c c' m, row d i c = .ok c' → Cap c m → Cap c' (m + 3 * wt d)) : ∀ (l : List PyData) (j : Nat) (c c' : Chk) (m : Nat), chkRows row l j c = .ok c' → Cap c m → Cap c' (m + 3 * wts l)
  | [], j, c, c', m, h, k => by
    obtain rfl := Except.ok.inj h
    exact k.mono (by omega)
  | d :: r, j, c, c', m, h, k => by
    unfold chkRows at h
    cases q : row d j c with
    | error p => rw [q] at h; cases h
    | ok c1 =>
      rw [q] at h
      have h1 := hr _ _ _ _ _ q k
      have h2 := chkRows_cap hr r (j + 1) c1 c' _ h h1
      exact h2.mono (by rw [wts_cons]; omega)
theorem chkL_cap (E : Env0) : ∀ (n : Nat) (lp : Bool), CapF (chkL E n lp)
  | 0, lp => fun ds pre c c' m h k => by
    obtain rfl := Except.ok.inj h
    exact k.mono (by omega)
  | n + 1, lp => fun ds pre c c' m h k => chkRows_cap (fun d i c c' m h k => chkRow_cap (chkL_cap E n) h k) ds 0 c c' m h k
/-- at the deepest level no row has lists -/
theorem inner_deep {E : Env0} {c : Chk} {kind : Str} {parts : List PyData} {depth : Int} {lp : Bool} (h : fits E c (.tuple (.str kind :: parts)) depth lp = true) (hd : 5 ≤ depth) : innerL kind parts = [] := by
  obtain ⟨hs, ⟨hl, hF⟩, hb⟩ := fits_shape h
  have nb : (hasC 98 (shapeOf kind) || hasC 116 (shapeOf kind)) = false := Bool.eq_false_iff.mpr fun z => by
    have := hb z
    omega
  unfold innerL
  split
  · rename_i e
    subst e
    exact absurd nb (by decide +kernel)
  · refine List.filter_eq_nil_iff.mpr fun d hm hd' => ?_
    obtain ⟨i, hi⟩ := List.getElem?_of_mem hm
    have hi' := (List.getElem?_eq_some_iff.mp hi).1
    have h1 : (shapeOf kind).cps[i]? = some ((shapeOf kind).cps[i]'(by omega)) := Array.getElem?_eq_getElem _
    have hf := hF i _ d h1 hi
    have hm' : (shapeOf kind).cps[i]'(by omega) ∈ (shapeOf kind).cps.toList := List.mem_of_getElem? (i := i) (by rw [Array.getElem?_toList]; exact h1)
    revert hf hm' 
    generalize (shapeOf kind).cps[i]'(by omega) = ch
    intro hf hm'
    have n1 : ch ≠ 98 := fun z => by
      unfold hasC at nb
      rw [← z, decide_eq_true hm'] at nb
      cases nb
    have n2 : ch ≠ 116 := fun z => by
      unfold hasC at nb
      rw [← z, decide_eq_true hm', Bool.or_true] at nb
      cases nb
    have sb : ¬ (⟨#[ch]⟩ : Str) = "b" := fun z => n1 (by
      have z : (⟨#[ch]⟩ : Str) = ⟨#[98]⟩ := z
      simpa using z)
    have st : ¬ (⟨#[ch]⟩ : Str) = "t" := fun z => n2 (by
      have z : (⟨#[ch]⟩ : Str) = ⟨#[116]⟩ := z
      simpa using z)
    by_cases em : (⟨#[ch]⟩ : Str) = "m" ∨ (⟨#[ch]⟩ : Str) = "v"
    · unfold partFits at hf
      rw [if_neg (by rcases em with e | e <;> (rw [e]; decide +kernel)), if_neg (by rcases em with e | e <;> (rw [e]; decide +kernel)), if_neg (by rcases em with e | e <;> (rw [e]; decide +kernel)), if_pos em] at hf
      cases d with
      | tuple _ => cases hd'
      | _ => cases hf
    · have := pf_word hf ⟨em, sb, st⟩
      cases d with
      | str _ => cases hd'
      | _ => cases this
theorem both_tuple {E : Env0} {c : Chk} {kind : Str} {parts : List PyData} {depth : Int} {lp : Bool} (h : fits E c (.tuple (.str kind :: parts)) depth lp = true) (hk : kind = "both") : ∃ ds r, parts = .tuple ds :: r ∧ ∀ d ∈ ds, isList d = true := by
  obtain ⟨hs, ⟨hl, hF⟩, hb⟩ := fits_shape h
  subst hk
  cases parts with
  | nil => exact absurd hl (by decide +kernel)
  | cons d r =>
    have hf := hF 0 116 d (by decide +kernel) rfl
    have hf : isBranches d = true := hf
    cases d with
    | tuple ds => exact ⟨ds, r, rfl, fun d hd => List.all_eq_true.mp (Bool.and_eq_true_iff.mp hf).2 d hd⟩
    | _ => cases hf
theorem inner_lists_all {E : Env0} {c : Chk} {kind : Str} {parts : List PyData} {depth : Int} {lp : Bool} (h : fits E c (.tuple (.str kind :: parts)) depth lp = true) : ∀ d ∈ innerL kind parts, isList d = true := by
  intro d hd
  unfold innerL at hd
  split at hd
  · rename_i e
    obtain ⟨ds, r, rfl, p⟩ := both_tuple h e
    exact p d hd
  · exact (List.mem_filter.mp hd).2
end Op
namespace L2
open PySem PySem.Spec PyProof.Rows
theorem cat_any {K : PySem.W.Frag} {H : Hp} {a b : Addr} {xs ys : List V} {Q : VK} (ha : SqT K H a xs) (hb : SqT K H b ys) (hz : xs.length + ys.length ≤ sizeLine) (k : ∀ t H', Same H H' → SqT K H' t (xs ++ ys) → Q (.ref t) H') : rCatA K (.ref a) (.ref b) H Q := by
  refine ⟨a, b, xs, ys, rfl, rfl, ha, hb, hz, fun e => ?_, fun _ e => ?_, fun _ _ p hp => k p _ (Same.new hp) (.inl (.inl upd_same))⟩
  · subst e
    exact k b H (Same.refl _) hb
  · subst e
    exact k a H (Same.refl _) (by rw [List.append_nil]; exact ha)
end L2
namespace Op
open PySem L2 PyProof.Rows
theorem putF_total (A : RcA) (E : Env0) (c : Chk) (n : Int) : putF "total" (.int n) (rcF A E c) = rcF A E { c with total := n } := rfl
theorem chkRow_no {rec : Bool → List PyData → List Int → Chk → Out} {E : Env0} {depth : Int} {lp : Bool} {pre : List Int} {d : PyData} {i : Nat} {c : Chk} (h : fits E c d depth lp = false) : chkRow rec E depth lp pre d i c = .error (pre ++ [(i : Int)]) := by
  unfold chkRow
  split
  · rw [if_neg (by rw [h]; exact Bool.false_ne_true)]
  · rfl
theorem fits_tuple {E : Env0} {depth : Int} {lp : Bool} {d : PyData} {c : Chk} (h : fits E c d depth lp = true) : ∃ kind parts, d = .tuple (.str kind :: parts) := by
  unfold fits at h
  split at h
  · exact ⟨_, _, rfl⟩
  · cases h
theorem sz1 (x : V) : [x].length ≤ sizeLine := sz_lit (by show 1 ≤ 100000; decide)
theorem sz2 (x y : V) : [x, y].length ≤ sizeLine := sz_lit (by show 2 ≤ 100000; decide)
def contR (f : Chk → Out) : Out → Out
  | .error p => .error p
  | .ok c => f c
theorem chkRows_cons (row : PyData → Nat → Chk → Out) (d : PyData) (r : List PyData) (i : Nat) (c : Chk) : chkRows row (d :: r) i c = contR (chkRows row r (i + 1)) (row d i c) := by
  rw [chkRows]
  cases row d i c <;> rfl
theorem chkIn_cons (f : List PyData → List Int → Chk → Out) (pre : List Int) (d : PyData) (r : List PyData) (j : Nat) (c : Chk) : chkIn f pre (d :: r) j c = contR (chkIn f pre r (j + 1)) (f (listOf d) (pre ++ [(j : Int)]) c) := by
  rw [chkIn]
  cases f (listOf d) (pre ++ [(j : Int)]) c <;> rfl
theorem chkRow_yes {rec : Bool → List PyData → List Int → Chk → Out} {E : Env0} {depth : Int} {lp : Bool} {pre : List Int} {kind : Str} {parts : List PyData} {i : Nat} {c : Chk} (h : fits E c (.tuple (.str kind :: parts)) depth lp = true) :
    chkRow rec E depth lp pre (.tuple (.str kind :: parts)) i c = chkIn (rec (inside lp kind)) (pre ++ [(i : Int)]) (innerL kind parts) 0 (collect { c with total := c.total + 1 } kind (shapeOf kind) parts) := if_pos h
theorem map_snoc (pre : List Int) (i : Int) : pre.map V.int ++ [V.int i] = (pre ++ [i]).map V.int := by rw [List.map_append]; rfl
theorem map_snoc2 (pre : List Int) (i j : Int) : pre.map V.int ++ [V.int i, V.int j] = (pre ++ [i] ++ [j]).map V.int := by rw [List.map_append, List.map_append, List.append_assoc]; rfl
section
variable {P : Program} {w : World} {K : PySem.W.Frag} {mg : Str → Option Value} {base : Heap} {pS CI C : Addr}
/-- InvalidProgram(part, path) stands in the dict d -/
def XProg (K : PySem.W.Frag) (H : Hp) (d : Addr) (part : Str) (path : List Int) : Prop := ∃ t, H d = some (.xd [("path", .ref t), ("part", .str part)]) ∧ SqT K H t (path.map V.int)
def spCL (K : PySem.W.Frag) (C CI : Addr) : Nat → Sp
  | 0 => fun _ _ _ _ => False
  | n + 1 => fun vs H Q X => ∃ (A : RcA) (E : Env0) (c : Chk) (rws pr : Addr) (ds : List PyData) (pre : List Int) (lp : Bool) (m : Nat), vs = [.ref A.a, .ref rws, .ref pr, .int (5 - (n : Int)), .bl lp] ∧ A.C = C ∧ RC H A E c ∧ Dp K H (.ref rws) (.list ds) ∧ SqT K H pr (pre.map V.int) ∧ pre.length + 2 * n ≤ 100 ∧ Cap c m ∧ m + 3 * wts ds ≤ 90000 ∧
    (∀ c', chkL E (n + 1) lp ds pre c = .ok c' → ∀ H', Fr A.L H H' → RC H' A E c' → Q .non H') ∧ (∀ p, chkL E (n + 1) lp ds pre c = .error p → ∀ H' d, Fr A.L H H' → XProg K H' d "rows" p → X (.ref CI) (some d) H')
theorem sc_RowCheck_check_list : FnScope ["self", "rows", "prefix", "depth", "in_loop", "index", "row", "inside", "number", "inner"] ["self", "rows", "prefix", "depth", "in_loop"] (defScope s_RowCheck_check_list) := ⟨rfl, rfl, rfl, by decide +kernel, rfl, by decide +kernel, by decide +kernel⟩
theorem ok_check_list {f : Addr} {fd : FuncData} (F : Fun K "check_list" "RowCheck.check_list" s_RowCheck_check_list f fd) (T : TxtC P w K mg pS CI) (rc : RcC K C) (hm : Meth K C "check_list" f) (hb : Binds K fd ["self", "rows", "prefix", "depth", "in_loop"] []) (m_fits : Mcal P w K mg base CX0 4 C "fits" ["self", "row", "depth", "in_loop"] (spFits K C)) (m_collect : Mcal P w K mg base CX0 1 C "collect" ["self", "row"] (spCol K)) (c_inner_lists : Cal P w K mg base CX0 1 "inner_lists" ["row"] (spInner K)) :
    ∀ n : Nat, FnOk P w K mg base (L2.CX P w) (5 + n + 1) f fd ["self", "rows", "prefix", "depth", "in_loop"] (spCL K C CI n)
  | 0 => F.okX sc_RowCheck_check_list (fun vs H Q E h => h.elim) (fun cdv A outer s H vs Q E hr h => h.elim)
  | n + 1 => by
    have m_check_list : Mcal P w K mg base (L2.CX P w) (5 + n + 1) C "check_list" ["self", "rows", "prefix", "depth", "in_loop"] (spCL K C CI n) := ⟨f, fd, hm, hb, ok_check_list F T rc hm hb m_fits m_collect c_inner_lists n⟩
    refine F.okX sc_RowCheck_check_list (fun vs H Q E h => ?_) (fun cdv A outer s H vs Q E hr h => ?_)
    · obtain ⟨A, E, c, rws, pr, ds, pre, lp, m, rfl, _⟩ := h
      rfl
    · obtain ⟨R, E0, c, rws, pr, ds, pre, lp, m, rfl, hC, O, hd, hpr, hpl, hcap, hw, k1, k2⟩ := h
      have hu := hu_of hr
      have c_RowCheck := rc.cls
      subst hC
      refine ⟨_, (pss_one (ps_for (passes_of rfl) rfl (pi_enum (by rfl) T.b_enumerate (pa_cons (pv 1) pa_nil)) (pg_tup rfl (pgs_cons (pg_name (i := 5) sc_RowCheck_check_list.nd rfl (.inl rfl)) (pgs_cons (pg_name (i := 6) sc_RowCheck_check_list.nd rfl (.inl rfl)) pgs_nil))) (pss_cons (ps_if (pt_not (pt_val (pe_mcal (pv 0) c_RowCheck m_fits (hr.mono (by omega)) pass0 (pa_cons (pv 6) (pa_cons (pv 3) (pa_cons (pv 4) pa_nil)))))) (pss_one (ps_raise rfl (takes_of rfl rfl rfl rfl) (pmk_x T.mk_InvalidProgram hr rfl T.g_InvalidProgram T.k_InvalidProgram T.r_InvalidProgram (pa_cons pe_str (pa_cons (pe_op op_catA (pv 2) (pe_tup (pa_cons (pv 5) pa_nil))) pa_nil))))) pss_nil)
      (pss_cons (ps_fldaug (pv 0) pe_int in_add)
      (pss_cons (ps_expr (pe_mcal (pv 0) c_RowCheck m_collect (hr.mono (by omega)) pass0 (pa_cons (pv 6) pa_nil)))
      (Evl.pss_cut (ps_set (i := 7) sc_RowCheck_check_list.nd rfl (.inl rfl) (pe_or (pv 4) (pe_one (pe_cmpR op_eq (pe_ix ix_tup (pv 6) pe_int (fun _ _ => rfl)) pe_str (nomark _)))))
      (Evl.pss_cut (ps_if (pt_cmpR op_eq (pe_ix ix_tup (pv 6) pe_int (fun _ _ => rfl)) pe_str (nomark _)) (pss_one (ps_set (i := 7) sc_RowCheck_check_list.nd rfl (.inl rfl) pe_bl)) pss_nil)
      (pss_one (ps_for (passes_of rfl) rfl (pi_enum (by rfl) T.b_enumerate (pa_cons (pe_cal c_inner_lists (hr.mono (by omega)) rfl pass0 (pa_cons (pv 6) pa_nil)) pa_nil)) (pg_tup rfl (pgs_cons (pg_name (i := 8) sc_RowCheck_check_list.nd rfl (.inl rfl)) (pgs_cons (pg_name (i := 9) sc_RowCheck_check_list.nd rfl (.inl rfl)) pgs_nil))) (pss_one (ps_expr (pe_mcal (pv 0) c_RowCheck m_check_list (hr.mono (by omega)) (passes_call (takes_of rfl rfl rfl rfl) (fun _ _ _ _ h => h)) (pa_cons (pv 9) (pa_cons (pe_op op_catA (pv 2) (pe_tup (pa_cons (pv 5) (pa_cons (pv 8) pa_nil)))) (pa_cons (pe_op op_add (pv 3) pe_int) (pa_cons (pv 7) pa_nil)))))))))))))))), ?_⟩
      cases hd with
      | @lst _ xs _ hq ha =>
      have hxl := ha.len
      refine ⟨_, rfl, rws, xs, rfl, hq, ?_⟩
      refine for_it walk_enum (fun i σ H' => (∃ y5 y6 y7 y8 y9 : Option V, σ = [some (.ref R.a), some (.ref rws), some (.ref pr), some (.int (5 - (n : Int))), some (.bl lp), y5, y6, y7, y8, y9]) ∧ ∃ ci mi, RC H' R E0 ci ∧ Fr R.L H H' ∧ Cap ci mi ∧ mi + 3 * wts (ds.drop i) ≤ 90000 ∧ chkL E0 (n + 1) lp ds pre c = chkRows (chkRow (chkL E0 n) E0 (5 - (n : Int)) lp pre) (ds.drop i) i ci) ⟨⟨_, _, _, _, _, rfl⟩, c, m, O, Fr.refl, hcap, hw, rfl⟩ (fun i σ H' _ p => by
        obtain ⟨_, ci, mi, O1, fr, _⟩ := p
        exact hq.kp (O.kp fr)) ?_ ?_
      · rintro i v σ H1 H2 hi ⟨⟨y5, y6, y7, y8, y9, rfl⟩, ci, mi, O1, fr1, cap1, hw1, hres⟩ ⟨T0, x0, y, rfl, hT0, rfl, hx0, hy⟩
        obtain rfl : x0 = .int (i : Nat) := (Option.some.inj hx0).symm
        obtain ⟨d, hd1, hdy⟩ := ha.get hy
        have hdrop : ds.drop i = d :: ds.drop (i + 1) := by
          obtain ⟨h1, h2⟩ := List.getElem?_eq_some_iff.mp hd1
          rw [List.drop_eq_getElem_cons h1, h2]
        rw [hdrop] at hw1 hres
        rw [wts_cons] at hw1
        refine ⟨T0, _, rfl, .inl (.inl upd_same), rfl, _, _, rfl, _, _, rfl, rfl, ?_⟩
        have sm2 : Same H1 (upd H1 T0 (.tup [.int (i : Nat), y])) := Same.new hT0
        have O2 := O1.mono sm2
        have fr2 : Fr R.L H (upd H1 T0 (.tup [.int (i : Nat), y])) := fr1.trans sm2.fr
        revert O2 fr2
        generalize upd H1 T0 (.tup [.int (i : Nat), y]) = H2
        intro O2 fr2
        have hdy2 : Dp K H2 y d := hdy.kp (O.kp fr2)
        have hwd : wt d ≤ 100000 := by omega
        refine ⟨_, rfl, _, _, _, rfl, O2.ob, rfl, _, rfl, _, rfl, _, rfl, R, E0, ci, y, d, _, lp, rfl, rfl, O2, hdy2, hwd, fun H3 s3 => ⟨_, rfl, ?_⟩⟩
        have O3 := O2.mono s3
        have fr3 : Fr R.L H H3 := fr2.trans s3.fr
        by_cases hf : ¬ fits E0 ci d (5 - (n : Int)) lp = true
        · have hf := Bool.eq_false_iff.mpr hf
          rw [hf]
          refine ifT rfl ?_
          have hp3 : SqT K H3 pr (pre.map V.int) := hpr.kp (O.kp fr3)
          refine ⟨_, rfl, _, rfl, sz1 _, fun p hp => cat_any (hp3.mono (Same.new hp)) (.inl (.inl upd_same)) (sz_lit (by rw [List.length_map]; show _ + 1 ≤ _; omega)) fun t H4 s4 ht => ⟨rfl, fun dd hdd => ?_⟩⟩
          have e : chkL E0 (n + 1) lp ds pre c = .error (pre ++ [(i : Int)]) := by
            rw [hres]
            unfold chkRows
            rw [chkRow_no hf]
          refine k2 _ e _ dd (fr3.trans ((Same.new hp).fr.trans (s4.fr.trans (Same.new hdd).fr))) ⟨t, upd_same, ?_⟩
          rw [← map_snoc]
          exact ht.mono (Same.new hdd)
        have hf : fits E0 ci d (5 - (n : Int)) lp = true := Decidable.byContradiction hf
        rw [hf]
        refine ifF rfl ?_
        obtain ⟨kind, parts, rfl⟩ := fits_tuple hf
        obtain ⟨hsh, hFit, _⟩ := fits_shape hf
        have hsl := shapes_len hsh
        have hpl4 : parts.length ≤ 4 := by rw [← hFit.1]; exact hsl
        cases hdy with
        | @tup t ys _ hqt hat =>
        have hdt : Dp K H3 (.ref t) (.tuple (.str kind :: parts)) := hdy2.mono s3
        refine ⟨_, rfl, _, _, _, _, _, rfl, O3.ob, rc.cls, rc.n4, rfl, _, _, rfl, rfl, _, _, O3.ob, (by show 8 < 1000; decide), ?_⟩
        have O4 := O3.tot (ci.total + 1)
        have fr4 : Fr R.L H3 (upd H3 R.a (.ins R.C R.dx (rcF R E0 { ci with total := ci.total + 1 }))) := Fr.refl.upd (by simp [RcA.L])
        refine ⟨_, rfl, _, _, _, rfl, O4.ob, rfl, _, rfl, R, E0, { ci with total := ci.total + 1 }, t, kind, _, parts, rfl, O4, rc, hdt.kp (O3.kp fr4), hsh, hFit, by omega, cap1.mono (by omega), fun H5 fr5 O5 => ?_⟩
        have fr45 := fr4.trans fr5
        have frH := fr3.trans fr45
        have hdt5 : Dp K H5 (.ref t) (.tuple (.str kind :: parts)) := hdt.kp (O3.kp fr45)
        clear fr5 O4 fr4
        have hq5 : ∃ vr, SqT K H5 t (.str kind :: vr) := by
          cases hdt5 with
          | @tup _ _ _ h1 h2 =>
          cases h2 with
          | @cons _ vr _ _ h3 h4 =>
          cases h3 with
          | str _ => exact ⟨vr, h1⟩
        obtain ⟨vr, hq5⟩ := hq5
        refine ⟨fun σ H' => (∃ y8' y9' : Option V, σ = [some (.ref R.a), some (.ref rws), some (.ref pr), some (.int (5 - (n : Int))), some (.bl lp), some (.int (i : Nat)), some (.ref t), some (.bl (lp || decide (kind = "loop"))), y8', y9']) ∧ H' = H5, ?_, ?_⟩
        · refine ⟨_, rfl, _, rfl, ?_⟩
          cases lp with
          | true => exact ifT rfl ⟨⟨_, _, rfl⟩, rfl⟩
          | false =>
            refine ifF rfl ⟨_, rfl, t, _, 0, _, rfl, rfl, hq5, atI_zero _ _, rfl, ?_⟩
            rw [dec_strV]
            exact ⟨⟨_, _, rfl⟩, rfl⟩
        rintro σ H' ⟨⟨y8', y9', rfl⟩, rfl⟩
        refine ⟨fun σ H'' => (∃ y8' y9' : Option V, σ = [some (.ref R.a), some (.ref rws), some (.ref pr), some (.int (5 - (n : Int))), some (.bl lp), some (.int (i : Nat)), some (.ref t), some (.bl (inside lp kind)), y8', y9']) ∧ H'' = H', ?_, ?_⟩
        · refine ⟨_, rfl, t, _, 0, _, rfl, rfl, hq5, atI_zero _ _, rfl, _, rfl, ?_⟩
          rw [dec_strV]
          unfold inside
          by_cases e : kind = "both"
          · rw [if_pos e]
            exact ifT (decide_eq_true e) ⟨⟨_, _, rfl⟩, rfl⟩
          · rw [if_neg e]
            exact ifF (decide_eq_false e) ⟨⟨_, _, rfl⟩, rfl⟩
        rintro σ H'' ⟨⟨y8', y9', rfl⟩, rfl⟩
        refine ⟨_, rfl, t, kind, parts, rfl, hdt5, by omega, fun e => ?_, fun p xs' H6 s6 _ hp6 hdp6 => ?_⟩
        · obtain ⟨ds', r', e', _⟩ := both_tuple hf e
          exact ⟨ds', r', e'⟩
        refine ⟨p, xs', rfl, .inl (.inl hp6), ?_⟩
        have hO6 := O5.mono s6
        have fr6 : Fr R.L H H6 := frH.trans s6.fr
        have hal := inner_lists_all hf
        have hlen6 := hdp6.len
        have hwi := wIn_inner kind parts
        have hres' : chkL E0 (n + 1) lp ds pre c = contR (chkRows (chkRow (chkL E0 n) E0 (5 - (n : Int)) lp pre) (ds.drop (i + 1)) (i + 1)) (chkIn (chkL E0 n (inside lp kind)) (pre ++ [(i : Int)]) (innerL kind parts) 0 (collect { ci with total := ci.total + 1 } kind (shapeOf kind) parts)) := by
          rw [hres, chkRows_cons]
          congr 1
          exact chkRow_yes hf
        refine for_it walk_enum (fun j σ H' => (∃ y8' y9' : Option V, σ = [some (.ref R.a), some (.ref rws), some (.ref pr), some (.int (5 - (n : Int))), some (.bl lp), some (.int (i : Nat)), some (.ref t), some (.bl (inside lp kind)), y8', y9']) ∧ ∃ cj mj, RC H' R E0 cj ∧ Fr R.L H6 H' ∧ Cap cj mj ∧ mj + 3 * wIn ((innerL kind parts).drop j) + 3 * wts (ds.drop (i + 1)) ≤ 90000 ∧ chkL E0 (n + 1) lp ds pre c = contR (chkRows (chkRow (chkL E0 n) E0 (5 - (n : Int)) lp pre) (ds.drop (i + 1)) (i + 1)) (chkIn (chkL E0 n (inside lp kind)) (pre ++ [(i : Int)]) ((innerL kind parts).drop j) j cj)) ⟨⟨_, _, rfl⟩, _, mi + 3 * parts.length, hO6, Fr.refl, collect_cap hFit cap1, ?_, hres'⟩ (fun j σ H' _ q => by
          obtain ⟨_, cj, mj, O7, fr7, _⟩ := q
          exact SqL.kp (.inl (.inl hp6)) (hO6.kp fr7)) ?_ ?_
        · rw [wt_tuple, wts_cons] at hw1
          rw [List.drop_zero]
          omega
        · rintro j v σ H7 H8 hj ⟨⟨y8', y9', rfl⟩, cj, mj, O7, fr7, cap7, hw7, hres7⟩ ⟨T1, x1, y1, rfl, hT1, rfl, hx1, hy1⟩
          obtain rfl : x1 = .int (j : Nat) := (Option.some.inj hx1).symm
          obtain ⟨d1, hd1', hdy1⟩ := hdp6.get hy1
          have hdrop1 : (innerL kind parts).drop j = d1 :: (innerL kind parts).drop (j + 1) := by
            obtain ⟨h1, h2⟩ := List.getElem?_eq_some_iff.mp hd1'
            rw [List.drop_eq_getElem_cons h1, h2]
          rw [hdrop1] at hw7 hres7
          have hw7 : mj + 3 * (wts (listOf d1) + wIn ((innerL kind parts).drop (j + 1))) + 3 * wts (ds.drop (i + 1)) ≤ 90000 := hw7
          obtain ⟨dl, rfl⟩ : ∃ dl, d1 = .list dl := by
            have := hal d1 (List.mem_of_getElem? hd1')
            cases d1 with
            | list dl => exact ⟨dl, rfl⟩
            | _ => cases this
          refine ⟨T1, _, rfl, .inl (.inl upd_same), rfl, _, _, rfl, _, _, rfl, rfl, ?_⟩
          have sm8 : Same H7 (upd H7 T1 (.tup [.int (j : Nat), y1])) := Same.new hT1
          have O8 := O7.mono sm8
          have fr8 : Fr R.L H6 (upd H7 T1 (.tup [.int (j : Nat), y1])) := fr7.trans sm8.fr
          revert O8 fr8
          generalize upd H7 T1 (.tup [.int (j : Nat), y1]) = H8
          intro O8 fr8
          have frA : Fr R.L H H8 := fr6.trans fr8
          have hdl : Dp K H8 y1 (.list dl) := (hdy1.mono s6).kp (hO6.kp fr8)
          cases n with
          | zero =>
            have := inner_deep hf (by show (5 : Int) ≤ 5 - (0 : Nat); omega)
            rw [this] at hd1'
            simp at hd1'
          | succ n' =>
          have hp8 : SqT K H8 pr (pre.map V.int) := hpr.kp (O.kp frA)
          obtain ⟨q1, rfl⟩ : ∃ q1, y1 = .ref q1 := by
            cases hdl with
            | lst _ _ => exact ⟨_, rfl⟩
          refine ⟨_, rfl, _, _, _, rfl, O8.ob, rfl, _, rfl, _, rfl, _, rfl, _, rfl, sz2 _ _, fun p9 hp9 => cat_any (hp8.mono (Same.new hp9)) (.inl (.inl upd_same)) (sz_lit (by rw [List.length_map]; show _ + 2 ≤ _; omega)) fun t9 H9 s9 ht9 => ⟨_, rfl, _, _, rfl, rfl, _, rfl, ?_⟩⟩
          have s89 : Same H8 H9 := (Same.new hp9).trans s9
          rw [map_snoc2] at ht9
          refine ⟨R, E0, cj, q1, t9, dl, pre ++ [(i : Int)] ++ [(j : Int)], inside lp kind, mj, ?_, rfl, O8.mono s89, hdl.mono s89, ht9, ?_, cap7, ?_, fun c' hc' H' fr' O' => ?_, fun p' hp' H' d' fr' hx' => ?_⟩
          · show [V.ref R.a, V.ref q1, V.ref t9, V.int (5 - ((n' + 1 : Nat) : Int) + 1), V.bl (inside lp kind)] = _
            rw [show (5 - ((n' + 1 : Nat) : Int) + 1) = 5 - (n' : Int) by omega]
          · rw [List.length_append, List.length_append]
            show pre.length + 1 + 1 + 2 * n' ≤ 100
            omega
          · have : wts (listOf (.list dl)) = wts dl := rfl
            omega
          · refine ⟨⟨_, _, rfl⟩, c', mj + 3 * wts dl, O', fr8.trans (s89.fr.trans fr'), chkL_cap E0 _ _ _ _ _ _ _ hc' cap7, ?_, ?_⟩
            · have : wts (listOf (.list dl)) = wts dl := rfl
              omega
            · rw [hres7]
              rw [chkIn_cons, show listOf (.list dl) = dl from rfl, hc']
              rfl
          · refine k2 p' ?_ H' d' (frA.trans (s89.fr.trans fr')) hx'
            rw [hres7]
            rw [chkIn_cons, show listOf (.list dl) = dl from rfl, hp']
            rfl
        · rintro σ H7 ⟨⟨y8', y9', rfl⟩, cj, mj, O7, fr7, cap7, hw7, hres7⟩
          rw [List.drop_of_length_le (l := innerL kind parts) (by omega)] at hres7
          exact ⟨⟨_, _, _, _, _, rfl⟩, cj, mj, O7, fr6.trans fr7, cap7, by omega, hres7⟩
      · rintro σ H' ⟨_, ci, mi, O1, fr, _, _, e⟩
        rw [List.drop_of_length_le (by omega)] at e
        exact k1 ci e H' fr O1
end
end Op
namespace Op
open PySem L2 PyProof.Rows
/-! ### the mirror: sizes, the whole check -/
def sizes (c : Chk) : Option Str :=
  if 60 < c.total then some "size"
  else if 6 < c.labels.length then some "labels"
  else if 4 < c.slots.length then some "slots"
  else if 8 < c.gates.length + c.edits.length then some "gates"
  else if 4 < c.edits.length then some "edits"
  else none
def chk0 : Chk := ⟨0, [], [], [], []⟩
def checkAll (E : Env0) (d : PyData) : Except (Str × List Int) Chk :=
  match d with
  | .list ds => match chkL E 5 false ds [] chk0 with
    | .error p => .error ("rows", p)
    | .ok c => match sizes c with
      | some s => .error (s, [])
      | none => .ok c
  | _ => .error ("rows", [])
section
variable {P : Program} {w : World} {K : PySem.W.Frag} {mg : Str → Option Value} {base : Heap} {pS CI C : Addr}
def spSizes (K : PySem.W.Frag) (C CI : Addr) : Sp := fun vs H Q X => ∃ (A : RcA) (E : Env0) (c : Chk), vs = [.ref A.a] ∧ A.C = C ∧ RC H A E c ∧ (sizes c = none → Q .non H) ∧ ∀ part, sizes c = some part → ∀ H' d, Same H H' → XProg K H' d part [] → X (.ref CI) (some d) H'
theorem sc_RowCheck_check_sizes : FnScope ["self"] ["self"] (defScope s_RowCheck_check_sizes) := ⟨rfl, rfl, rfl, by decide +kernel, rfl, by decide +kernel, by decide +kernel⟩
theorem ok_check_sizes {f : Addr} {fd : FuncData} (F : Fun K "check_sizes" "RowCheck.check_sizes" s_RowCheck_check_sizes f fd) (T : TxtC P w K mg pS CI) (rc : RcC K C) : FnOk P w K mg base (L2.CX P w) 1 f fd ["self"] (spSizes K C CI) := by
  refine F.okX sc_RowCheck_check_sizes (fun vs H Q E h => ?_) (fun cdv A outer s H vs Q E hr h => ?_)
  · obtain ⟨A, E, c, rfl, _⟩ := h
    rfl
  · obtain ⟨R, E0, c, rfl, hC, O, k1, k2⟩ := h
    subst hC
    unfold sizes at k1 k2
    refine ⟨_, (pss_cons (ps_if (pt_cmpR op_gt (pe_fld (pv 0) rfl) (pe_glob (v := .int (60)) rfl T.g_MOST_ROWS.choose_spec ⟨_, rfl⟩) (nomark _)) (pss_one (ps_raise rfl (takes_of rfl rfl rfl rfl) (pmk_x T.mk_InvalidProgram hr rfl T.g_InvalidProgram T.k_InvalidProgram T.r_InvalidProgram (pa_cons pe_str (pa_cons (pe_tup pa_nil) pa_nil))))) pss_nil)
      (pss_cons (ps_if (pt_cmpR op_gt (pe_callB call_lenD (by rfl) T.b_len (by decide +kernel) (pa_cons (pe_fld (pv 0) rfl) pa_nil)) (pe_glob (v := .int (6)) rfl T.g_MOST_LABELS.choose_spec ⟨_, rfl⟩) (nomark _)) (pss_one (ps_raise rfl (takes_of rfl rfl rfl rfl) (pmk_x T.mk_InvalidProgram hr rfl T.g_InvalidProgram T.k_InvalidProgram T.r_InvalidProgram (pa_cons pe_str (pa_cons (pe_tup pa_nil) pa_nil))))) pss_nil)
      (pss_cons (ps_if (pt_cmpR op_gt (pe_callB call_lenD (by rfl) T.b_len (by decide +kernel) (pa_cons (pe_fld (pv 0) rfl) pa_nil)) (pe_glob (v := .int (4)) rfl T.g_MOST_SLOTS.choose_spec ⟨_, rfl⟩) (nomark _)) (pss_one (ps_raise rfl (takes_of rfl rfl rfl rfl) (pmk_x T.mk_InvalidProgram hr rfl T.g_InvalidProgram T.k_InvalidProgram T.r_InvalidProgram (pa_cons pe_str (pa_cons (pe_tup pa_nil) pa_nil))))) pss_nil)
      (pss_cons (ps_if (pt_cmpR op_gt (pe_op op_add (pe_callB call_lenD (by rfl) T.b_len (by decide +kernel) (pa_cons (pe_fld (pv 0) rfl) pa_nil)) (pe_callB call_lenD (by rfl) T.b_len (by decide +kernel) (pa_cons (pe_fld (pv 0) rfl) pa_nil))) (pe_glob (v := .int (8)) rfl T.g_MOST_GATES.choose_spec ⟨_, rfl⟩) (nomark _)) (pss_one (ps_raise rfl (takes_of rfl rfl rfl rfl) (pmk_x T.mk_InvalidProgram hr rfl T.g_InvalidProgram T.k_InvalidProgram T.r_InvalidProgram (pa_cons pe_str (pa_cons (pe_tup pa_nil) pa_nil))))) pss_nil)
      (pss_one (ps_if (pt_cmpR op_gt (pe_callB call_lenD (by rfl) T.b_len (by decide +kernel) (pa_cons (pe_fld (pv 0) rfl) pa_nil)) (pe_glob (v := .int (4)) rfl T.g_MOST_EDITS.choose_spec ⟨_, rfl⟩) (nomark _)) (pss_one (ps_raise rfl (takes_of rfl rfl rfl rfl) (pmk_x T.mk_InvalidProgram hr rfl T.g_InvalidProgram T.k_InvalidProgram T.r_InvalidProgram (pa_cons pe_str (pa_cons (pe_tup pa_nil) pa_nil))))) pss_nil)))))), ?_⟩
    have fin : ∀ part : Str, (∀ H' d, Same H H' → XProg K H' d part [] → E (.ref CI) (some d) H') → ∀ p, H p = none → ∀ d, upd H p (.tup []) d = none → E (.ref CI) (some d) (upd (upd H p (.tup [])) d (.xd [("path", .ref p), ("part", .str part)])) := by
      intro part k p hp d hd
      refine k _ d ((Same.new hp).trans (Same.new hd)) ⟨p, upd_same, ?_⟩
      exact SqT.mono (.inl (.inl upd_same)) (Same.new hd)
    refine ⟨_, rfl, _, _, _, _, _, rfl, O.ob, rc.cls, rc.n4, rfl, _, _, rfl, rfl, _, rfl, ?_⟩
    by_cases e1 : 60 < c.total
    · rw [if_pos e1] at k2
      exact ifT (decide_eq_true e1) ⟨sz_lit (by decide), fun p hp => ⟨rfl, fun d hd => fin _ (k2 _ rfl) p hp d hd⟩⟩
    rw [if_neg e1] at k1 k2
    refine ifF (decide_eq_false e1) ⟨_, rfl, _, _, _, _, _, rfl, O.ob, rc.cls, rc.n5, rfl, _, _, rfl, O.dl, _, _, rfl, rfl, _, rfl, ?_⟩
    rw [dkT_len]
    by_cases e2 : 6 < c.labels.length
    · rw [if_pos e2] at k2
      exact ifT (decide_eq_true (show (6 : Int) < (c.labels.length : Int) by omega)) ⟨sz_lit (by decide), fun p hp => ⟨rfl, fun d hd => fin _ (k2 _ rfl) p hp d hd⟩⟩
    rw [if_neg e2] at k1 k2
    refine ifF (decide_eq_false (show ¬ (6 : Int) < (c.labels.length : Int) by omega)) ⟨_, rfl, _, _, _, _, _, rfl, O.ob, rc.cls, rc.n6, rfl, _, _, rfl, O.ds, _, _, rfl, rfl, _, rfl, ?_⟩
    rw [dkT_len]
    by_cases e3 : 4 < c.slots.length
    · rw [if_pos e3] at k2
      exact ifT (decide_eq_true (show (4 : Int) < (c.slots.length : Int) by omega)) ⟨sz_lit (by decide), fun p hp => ⟨rfl, fun d hd => fin _ (k2 _ rfl) p hp d hd⟩⟩
    rw [if_neg e3] at k1 k2
    refine ifF (decide_eq_false (show ¬ (4 : Int) < (c.slots.length : Int) by omega)) ⟨_, rfl, _, _, _, _, _, rfl, O.ob, rc.cls, rc.n7, rfl, _, _, rfl, O.dg, _, rfl, _, _, _, _, _, rfl, O.ob, rc.cls, rc.n8, rfl, _, _, rfl, O.de, _, _, rfl, rfl, _, _, rfl, rfl, _, rfl, ?_⟩
    rw [dkT_len, dkT_len]
    by_cases e4 : 8 < c.gates.length + c.edits.length
    · rw [if_pos e4] at k2
      exact ifT (decide_eq_true (show (8 : Int) < (c.gates.length : Int) + (c.edits.length : Int) by omega)) ⟨sz_lit (by decide), fun p hp => ⟨rfl, fun d hd => fin _ (k2 _ rfl) p hp d hd⟩⟩
    rw [if_neg e4] at k1 k2
    refine ifF (decide_eq_false (show ¬ (8 : Int) < (c.gates.length : Int) + (c.edits.length : Int) by omega)) ⟨_, rfl, _, _, _, _, _, rfl, O.ob, rc.cls, rc.n8, rfl, _, _, rfl, O.de, _, _, rfl, rfl, _, rfl, ?_⟩
    rw [dkT_len]
    by_cases e5 : 4 < c.edits.length
    · rw [if_pos e5] at k2
      exact ifT (decide_eq_true (show (4 : Int) < (c.edits.length : Int) by omega)) ⟨sz_lit (by decide), fun p hp => ⟨rfl, fun d hd => fin _ (k2 _ rfl) p hp d hd⟩⟩
    rw [if_neg e5] at k1 k2
    exact ifF (decide_eq_false (show ¬ (4 : Int) < (c.edits.length : Int) by omega)) (k1 rfl)
end
end Op
namespace Op
open PySem L2 PyProof.Rows
/-- what may be passed as the rows: data, or an empty dict -/
def RwV (K : PySem.W.Frag) (H : Hp) (v : V) (d : PyData) : Prop := Dp K H v d ∨ d = .dict [] ∧ ∃ p, v = .ref p ∧ H p = some (.dK [])
theorem RwV.lst {K : PySem.W.Frag} {H : Hp} {v : V} {ds : List PyData} (h : RwV K H v (.list ds)) : Dp K H v (.list ds) := by
  rcases h with h | ⟨h, _⟩
  · exact h
  · cases h
section
variable {P : Program} {w : World} {K : PySem.W.Frag} {mg : Str → Option Value} {base : Heap} {pS CI C : Addr}
def spCheck (K : PySem.W.Frag) (C CI : Addr) : Sp := fun vs H Q X => ∃ (A : RcA) (E : Env0) (v : V) (d : PyData), vs = [.ref A.a, v] ∧ A.C = C ∧ RC H A E chk0 ∧ RwV K H v d ∧ wt d ≤ 30000 ∧
  (∀ c, checkAll E d = .ok c → ∀ H', Fr A.L H H' → RC H' A E c → Q .non H') ∧ ∀ part path, checkAll E d = .error (part, path) → ∀ H' dd, Fr A.L H H' → XProg K H' dd part path → X (.ref CI) (some dd) H'
theorem sc_RowCheck_check : FnScope ["self", "rows"] ["self", "rows"] (defScope s_RowCheck_check) := ⟨rfl, rfl, rfl, by decide +kernel, rfl, by decide +kernel, by decide +kernel⟩
theorem ok_check {f : Addr} {fd : FuncData} (F : Fun K "check" "RowCheck.check" s_RowCheck_check f fd) (T : TxtC P w K mg pS CI) (rc : RcC K C) (m_check_list : Mcal P w K mg base (L2.CX P w) 11 C "check_list" ["self", "rows", "prefix", "depth", "in_loop"] (spCL K C CI 5)) (m_check_sizes : Mcal P w K mg base (L2.CX P w) 1 C "check_sizes" ["self"] (spSizes K C CI)) :
    FnOk P w K mg base (L2.CX P w) 12 f fd ["self", "rows"] (spCheck K C CI) := by
  refine F.okX sc_RowCheck_check (fun vs H Q E h => ?_) (fun cdv A outer s H vs Q E hr h => ?_)
  · obtain ⟨A, E, v, d, rfl, _⟩ := h
    rfl
  · obtain ⟨R, E0, v, d, rfl, hC, O, hd, hw, k1, k2⟩ := h
    have c_RowCheck := rc.cls
    subst hC
    refine ⟨_, (pss_cons (ps_if (pt_not (pt_val (pe_callB call_isi (by rfl) T.b_isinstance (by decide +kernel) (pa_cons (pv 1) (pa_cons (pe_bltn (v := .ty "list") (by rfl) T.b_list (by decide +kernel) rfl) pa_nil))))) (pss_one (ps_raise rfl (takes_of rfl rfl rfl rfl) (pmk_x T.mk_InvalidProgram hr rfl T.g_InvalidProgram T.k_InvalidProgram T.r_InvalidProgram (pa_cons pe_str (pa_cons (pe_tup pa_nil) pa_nil))))) pss_nil)
      (pss_cons (ps_expr (pe_mcal (pv 0) c_RowCheck m_check_list (hr.mono (by omega)) (passes_call (takes_of rfl rfl rfl rfl) (fun _ _ _ _ h => h)) (pa_cons (pv 1) (pa_cons (pe_tup pa_nil) (pa_cons pe_int (pa_cons pe_bl pa_nil))))))
      (pss_one (ps_expr (pe_mcal0 (pv 0) c_RowCheck m_check_sizes (hr.mono (by omega)) (passes_call (takes_of rfl rfl rfl rfl) (fun _ _ _ _ h => h))))))), ?_⟩
    have fin : (∀ H' dd, Fr R.L H H' → XProg K H' dd "rows" [] → E (.ref CI) (some dd) H') → ∀ p, H p = none → ∀ d, upd H p (.tup []) d = none → E (.ref CI) (some d) (upd (upd H p (.tup [])) d (.xd [("path", .ref p), ("part", .str "rows")])) := by
      intro k p hp d hd
      refine k _ d ((Same.new hp).trans (Same.new hd)).fr ⟨p, upd_same, ?_⟩
      exact SqT.mono (.inl (.inl upd_same)) (Same.new hd)
    rcases hd with hd | ⟨rfl, p, rfl, hp⟩
    rotate_left
    · refine ⟨_, rfl, .ref p, _, _, _, _, rfl, .ty _, TyX.base (.dK hp), kit_ty (show kitB "dict" "list" = some false by decide +kernel), _, rfl, ?_⟩
      exact ifT rfl ⟨sz_lit (by decide), fun p hp => ⟨rfl, fun d hd => fin (k2 _ _ rfl) p hp d hd⟩⟩
    refine ⟨_, rfl, v, _, _, _, _, rfl, .ty _, ty_dp hd, kit_list d, _, rfl, ?_⟩
    cases hd with
    | @lst q xs ds hq ha =>
      have hw' : 1 + wts ds ≤ 30000 := by rw [wt_list] at hw; exact hw
      refine ifF rfl ⟨_, rfl, _, _, _, rfl, O.ob, rfl, _, rfl, sz_lit (by decide), fun p hp => ?_⟩
      have s1 : Same H (upd H p (.tup [])) := Same.new hp
      refine ⟨R, E0, chk0, q, p, ds, [], false, 0, rfl, rfl, O.mono s1, (Dp.lst hq ha).mono s1, .inl (.inl upd_same), by decide, ⟨Nat.le_refl _, Nat.le_refl _, Nat.le_refl _, Nat.le_refl _⟩, by omega, fun c' hc' H' fr' O' => ?_, fun p' hp' H' d' fr' hx' => ?_⟩
      · refine ⟨_, rfl, _, _, _, rfl, O'.ob, rfl, R, E0, c', rfl, rfl, O', fun hs => ?_, fun part hs H'' d'' s'' hx'' => ?_⟩
        · refine k1 c' ?_ H' (s1.fr.trans fr') O'
          unfold checkAll
          simp only [hc', hs]
        · refine k2 part [] ?_ H'' d'' (s1.fr.trans (fr'.trans s''.fr)) hx''
          unfold checkAll
          simp only [hc', hs]
      · refine k2 "rows" p' ?_ H' d' (s1.fr.trans fr') hx'
        unfold checkAll
        simp only [hp']
    | _ => exact ifT rfl ⟨sz_lit (by decide), fun p hp => ⟨rfl, fun d hd => fin (k2 _ _ rfl) p hp d hd⟩⟩
/-! ### the making of it -/
theorem init_step {H : Hp} {x p C dx : Addr} {fs : List (Str × V)} {f : Str} (h : H x = some (.ins C dx fs)) (hp : H p = none) :
    upd (upd H p (.dK [])) x (.ins C dx (putF f (.ref p) fs)) x = some (.ins C dx (putF f (.ref p) fs)) ∧ upd (upd H p (.dK [])) x (.ins C dx (putF f (.ref p) fs)) p = some (.dK []) ∧ (∀ b o, H b = some o → b ≠ x → upd (upd H p (.dK [])) x (.ins C dx (putF f (.ref p) fs)) b = some o) ∧ ∀ b o, H b = some o → p ≠ b := by
  have hpx : p ≠ x := fun e => by rw [e, h] at hp; cases hp
  refine ⟨upd_same, by rw [upd_ne hpx, upd_same], fun b o hb hbx => ?_, fun b o hb e => ?_⟩
  · rw [upd_ne hbx, upd_ne (ne_of_none hb hp)]
    exact hb
  · rw [e, hb] at hp
    cases hp
def spRcInit (K : PySem.W.Frag) (C : Addr) : Sp := fun vs H Q _ => ∃ (x dx ka ks : Addr) (E : Env0), vs = [.ref x, .ref ka, .ref ks, .bl E.we] ∧ H x = some (.ins C dx []) ∧ Known H ka E.asks ∧ Known H ks E.sigs ∧
  ∀ H' A, A.a = x → A.C = C → (∀ b ∈ [A.l, A.s, A.g, A.e], H b = none) → RC H' A E chk0 → (∀ b o, H b = some o → b ≠ x → H' b = some o) → Q .non H'
theorem sc_RowCheck___init__ : FnScope ["self", "asks", "signals", "with_edits"] ["self", "asks", "signals", "with_edits"] (defScope s_RowCheck___init__) := ⟨rfl, rfl, rfl, by decide +kernel, rfl, by decide +kernel, by decide +kernel⟩
theorem ok_rcinit {f : Addr} {fd : FuncData} (F : Fun K "__init__" "RowCheck.__init__" s_RowCheck___init__ f fd) (rc : RcC K C) : FnOk P w K mg base CX0 1 f fd ["self", "asks", "signals", "with_edits"] (spRcInit K C) := by
  refine F.ok sc_RowCheck___init__ (fun vs H Q E h => ?_) (fun cdv A outer s H vs Q E hr h => ?_)
  · obtain ⟨x, dx, ka, ks, E, rfl, _⟩ := h
    rfl
  · obtain ⟨x, dx, ka, ks, E0, rfl, hx, hka, hks, k⟩ := h
    have nka : ka ≠ x := hka.ne_ins hx
    have nks : ks ≠ x := hks.ne_ins hx
    refine ⟨_, (pss_cons (ps_fld (pv 0) (pv 1) rfl)
      (pss_cons (ps_fld (pv 0) (pv 2) rfl)
      (pss_cons (ps_fld (pv 0) (pv 3) rfl)
      (pss_cons (ps_fld (pv 0) pe_int rfl)
      (pss_cons (ps_fld (pv 0) pe_dnewK rfl)
      (pss_cons (ps_fld (pv 0) pe_dnewK rfl)
      (pss_cons (ps_fld (pv 0) pe_dnewK rfl)
      (pss_one (ps_fld (pv 0) pe_dnewK rfl))))))))), ?_⟩
    refine ⟨_, rfl, _, rfl, x, C, dx, _, rfl, hx, rc.cls, rc.n1, (by show 0 < 1000; decide), ?_⟩
    refine ⟨_, rfl, _, rfl, x, C, dx, _, rfl, upd_same, rc.cls, rc.n2, (by show 1 < 1000; decide), ?_⟩
    refine ⟨_, rfl, _, rfl, x, C, dx, _, rfl, upd_same, rc.cls, rc.n3, (by show 2 < 1000; decide), ?_⟩
    refine ⟨_, rfl, x, C, dx, _, rfl, upd_same, rc.cls, rc.n4, (by show 3 < 1000; decide), ?_⟩
    rw [upd_upd, upd_upd, upd_upd]
    have g0 : ∀ b o, H b = some o → b ≠ x → upd H x (.ins C dx (putF "total" (.int 0) (putF "with_edits" (.bl E0.we) (putF "known_signals" (.ref ks) (putF "known_asks" (.ref ka) []))))) b = some o := fun b o hb hbx => by rw [upd_ne hbx]; exact hb
    have x0 : upd H x (.ins C dx (putF "total" (.int 0) (putF "with_edits" (.bl E0.we) (putF "known_signals" (.ref ks) (putF "known_asks" (.ref ka) []))))) x = some (.ins C dx (putF "total" (.int 0) (putF "with_edits" (.bl E0.we) (putF "known_signals" (.ref ks) (putF "known_asks" (.ref ka) []))))) := upd_same
    have n0 : ∀ b, upd H x (.ins C dx (putF "total" (.int 0) (putF "with_edits" (.bl E0.we) (putF "known_signals" (.ref ks) (putF "known_asks" (.ref ka) []))))) b = none → H b = none := fun b hb => by
      cases q : H b with
      | none => rfl
      | some o =>
        by_cases e : b = x
        · rw [e, x0] at hb; cases hb
        · rw [g0 b o q e] at hb; cases hb
    revert g0 x0 n0
    generalize upd H x (.ins C dx (putF "total" (.int 0) (putF "with_edits" (.bl E0.we) (putF "known_signals" (.ref ks) (putF "known_asks" (.ref ka) []))))) = H0
    intro g0 x0 n0
    refine fun p1 hp1 => ⟨_, rfl, x, C, dx, _, rfl, Same.new hp1 _ _ x0, rc.cls, rc.n5, (by show 4 < 1000; decide), ?_⟩
    obtain ⟨x1, q1, g1, m1⟩ := init_step (f := "label_words") x0 hp1
    revert x1 q1 g1
    generalize upd (upd H0 p1 (.dK [])) x (.ins C dx (putF "label_words" (.ref p1) _)) = H1
    intro x1 q1 g1
    refine fun p2 hp2 => ⟨_, rfl, x, C, dx, _, rfl, Same.new hp2 _ _ x1, rc.cls, rc.n6, (by show 5 < 1000; decide), ?_⟩
    obtain ⟨x2, q2, g2, m2⟩ := init_step (f := "slot_words") x1 hp2
    revert x2 q2 g2
    generalize upd (upd H1 p2 (.dK [])) x (.ins C dx (putF "slot_words" (.ref p2) _)) = H2
    intro x2 q2 g2
    refine fun p3 hp3 => ⟨_, rfl, x, C, dx, _, rfl, Same.new hp3 _ _ x2, rc.cls, rc.n7, (by show 6 < 1000; decide), ?_⟩
    obtain ⟨x3, q3, g3, m3⟩ := init_step (f := "gate_words") x2 hp3
    revert x3 q3 g3
    generalize upd (upd H2 p3 (.dK [])) x (.ins C dx (putF "gate_words" (.ref p3) _)) = H3
    intro x3 q3 g3
    refine fun p4 hp4 => ⟨_, rfl, x, C, dx, _, rfl, Same.new hp4 _ _ x3, rc.cls, rc.n8, (by show 7 < 1000; decide), ?_⟩
    obtain ⟨x4, q4, g4, m4⟩ := init_step (f := "edit_words") x3 hp4
    revert x4 q4 g4
    generalize upd (upd H3 p4 (.dK [])) x (.ins C dx (putF "edit_words" (.ref p4) _)) = H4
    intro x4 q4 g4
    have p1x : p1 ≠ x := m1 x _ x0
    have p2x : p2 ≠ x := m2 x _ x1
    have p3x : p3 ≠ x := m3 x _ x2
    have p4x : p4 ≠ x := m4 x _ x3
    have gg : ∀ b o, H b = some o → b ≠ x → H4 b = some o := fun b o hb hbx => g4 b o (g3 b o (g2 b o (g1 b o (g0 b o hb hbx) hbx) hbx) hbx) hbx
    have a1 : H1 p1 = some (.dK []) := q1
    have a2 : H2 p1 = some (.dK []) := g2 _ _ a1 p1x
    have a3 : H3 p1 = some (.dK []) := g3 _ _ a2 p1x
    have b2 : H2 p2 = some (.dK []) := q2
    have b3 : H3 p2 = some (.dK []) := g3 _ _ b2 p2x
    have c3 : H3 p3 = some (.dK []) := q3
    have e12 : p1 ≠ p2 := (m2 _ _ a1).symm
    have e13 : p1 ≠ p3 := (m3 _ _ a2).symm
    have e14 : p1 ≠ p4 := (m4 _ _ a3).symm
    have e23 : p2 ≠ p3 := (m3 _ _ b2).symm
    have e24 : p2 ≠ p4 := (m4 _ _ b3).symm
    have e34 : p3 ≠ p4 := (m4 _ _ c3).symm
    have up1 : ∀ b o, H b = some o → b ≠ x → H1 b = some o := fun b o hb hbx => g1 b o (g0 b o hb hbx) hbx
    have up2 : ∀ b o, H b = some o → b ≠ x → H2 b = some o := fun b o hb hbx => g2 b o (up1 b o hb hbx) hbx
    have up3 : ∀ b o, H b = some o → b ≠ x → H3 b = some o := fun b o hb hbx => g3 b o (up2 b o hb hbx) hbx
    have old : ∀ b o, H b = some o → b ≠ x → b ≠ p1 ∧ b ≠ p2 ∧ b ≠ p3 ∧ b ≠ p4 := fun b o hb hbx =>
      ⟨(m1 _ _ (g0 b o hb hbx)).symm, (m2 _ _ (up1 b o hb hbx)).symm, (m3 _ _ (up2 b o hb hbx)).symm, (m4 _ _ (up3 b o hb hbx)).symm⟩
    have oka := let ⟨kvs, h, _⟩ := hka; old _ _ h nka
    have oks := let ⟨kvs, h, _⟩ := hks; old _ _ h nks
    refine k H4 ⟨C, x, dx, ka, ks, p1, p2, p3, p4⟩ rfl rfl ?_ ⟨x4, hka.mono fun o h => gg _ o h nka, hks.mono fun o h => gg _ o h nks, g4 _ _ a3 p1x, g4 _ _ b3 p2x, g4 _ _ c3 p3x, q4, ?_, ?_⟩ gg
    · intro b hb
      cases q : H b with
      | none => rfl
      | some o =>
        exfalso
        have hb : b = p1 ∨ b = p2 ∨ b = p3 ∨ b = p4 := by simpa using hb
        by_cases hbx : b = x
        · rcases hb with e | e | e | e
          · exact p1x (e.symm.trans hbx)
          · exact p2x (e.symm.trans hbx)
          · exact p3x (e.symm.trans hbx)
          · exact p4x (e.symm.trans hbx)
        · obtain ⟨o1, o2, o3, o4⟩ := old b o q hbx
          rcases hb with e | e | e | e
          · exact o1 e
          · exact o2 e
          · exact o3 e
          · exact o4 e
    · simp [List.nodup_cons, oka, e12, e13, e14, e23, e24, e34]
    · simp [List.nodup_cons, oks, e12, e13, e14, e23, e24, e34]
end
end Op
namespace L2
open PySem PySem.Spec PyProof.Rows
/-! ### d.keys() as a value, and sorted of it -/
/-- the view d.keys() at p -/
def keysO (p d : Addr) : HO := .ext fun h => PySem.W.KdlKeysView h p d
theorem keysO_ok {P : Program} {w : World} {H : Hp} {h : Heap} {p d : Addr} (e : h.get? p = some { cls := .type "dict_keys", data := .fields #[.ref d] }) : ObjOk P w H h p (keysO p d) :=
  ⟨⟨_, e, rfl, rfl⟩, ⟨_, e⟩, fun h1 h2 x k => let ⟨o, ho, r⟩ := x; ⟨o, k o ho, r⟩⟩
section
variable {X : Cx}
def rKeysV : V → List V → Hp → VK → Prop := fun x xs H Q => ∃ (a : Addr) (kvs : List (Key × V)), x = .ref a ∧ xs = [] ∧ Rd H a (.dK kvs) ∧ ∀ p, H p = none → Q (.ref p) (upd H p (keysO p a))
theorem mt_keysV : MtR X "dict.keys" rKeysV := by
  intro pins s σ H x xs v us Q I rx rxs h
  obtain ⟨a, kvs, rfl, rfl, ha, q⟩ := h
  cases rx
  cases rxs
  obtain ⟨z, lo, vs, rel, dd⟩ := dk_rd I.hok ha
  have hf : H s.heap.objs.size = none := I.hok.fresh (Nat.le_refl _)
  refine call_meetsIn PySem.F.slot_dict_keys dd.typeIs PySem.F.entry_dict_keys (PySem.F.args_dict_keys_1 _) (PySem.W.kdl_meets_keys (mixKind X.prog X.w) a lo) ⟨⟨vs, dd⟩, ?_⟩
  exact ⟨.ref s.heap.objs.size, upd H s.heap.objs.size (keysO s.heap.objs.size a), I.laid (t' := s.toks) (fun b u e => Heap.get?_push_of_some _ e) (Nat.le_refl _) (keysO_ok (Heap.get?_push_size _ rfl)), rfl, q _ hf⟩
/-- sorted(d.keys()), fewer than 64 keys, all texts -/
def rSortKV : List V → Hp → VK → Prop := fun xs H Q => ∃ (p a : Addr) (kvs : List (Key × V)) (ks : List Str), xs = [.ref p] ∧ H p = some (keysO p a) ∧ Rd H a (.dK kvs) ∧ kvs.map (·.1) = ks.map Sum.inr ∧ ks.length < 64 ∧
    ∀ ys q, ys.Perm ks → sortedS ys = true → H q = none → Q (.ref q) (upd H q (.lst (ys.map V.str)))
theorem call_sortedKV (hcalm : X.calm = true) : CallR X (.builtin "sorted") rSortKV := by
  intro pins s σ H xs us Q I r q
  obtain ⟨p, a, kvs, ks, rfl, hp, hd, hks, h64, q⟩ := q
  obtain ⟨u, rfl, rx⟩ := vals1 r
  cases rx
  have hview : PySem.W.KdlKeysView s.heap p a := (I.hok p _ hp).1
  obtain ⟨z, lo, vs, rel, dd⟩ := dk_rd I.hok hd
  obtain ⟨ep, hat⟩ := dd.dictAt
  have hkeys : vs.map (·.1) = ks.map Sum.inr := rel.keys.symm.trans hks
  have hl : vs.length = ks.length := by simpa using congrArg List.length hkeys
  refine Calls.call_function_entry PyProof.Rows.kind_sorted PyProof.Rows.plain_sorted PyProof.Rows.entry_sorted (PyProof.Rows.args_sorted1 _) ?_
  unfold Builtin.«sorted»
  refine wpAny_bind (m := checkCount "sorted" 1 1 _) (wpAny_pure ?_)
  refine wpAny_bind (PySem.W.kdu_collect (A := X.A.in1) (PySem.W.kdl_keys (knd := mixKind X.prog X.w) (r := p) (d := a) (kvs := vs) (ep := ep)) (I.ok.hd hcalm) ⟨hview, hat⟩ (by rw [hl, sizeLine_eq]; omega) fun h' tk acc hk hacc => ?_)
  have hal : acc.toList.length = ks.length := by rw [Array.length_toList, hacc.1, hl]
  have hS : StrsAre acc.toList ks := strs_at hal fun j v e => by
    obtain ⟨k, x, e1, e2⟩ := hacc.2 j v (by rw [← Array.getElem?_toList]; exact e)
    have e3 : (vs.map (·.1))[j]? = some k := by rw [List.getElem?_map, e1]; rfl
    rw [hkeys, List.getElem?_map] at e3
    cases e4 : ks[j]? with
    | none => rw [e4] at e3; cases e3
    | some y =>
      rw [e4] at e3
      obtain rfl : Sum.inr y = k := Option.some.inj e3
      obtain ⟨t, ev⟩ := Value.isStrOf_shape (x := y) (v := v) e2
      exact ⟨y, t, rfl, ev⟩
  have I1 : Inv X pins σ H { s with heap := h', toks := tk } := I.kept hk
  refine wpAny_bind (wpAny_newList ?_ (by rw [hal, sizeLine_eq]; omega))
  have hoL : (h'.push (seqObj "list" acc.toList.toArray 0)).get? h'.objs.size = some (seqObj "list" acc.toList.toArray 0) := Heap.get?_push_size _ rfl
  show wpAny _ _ _ _ _ { s with heap := h'.push (seqObj "list" acc.toList.toArray 0), toks := tk }
  refine wpAny_bind (wpAny_holding (wpAny_call_entry PyProof.Rows.slot_list_sort ⟨_, hoL, rfl⟩ PyProof.Rows.entry_list_sort
    (list_sort_treeK strKind_oneLt (s := { s with heap := h'.push (seqObj "list" acc.toList.toArray 0), toks := tk }) hoL hS.keysOf (fun v₁ v₂ rest e => keyKind_strs (by rw [← e]; exact hS)) (by rw [hal]; exact h64) fun st' hp' hs => ⟨_, rfl, ?_⟩)
    (PyProof.Rows.args_list_sort _)))
  obtain ⟨ys, g1, g2, g3⟩ := sorted_out_str hS hp' hs
  obtain ⟨e', he'⟩ := PyProof.Rows.sortedHeap_at (vs := acc.toList) (out := (arrOf st').map (·.2)) hoL
  have hlen : (ys.map V.str).length ≤ sizeLine := by
    rw [List.length_map, g2.length_eq, sizeLine_eq]
    omega
  refine wpAny_pure ⟨_, rfl, .ref h'.objs.size, upd H h'.objs.size (.lst (ys.map V.str)), I1.laid (t' := tk) (fun b u e => ?_) (Nat.le_refl _)
    (show ObjOk X.prog X.w _ _ _ (.lst (ys.map V.str)) from ⟨hlen, ((arrOf st').map (·.2)).toList, e', vals_of_strs g1, by rw [Array.toArray_toList]; exact he'⟩), rfl, q ys _ g2 g3 (I1.hok.fresh (Nat.le_refl _))⟩
  have hb : b < h'.objs.size := Heap.lt_size e
  rw [PyProof.Rows.sortedHeap_old (Nat.ne_of_lt hb) (by rw [size_push']; exact Nat.lt_succ_of_lt hb)]
  exact Heap.get?_push_of_some _ e
end
/-- a dict comprehension over what is walked -/
theorem dc_it {J : It} {n : Nat} {G : Hp → Prop} {Y : Nat → Hp → V → Hp → Prop} (w : Walk J n G Y) {g : TG} {tt : TT} {tk tv : TE} {vs : List Nat} {σ : L2.St} {H1 : Hp} {D : Addr} {Qd : Hp → Prop} (Pv : Nat → Hp → Prop) (h0 : Pv 0 (upd H1 D (.dK []))) (hG : ∀ i H, i ≤ n → Pv i H → G H)
    (hs : ∀ i x H H', i < n → Pv i H → Y i H x H' → g x (wipe σ vs) H' fun σ2 H2 => wipe σ2 vs = wipe σ vs ∧ tt σ2 H2 fun b H3 =>
      if b = true then tk σ2 H3 fun y H4 => tv σ2 H4 fun z H5 => ∃ kvs k, y = kV k ∧ H5 D = some (.dK kvs) ∧ kvs.length < sizeLine ∧ Pv (i + 1) (upd H5 D (.dK (putK kvs k z))) else Pv (i + 1) H3) (hd : ∀ H, Pv n H → Qd H) :
    ∃ W : Nat → Nat → Hp → Prop, (∃ m, W 0 m (upd H1 D (.dK []))) ∧ ∀ i m H, W i m H →
      (J.stop i H ∧ Qd H) ∨ (J.go i H ∧ ∃ Nx : Hp → Prop, (∀ H', Nx H' → ∃ m', m' < m ∧ W (i + 1) m' H') ∧ ∀ x H', J.yld i H x H' → g x (wipe σ vs) H' fun σ2 H2 => wipe σ2 vs = wipe σ vs ∧ tt σ2 H2 fun b H3 =>
        if b = true then tk σ2 H3 fun y H4 => tv σ2 H4 fun z H5 => ∃ kvs k, y = kV k ∧ H5 D = some (.dK kvs) ∧ kvs.length < sizeLine ∧ Nx (upd H5 D (.dK (putK kvs k z))) else Nx H3) := by
  refine ⟨fun i m H => m = n - i ∧ i ≤ n ∧ Pv i H, ⟨n, by simp, Nat.zero_le _, h0⟩, ?_⟩
  rintro i m H ⟨rfl, hi, p⟩
  have q := hG i H hi p
  by_cases hlt : i < n
  · exact .inr ⟨w.goes i H hlt q, Pv (i + 1), fun H' p' => ⟨n - (i + 1), by omega, rfl, hlt, p'⟩, fun x H' y => hs i x H H' hlt p (w.yields i H x H' hlt q y)⟩
  · have e : i = n := by omega
    subst e
    exact .inl ⟨w.stops H q, hd H p⟩
end L2
namespace Op
open PySem L2 PyProof.Rows
/-! ### an argument that may be None, a dict with text keys, or something else -/
inductive ArgD where
  | none
  | dict (kvs : List (Str × PyData))
  | other (d : PyData)
def KvsR (K : PySem.W.Frag) (H : Hp) : List (Key × V) → List (Str × PyData) → Prop
  | [], [] => True
  | (k, v) :: r, (x, d) :: t => k = .inr x ∧ Dp K H v d ∧ KvsR K H r t
  | _, _ => False
def ArgV (K : PySem.W.Frag) (H : Hp) (v : V) : ArgD → Prop
  | .none => v = .non
  | .dict kvs => ∃ p vs, v = .ref p ∧ H p = some (.dK vs) ∧ KvsR K H vs kvs ∧ (kvs.map (·.1)).Nodup
  | .other d => Dp K H v d ∧ d ≠ .none
def argSmall : ArgD → Prop
  | .dict kvs => kvs.length ≤ 60 ∧ ∀ p ∈ kvs, p.1.length ≤ 100000 ∧ wt p.2 ≤ 100000
  | _ => True
def argL : V → List Addr
  | .ref p => [p]
  | _ => []
/-- only a dict is touched -/
def argF : ArgD → V → List Addr
  | .dict _, v => argL v
  | _, _ => []
section
variable {K : PySem.W.Frag} {H H' : Hp}
theorem KvsR.kp (s : Kp H H') : ∀ {vs : List (Key × V)} {kvs : List (Str × PyData)}, KvsR K H vs kvs → KvsR K H' vs kvs
  | [], [], _ => trivial
  | (k, v) :: r, (x, d) :: t, ⟨h1, h2, h3⟩ => ⟨h1, h2.kp s, KvsR.kp s h3⟩
theorem KvsR.len : ∀ {vs : List (Key × V)} {kvs : List (Str × PyData)}, KvsR K H vs kvs → vs.length = kvs.length
  | [], [], _ => rfl
  | (k, v) :: r, (x, d) :: t, ⟨h1, h2, h3⟩ => congrArg Nat.succ (KvsR.len h3)
theorem KvsR.keys : ∀ {vs : List (Key × V)} {kvs : List (Str × PyData)}, KvsR K H vs kvs → vs.map (·.1) = (kvs.map (·.1)).map Sum.inr
  | [], [], _ => rfl
  | (k, v) :: r, (x, d) :: t, ⟨h1, h2, h3⟩ => by
    rw [List.map_cons, List.map_cons, List.map_cons, KvsR.keys h3, h1]
theorem KvsR.get : ∀ {vs : List (Key × V)} {kvs : List (Str × PyData)} {i : Nat} {k : Key} {v : V}, KvsR K H vs kvs → vs[i]? = some (k, v) → ∃ x d, kvs[i]? = some (x, d) ∧ k = .inr x ∧ Dp K H v d
  | [], [], i, k, v, _, h => by simp at h
  | (k, v) :: r, (x, d) :: t, 0, k', v', ⟨h1, h2, h3⟩, e => by
    obtain ⟨rfl, rfl⟩ := Prod.mk.inj (Option.some.inj e)
    exact ⟨x, d, rfl, h1, h2⟩
  | (k, v) :: r, (x, d) :: t, i + 1, k', v', ⟨h1, h2, h3⟩, e => KvsR.get (i := i) h3 e
def lk (kvs : List (Str × PyData)) (y : Str) : PyData := (kvs.lookup y).getD .none
theorem KvsR.val : ∀ {vs : List (Key × V)} {kvs : List (Str × PyData)} (y : Str), KvsR K H vs kvs → y ∈ kvs.map (·.1) → ∃ v, valV vs (.inr y) = some v ∧ Dp K H v (lk kvs y)
  | [], [], y, _, h => by simp at h
  | (k, v) :: r, (x, d) :: t, y, ⟨h1, h2, h3⟩, h => by
    by_cases e : y = x
    · subst e
      refine ⟨v, by rw [h1]; exact valV_pos rfl, ?_⟩
      unfold lk
      rw [List.lookup_cons, beq_self_eq_true]
      exact h2
    · have hm : y ∈ t.map (·.1) := by
        rw [List.map_cons] at h
        exact (List.mem_cons.mp h).resolve_left e
      obtain ⟨w, g1, g2⟩ := KvsR.val y h3 hm
      refine ⟨w, by rw [h1, valV_neg (fun q => e (Sum.inr.inj q).symm)]; exact g1, ?_⟩
      unfold lk at g2 ⊢
      rw [List.lookup_cons, show (y == x) = false by simpa using e]
      exact g2
theorem lk_self : ∀ {kvs : List (Str × PyData)}, (kvs.map (·.1)).Nodup → (kvs.map (·.1)).map (fun y => (y, lk kvs y)) = kvs := by
  intro kvs
  induction kvs with
  | nil => intro _; rfl
  | cons p r ih =>
    obtain ⟨x, d⟩ := p
    intro h
    rw [List.map_cons, List.nodup_cons] at h
    rw [List.map_cons, List.map_cons]
    have e1 : lk ((x, d) :: r) x = d := by
      unfold lk
      rw [List.lookup_cons, beq_self_eq_true]
      rfl
    rw [e1]
    have e2 : (r.map (·.1)).map (fun y => (y, lk ((x, d) :: r) y)) = (r.map (·.1)).map (fun y => (y, lk r y)) := List.map_congr_left fun y hy => by
      have : (y == x) = false := by simpa using fun e : y = x => h.1 (e ▸ hy)
      unfold lk
      rw [List.lookup_cons, this]
    rw [e2, ih h.2]
end
def okTab (ok : PyData → Bool) (most : Nat) : ArgD → Option (List (Str × PyData))
  | .none => some []
  | .other _ => none
  | .dict kvs => if kvs.length ≤ most ∧ (kvs.all fun p => isWordS p.1 && ok p.2) = true then some kvs else none
section
variable {P : Program} {w : World} {K : PySem.W.Frag} {mg : Str → Option Value} {base : Heap} {pS CI : Addr}
def spTab (K : PySem.W.Frag) (CI : Addr) (part : Str) (ok : PyData → Bool) (most : Nat) : Sp := fun vs H Q X => ∃ v a, vs = [v] ∧ ArgV K H v a ∧ argSmall a ∧
  (∀ kvs, okTab ok most a = some kvs → ∀ p' H' ws kvs', Same H H' → H p' = none → H' p' = some (.dK ws) → kvs'.Perm kvs → sortedS (kvs'.map (·.1)) = true → KvsR K H' ws kvs' → Q (.ref p') H') ∧
  (okTab ok most a = none → ∀ H' d, Fr (argF a v) H H' → XProg K H' d part [] → X (.ref CI) (some d) H')
theorem nodup_take {ys : List Str} {i : Nat} {y : Str} (h : ys.Nodup) (e : ys[i]? = some y) : y ∉ ys.take i := fun m => by
  obtain ⟨j, hj⟩ := List.getElem?_of_mem m
  have hji : j < i := by
    have := (List.getElem?_eq_some_iff.mp hj).1
    rw [List.length_take] at this
    omega
  rw [List.getElem?_take, if_pos hji] at hj
  obtain ⟨h1, e1⟩ := List.getElem?_eq_some_iff.mp hj
  obtain ⟨h2, e2⟩ := List.getElem?_eq_some_iff.mp e
  exact (List.pairwise_iff_getElem.mp h) j i h1 h2 hji (e1.trans e2.symm)
theorem tyV_dK {H : Hp} {p : Addr} {kvs : List (Key × V)} (h : H p = some (.dK kvs)) : tyV K "dict" (.ref p) H := .inr (.inr (.inl ⟨rfl, .inl ⟨kvs, h⟩⟩))
theorem kit_dictK {H : Hp} {p : Addr} {kvs : List (Key × V)} (h : H p = some (.dK kvs)) : TyX K H (.ref p) (.type "dict") := .base (.dK h)
theorem sc_checked_asks : FnScope ["value", "name", "words"] ["value"] (defScope s_checked_asks) := ⟨rfl, rfl, rfl, by decide +kernel, rfl, by decide +kernel, by decide +kernel⟩
theorem ok_checked_asks {f : Addr} {fd : FuncData} (F : Fun K "checked_asks" "checked_asks" s_checked_asks f fd) (T : TxtC P w K mg pS CI) (c_is_word : Cal P w K mg base CX0 1 "is_word" ["value"] (spWord K)) (c_are_words : Cal P w K mg base CX0 2 "are_words" ["value", "most"] (spAreWords K)) :
    FnOk P w K mg base (L2.CX P w) 3 f fd ["value"] (spTab K CI "asks" (areWords 4) 6) := by
  refine F.okX sc_checked_asks (fun vs H Q E h => ?_) (fun cdv A outer s H vs Q E hr h => ?_)
  · obtain ⟨v, a, rfl, _⟩ := h
    rfl
  · obtain ⟨v, a, rfl, hv, hsm, k1, k2⟩ := h
    have hu := hu_of hr
    refine ⟨_, (pss_cons (ps_if (pt_cmpR op_isN (pv 0) pe_non (nomark _)) (pss_one (ps_ret pe_dnewK)) pss_nil)
      (pss_cons (ps_if (PW.pt (pw_or (pt_not (pt_val (pe_callB call_isi (by rfl) T.b_isinstance (by decide +kernel) (pa_cons (pv 0) (pa_cons (pe_bltn (v := .ty "dict") (by rfl) T.b_dict (by decide +kernel) rfl) pa_nil))))) (pw_or1 (pt_cmpR op_gt (pe_callB call_lenD (by rfl) T.b_len (by decide +kernel) (pa_cons (pv 0) pa_nil)) pe_int (nomark _))))) (pss_one (ps_raise rfl (takes_of rfl rfl rfl rfl) (pmk_x T.mk_InvalidProgram hr rfl T.g_InvalidProgram T.k_InvalidProgram T.r_InvalidProgram (pa_cons pe_str (pa_cons (pe_tup pa_nil) pa_nil))))) pss_nil)
      (pss_cons (ps_lock (ps_for (passes_of rfl) rfl (pi_items (pv 0)) (pg_tup rfl (pgs_cons (pg_name (i := 1) sc_checked_asks.nd rfl (.inl rfl)) (pgs_cons (pg_name (i := 2) sc_checked_asks.nd rfl (.inl rfl)) pgs_nil))) (pss_one (ps_if (PW.pt (pw_or (pt_not (pt_val (pe_cal c_is_word (hr.mono (by omega)) rfl pass0 (pa_cons (pv 1) pa_nil)))) (pw_or1 (pt_not (pt_val (pe_cal c_are_words (hr.mono (by omega)) rfl pass0 (pa_cons (pv 2) (pa_cons pe_int pa_nil)))))))) (pss_one (ps_raise rfl (takes_of rfl rfl rfl rfl) (pmk_x T.mk_InvalidProgram hr rfl T.g_InvalidProgram T.k_InvalidProgram T.r_InvalidProgram (pa_cons pe_str (pa_cons (pe_tup pa_nil) pa_nil))))) pss_nil))))
      (pss_one (ps_ret (pe_dc (own := [("name", 1)]) (g := gName 1) (tt := tYes) rfl sc_checked_asks.nd (pi_list (pe_callB (call_sortedKV rfl) (by rfl) T.b_sorted (by decide +kernel) (pa_cons (pe_bm0 PySem.F.plainAttrs_dict PySem.F.slot_dict_keys PySem.F.type_dict_keys mt_keysV (pv 0)) pa_nil))) (blkOk_by (own := [("name", 1)]) (N := ["value", "name", "words"]) (sc := defScope s_checked_asks) (by decide +kernel)) (fun _ _ _ _ _ => (pg_name (i := 1) sc_checked_asks.nd rfl (.inl rfl))) (fun _ _ _ _ _ => pts_nil) (fun _ _ _ _ _ => (pv 1)) (fun _ _ _ _ _ => (pe_dget hu (pv 0) (pv 1) (fun _ _ => rfl))))))))), ?_⟩
    have fin : (∀ H' dd, Fr (argF a v) H H' → XProg K H' dd "asks" [] → E (.ref CI) (some dd) H') → ∀ H1, Fr (argF a v) H H1 → ∀ p, H1 p = none → ∀ d, upd H1 p (.tup []) d = none → E (.ref CI) (some d) (upd (upd H1 p (.tup [])) d (.xd [("path", .ref p), ("part", .str "asks")])) := by
      intro k H1 f1 p hp d hd
      refine k _ d (f1.trans ((Same.new hp).trans (Same.new hd)).fr) ⟨p, upd_same, ?_⟩
      exact SqT.mono (.inl (.inl upd_same)) (Same.new hd)
    cases a with
    | none =>
      obtain rfl := hv
      refine ⟨_, rfl, rfl, _, rfl, ifT rfl fun p hp => ?_⟩
      exact k1 [] rfl p _ [] [] (Same.new hp) hp upd_same .nil rfl trivial
    | other d =>
      obtain ⟨hd, hn⟩ := hv
      have hvn : decide (v = .non) = false := decide_eq_false fun e => by
        subst e
        cases hd
        exact hn rfl
      refine ⟨_, rfl, rfl, _, rfl, ?_⟩
      rw [hvn]
      refine ifF rfl ⟨_, rfl, v, _, _, _, _, rfl, .ty _, ty_dp hd, kit_dict d, _, rfl, ?_⟩
      have fin' : ∀ p, H p = none → ∀ d, upd H p (.tup []) d = none → E (.ref CI) (some d) (upd (upd H p (.tup [])) d (.xd [("path", .ref p), ("part", .str "asks")])) := fin (k2 rfl) H Fr.refl
      cases hd <;> exact ifT rfl (ifT rfl ⟨sz_lit (by decide), fun p hp => ⟨rfl, fun d hd => fin' p hp d hd⟩⟩)
    | dict kvs =>
      obtain ⟨p, vs, rfl, hp, hkv, hnd⟩ := hv
      obtain ⟨hl60, hsmall⟩ := hsm
      have hlen := hkv.len
      refine ⟨_, rfl, rfl, _, rfl, ifF rfl ?_⟩
      refine ⟨_, rfl, .ref p, _, _, _, _, rfl, .ty _, kit_dictK hp, kit_ty (show kitB "dict" "dict" = some true by decide +kernel), _, rfl, ifF rfl ?_⟩
      refine ⟨_, rfl, p, vs, rfl, hp, _, _, rfl, rfl, _, rfl, ?_⟩
      by_cases e1 : 6 < vs.length
      · refine ifT (decide_eq_true (show (6 : Int) < (vs.length : Int) by omega)) ?_
        have : okTab (areWords 4) 6 (.dict kvs) = none := if_neg fun h => by omega
        exact ⟨sz_lit (by decide), fun q hq => ⟨rfl, fun d hd => fin (k2 this) H Fr.refl q hq d hd⟩⟩
      refine ifF (decide_eq_false (show ¬ (6 : Int) < (vs.length : Int) by omega)) ?_
      refine ⟨p, _, hp, trivial, fun od => ?_⟩
      have kp1 : Kp H (upd H p (.frz od (.dK vs))) := fun b o hb ho => by
        have : b ≠ p := fun e => by rw [e, hp] at hb; cases hb; cases ho
        rw [upd_ne this]
        exact hb
      have fr1 : Fr (argF (.dict kvs) (.ref p)) H (upd H p (.frz od (.dK vs))) := Fr.refl.upd (by simp [argF, argL])
      refine ⟨_, rfl, p, od, vs, rfl, upd_same, ?_⟩
      refine for_it walk_items (fun i σ H' => (∃ y1 y2 : Option V, σ = [some (.ref p), y1, y2]) ∧ Same (upd H p (.frz od (.dK vs))) H' ∧ ((kvs.take i).all fun q => isWordS q.1 && areWords 4 q.2) = true) ⟨⟨_, _, rfl⟩, Same.refl _, rfl⟩ (fun i σ H' _ q => q.2.1 _ _ upd_same) ?_ ?_
      · rintro i v σ H1 H2 hi ⟨⟨y1, y2, rfl⟩, s1, hall⟩ ⟨T0, x, y, rfl, hT0, rfl, hx, hy⟩
        have hvi : vs[i]? = some vs[i] := List.getElem?_eq_getElem hi
        have hx : Option.map (fun kv => kV kv.1) vs[i]? = some x := hx
        have hy : Option.map Prod.snd vs[i]? = some y := hy
        rw [hvi] at hx hy
        obtain ⟨xk, d, hki, hk, hdy⟩ := hkv.get (k := vs[i].1) (v := vs[i].2) hvi
        obtain rfl : x = .str xk := by
          rw [← Option.some.inj hx]
          show kV vs[i].1 = _
          rw [hk]
          rfl
        obtain rfl : y = vs[i].2 := (Option.some.inj hy).symm
        obtain ⟨hs1, hs2⟩ := hsmall (xk, d) (List.mem_of_getElem? hki)
        have sm2 : Same H1 (upd H1 T0 (.tup [.str xk, vs[i].2])) := Same.new hT0
        refine ⟨T0, _, rfl, .inl (.inl upd_same), rfl, _, _, rfl, _, _, rfl, rfl, ?_⟩
        have s2 := s1.trans sm2
        revert s2
        generalize upd H1 T0 (.tup [.str xk, vs[i].2]) = H2
        intro s2
        have hdy2 : Dp K H2 vs[i].2 d := hdy.kp (kp1.trans s2.kp)
        refine ⟨_, rfl, .str xk, .str xk, rfl, .str xk, fun z e => by cases e; exact hs1, _, rfl, ?_⟩
        have bad : (isWordS xk && areWords 4 d) = false → okTab (areWords 4) 6 (.dict kvs) = none := fun hb => if_neg fun h => by
          have := List.all_eq_true.mp h.2 (xk, d) (List.mem_of_getElem? hki)
          rw [hb] at this
          cases this
        have up : ∀ q, H2 q = none → ∀ d, upd H2 q (.tup []) d = none → okTab (areWords 4) 6 (.dict kvs) = none → E (.ref CI) (some d) (upd (upd H2 q (.tup [])) d (.xd [("path", .ref q), ("part", .str "asks")])) := fun q hq d hd hn => fin (k2 hn) H2 (fr1.trans s2.fr) q hq d hd
        by_cases w1 : isWordS xk = true
        · rw [show isWord (.str xk) = true from w1]
          refine ifF rfl ⟨_, rfl, vs[i].2, d, 4, rfl, hdy2, small_of d hs2, by decide, _, rfl, ?_⟩
          by_cases w2 : areWords 4 d = true
          · rw [w2]
            refine ifF rfl ⟨⟨_, _, rfl⟩, s2, ?_⟩
            rw [TS.take_one hki, List.all_append, hall]
            simp [w1, w2]
          · rw [Bool.eq_false_iff.mpr w2]
            refine ifT rfl ⟨sz_lit (by decide), fun q hq => ⟨rfl, fun d hd => up q hq d hd (bad ?_)⟩⟩
            rw [Bool.eq_false_iff.mpr w2, Bool.and_false]
        · rw [show isWord (.str xk) = false from Bool.eq_false_iff.mpr w1]
          refine ifT rfl (ifT rfl ⟨sz_lit (by decide), fun q hq => ⟨rfl, fun d hd => up q hq d hd (bad ?_)⟩⟩)
          rw [Bool.eq_false_iff.mpr w1, Bool.false_and]
      · rintro σ H1 ⟨⟨y1, y2, rfl⟩, s1, hall⟩
        rw [List.take_of_length_le (by omega)] at hall
        refine ⟨s1 _ _ upd_same, ?_⟩
        have good : okTab (areWords 4) 6 (.dict kvs) = some kvs := if_pos ⟨by omega, hall⟩
        have sA : Same H (upd H1 p (.dK vs)) := fun b o hb => by
          by_cases e : b = p
          · subst e
            rw [hp] at hb
            rw [upd_same]
            exact hb
          · rw [upd_ne e]
            refine s1 b o ?_
            rw [upd_ne e]
            exact hb
        have hpA : upd H1 p (.dK vs) p = some (.dK vs) := upd_same
        revert sA hpA
        generalize upd H1 p (.dK vs) = H2
        intro sA hpA
        refine ⟨_, rfl, tyV_dK hpA, p, vs, rfl, rfl, .inl hpA, fun q hq => ?_⟩
        have sB : Same H2 (upd H2 q (keysO q p)) := Same.new hq
        refine ⟨q, p, vs, kvs.map (·.1), rfl, upd_same, .inl (sB _ _ hpA), hkv.keys, by rw [List.length_map]; omega, fun ys l hperm hsort hl => ?_⟩
        have sC := sB.trans (Same.new (o := .lst (ys.map V.str)) hl)
        have hlC : upd (upd H2 q (keysO q p)) l (.lst (ys.map V.str)) l = some (.lst (ys.map V.str)) := upd_same
        revert sC hlC
        generalize upd (upd H2 q (keysO q p)) l (.lst (ys.map V.str)) = H3
        intro sC hlC
        refine ⟨l, rfl, ⟨_, .inl (.inl hlC)⟩, fun D hD => ?_⟩
        have hnd' : ys.Nodup := hperm.nodup_iff.mpr hnd
        have hyl : ys.length = kvs.length := by rw [hperm.length_eq, List.length_map]
        have hDS : Same H3 (upd H3 D (.dK [])) := Same.new hD
        refine dc_it (walk_list (xs := ys.map V.str)) (fun i H' => H' D = some (.dK ((ys.take i).map fun y => (Sum.inr y, (valV vs (.inr y)).getD .non))) ∧ Same H3 H') ⟨upd_same, hDS⟩ (fun i H' _ q => .inl (.inl (q.2 _ _ hlC))) ?_ ?_
        · rintro i x H5 H4 hi ⟨hD4, s4⟩ ⟨rfl, hx⟩
          have hi' : i < ys.length := by rw [List.length_map] at hi; exact hi
          have hyi : ys[i]? = some ys[i] := List.getElem?_eq_getElem hi'
          obtain rfl : x = .str ys[i] := by
            rw [List.getElem?_map, hyi] at hx
            exact (Option.some.inj hx).symm
          obtain ⟨v, hv1, hv2⟩ := hkv.val ys[i] (hperm.mem_iff.mp (List.mem_of_getElem? hyi))
          have hp4 : H4 p = some (.dK vs) := s4 _ _ (sC _ _ hpA)
          refine ⟨rfl, ?_⟩
          refine ⟨_, rfl, _, rfl, _, rfl, p, v, rfl, by rw [← hv1]; exact dget_known hp4, _, .inr ys[i], rfl, hD4, lt_sz (by rw [List.length_map, List.length_take]; omega), ?_, fun b o hb => ?_⟩
          · rw [upd_same, putK_new]
            · rw [TS.take_one hyi, List.map_append, List.map_cons, List.map_nil, hv1]
              rfl
            · have : ∀ l : List Str, ys[i] ∉ l → valV (l.map fun y => ((Sum.inr y : Key), (valV vs (.inr y)).getD .non)) (.inr ys[i]) = none := by
                intro l
                induction l with
                | nil => intro _; rfl
                | cons z r ih =>
                  intro hz
                  rw [List.mem_cons, not_or] at hz
                  rw [List.map_cons, valV_neg (fun e => hz.1 (Sum.inr.inj e).symm)]
                  exact ih hz.2
              exact this _ (nodup_take hnd' hyi)
          · have : b ≠ D := fun e => by rw [e, hD] at hb; cases hb
            rw [upd_ne this]
            exact s4 b o hb
        · rintro H4 ⟨hD4, s4⟩
          rw [List.length_map, List.take_length] at hD4
          have sall : Same H H4 := sA.trans (sC.trans s4)
          refine k1 kvs good D H4 _ (ys.map fun y => (y, lk kvs y)) sall ?_ hD4 ?_ ?_ ?_
          · exact (sA.trans sC).free hD
          · have := hperm.map (fun y => (y, lk kvs y))
            rw [lk_self hnd] at this
            exact this
          · rw [List.map_map]
            have : ((fun x : Str × PyData => x.1) ∘ fun y => (y, lk kvs y)) = id := by funext y; rfl
            rw [this, List.map_id]
            exact hsort
          · have : ∀ l : List Str, (∀ y ∈ l, y ∈ kvs.map (·.1)) → KvsR K H4 (l.map fun y => ((Sum.inr y : Key), (valV vs (.inr y)).getD .non)) (l.map fun y => (y, lk kvs y)) := by
              intro l
              induction l with
              | nil => intro _; exact trivial
              | cons z r ih =>
                intro hz
                obtain ⟨v, hv1, hv2⟩ := hkv.val z (hz z List.mem_cons_self)
                refine ⟨rfl, ?_, ih fun y hy => hz y (List.mem_cons_of_mem _ hy)⟩
                show Dp K H4 ((valV vs (.inr z)).getD .non) _
                rw [hv1]
                exact hv2.mono sall
            exact this ys fun y hy => hperm.mem_iff.mp hy
end
end Op
namespace Op
open PySem L2 PyProof.Rows
def isBox : PyData → Bool
  | .tuple [.int n, d] => decide (1 ≤ n ∧ n ≤ 3) && areWords 3 d
  | _ => false
section
variable {P : Program} {w : World} {K : PySem.W.Frag} {mg : Str → Option Value} {base : Heap} {pS CI : Addr}
theorem small_tup {ds : List PyData} (h : small (.tuple ds) = true) : smalls ds = true := by
  unfold small at h
  exact (Bool.and_eq_true_iff.mp h).2
def spInt (K : PySem.W.Frag) : Sp := fun vs H Q _ => ∃ (v : V) (d : PyData), vs = [v] ∧ Dp K H v d ∧ Q (.bl (isInt d)) H
theorem sc_is_integer : FnScope ["value"] ["value"] (defScope s_is_integer) := ⟨rfl, rfl, rfl, by decide +kernel, rfl, by decide +kernel, by decide +kernel⟩
theorem ok_is_integer {f : Addr} {fd : FuncData} (F : Fun K "is_integer" "is_integer" s_is_integer f fd) (T : Txt mg) : FnOk P w K mg base CX0 1 f fd ["value"] (spInt K) := by
  refine F.ok sc_is_integer (fun vs H Q E h => ?_) (fun cdv A outer s H vs Q E hr h => ?_)
  · obtain ⟨v, d, rfl, _⟩ := h
    rfl
  · obtain ⟨v, d, rfl, hd, k⟩ := h
    refine ⟨_, (pss_one (ps_ret (pe_and (pe_callB call_isi (by rfl) T.b_isinstance (by decide +kernel) (pa_cons (pv 0) (pa_cons (pe_bltn (v := .ty "int") (by rfl) T.b_int (by decide +kernel) rfl) pa_nil))) (pe_one (pe_not (pe_callB call_isi (by rfl) T.b_isinstance (by decide +kernel) (pa_cons (pv 0) (pa_cons (pe_bltn (v := .ty "bool") (by rfl) T.b_bool (by decide +kernel) rfl) pa_nil)))))))), ?_⟩
    refine ⟨_, rfl, v, _, _, _, _, rfl, .ty _, ty_dp hd, kit_int d, _, rfl, ?_⟩
    cases hd with
    | int i => exact ifT rfl ⟨_, rfl, .int i, _, _, _, _, rfl, .ty _, ty_dp (.int i), kit_bool (.int i), _, rfl, k⟩
    | bl b => exact ifT rfl ⟨_, rfl, .bl b, _, _, _, _, rfl, .ty _, ty_dp (.bl b), kit_bool (.bool b), _, rfl, k⟩
    | _ => exact ifF rfl k
def spBox (K : PySem.W.Frag) : Sp := fun vs H Q _ => ∃ (v : V) (d : PyData), vs = [v] ∧ Dp K H v d ∧ small d = true ∧ Q (.bl (isBox d)) H
theorem sc_is_box : FnScope ["value"] ["value"] (defScope s_is_box) := ⟨rfl, rfl, rfl, by decide +kernel, rfl, by decide +kernel, by decide +kernel⟩
theorem ok_is_box {f : Addr} {fd : FuncData} (F : Fun K "is_box" "is_box" s_is_box f fd) (T : Txt mg) (c_is_integer : Cal P w K mg base CX0 1 "is_integer" ["value"] (spInt K)) (c_are_words : Cal P w K mg base CX0 2 "are_words" ["value", "most"] (spAreWords K)) : FnOk P w K mg base CX0 3 f fd ["value"] (spBox K) := by
  refine F.ok sc_is_box (fun vs H Q E h => ?_) (fun cdv A outer s H vs Q E hr h => ?_)
  · obtain ⟨v, d, rfl, _⟩ := h
    rfl
  · obtain ⟨v, d, rfl, hd, hs, k⟩ := h
    refine ⟨_, (pss_cons (ps_if (PW.pt (pw_or (pt_not (pt_val (pe_callB call_isi (by rfl) T.b_isinstance (by decide +kernel) (pa_cons (pv 0) (pa_cons (pe_bltn (v := .ty "tuple") (by rfl) T.b_tuple (by decide +kernel) rfl) pa_nil))))) (pw_or (pt_cmpR op_ne (pe_callB call_len_seq (by rfl) T.b_len (by decide +kernel) (pa_cons (pv 0) pa_nil)) pe_int (nomark _)) (pw_or1 (pt_not (pt_val (pe_cal c_is_integer (hr.mono (by omega)) rfl pass0 (pa_cons (pe_ix ix_tup (pv 0) pe_int (fun _ _ => rfl)) pa_nil)))))))) (pss_one (ps_ret pe_bl)) pss_nil)
      (pss_one (ps_ret (pe_and (pe_chain op_le op_le pe_int (pe_ix ix_tup (pv 0) pe_int (fun _ _ => rfl)) pe_int) (pe_one (pe_cal c_are_words (hr.mono (by omega)) rfl pass0 (pa_cons (pe_ix ix_tup (pv 0) pe_int (fun _ _ => rfl)) (pa_cons pe_int pa_nil)))))))), ?_⟩
    refine ⟨_, rfl, v, _, _, _, _, rfl, .ty _, ty_dp hd, kit_tuple d, _, rfl, ?_⟩
    cases hd with
    | @tup a xs ds hq ha =>
      refine ifF rfl ⟨_, rfl, a, xs, rfl, .inr hq, rfl, _, rfl, ?_⟩
      have hlen := ha.len
      by_cases c : xs.length = 2
      · rw [c]
        refine ifF rfl ?_
        match xs, ds, ha, c, hlen, hq, hs, k with
        | [x, y], [d0, d1], .cons h0 (.cons h1 .nil), _, _, hq, hs, k =>
          refine ⟨_, rfl, a, _, 0, _, rfl, rfl, hq, atI_zero _ _, x, d0, rfl, h0, _, rfl, ?_⟩
          by_cases ci : isInt d0 = true
          · rw [ci]
            refine ifF rfl ?_
            cases h0 with
            | int n =>
              have hs1 : small d1 = true := smalls_get (ds := [.int n, d1]) (i := 1) (small_tup hs) rfl
              have e : isBox (.tuple [.int n, d1]) = (decide (1 ≤ n ∧ n ≤ 3) && areWords 3 d1) := rfl
              rw [e] at k
              refine ⟨_, rfl, a, _, 0, _, rfl, rfl, hq, atI_zero _ _, _, _, rfl, rfl, _, rfl, ?_⟩
              by_cases c1 : 1 ≤ n
              · refine ifT (decide_eq_true c1) ⟨_, _, rfl, rfl, _, rfl, ?_⟩
                by_cases c2 : n ≤ 3
                · rw [decide_eq_true (⟨c1, c2⟩ : 1 ≤ n ∧ n ≤ 3)] at k
                  exact ifT (decide_eq_true c2) ⟨_, rfl, a, _, 1, _, rfl, rfl, hq, atI_one _ _ _, y, d1, 3, rfl, h1, hs1, by decide, k⟩
                · rw [decide_eq_false (fun h => c2 h.2 : ¬ (1 ≤ n ∧ n ≤ 3))] at k
                  exact ifF (decide_eq_false c2) k
              · rw [decide_eq_false (fun h => c1 h.1 : ¬ (1 ≤ n ∧ n ≤ 3))] at k
                exact ifF (decide_eq_false c1) ⟨_, rfl, ifF rfl k⟩
            | _ => cases ci
          · rw [Bool.eq_false_iff.mpr ci]
            refine ifT rfl ?_
            have : isBox (.tuple [d0, d1]) = false := by cases d0 <;> first | rfl | exact absurd rfl ci
            rw [this] at k
            exact k
      · refine ifT (by rw [decide_eq_false (by intro z; injection z with z; omega)]; rfl) (ifT rfl ?_)
        · have : isBox (.tuple ds) = false := by
            match ds, hlen with
            | [], _ => rfl
            | [x], _ => cases x <;> rfl
            | [_, _], h => exact absurd h c
            | x :: _ :: _ :: _, _ => cases x <;> rfl
          rw [this] at k
          exact k
    | _ => exact ifT rfl (ifT rfl k)
theorem sc_checked_signals : FnScope ["value", "name", "box"] ["value"] (defScope s_checked_signals) := ⟨rfl, rfl, rfl, by decide +kernel, rfl, by decide +kernel, by decide +kernel⟩
theorem ok_checked_signals {f : Addr} {fd : FuncData} (F : Fun K "checked_signals" "checked_signals" s_checked_signals f fd) (T : TxtC P w K mg pS CI) (c_is_word : Cal P w K mg base CX0 1 "is_word" ["value"] (spWord K)) (c_is_box : Cal P w K mg base CX0 3 "is_box" ["value"] (spBox K)) :
    FnOk P w K mg base (L2.CX P w) 4 f fd ["value"] (spTab K CI "signals" isBox 3) := by
  refine F.okX sc_checked_signals (fun vs H Q E h => ?_) (fun cdv A outer s H vs Q E hr h => ?_)
  · obtain ⟨v, a, rfl, _⟩ := h
    rfl
  · obtain ⟨v, a, rfl, hv, hsm, k1, k2⟩ := h
    have hu := hu_of hr
    refine ⟨_, (pss_cons (ps_if (pt_cmpR op_isN (pv 0) pe_non (nomark _)) (pss_one (ps_ret pe_dnewK)) pss_nil)
      (pss_cons (ps_if (PW.pt (pw_or (pt_not (pt_val (pe_callB call_isi (by rfl) T.b_isinstance (by decide +kernel) (pa_cons (pv 0) (pa_cons (pe_bltn (v := .ty "dict") (by rfl) T.b_dict (by decide +kernel) rfl) pa_nil))))) (pw_or1 (pt_cmpR op_gt (pe_callB call_lenD (by rfl) T.b_len (by decide +kernel) (pa_cons (pv 0) pa_nil)) pe_int (nomark _))))) (pss_one (ps_raise rfl (takes_of rfl rfl rfl rfl) (pmk_x T.mk_InvalidProgram hr rfl T.g_InvalidProgram T.k_InvalidProgram T.r_InvalidProgram (pa_cons pe_str (pa_cons (pe_tup pa_nil) pa_nil))))) pss_nil)
      (pss_cons (ps_lock (ps_for (passes_of rfl) rfl (pi_items (pv 0)) (pg_tup rfl (pgs_cons (pg_name (i := 1) sc_checked_signals.nd rfl (.inl rfl)) (pgs_cons (pg_name (i := 2) sc_checked_signals.nd rfl (.inl rfl)) pgs_nil))) (pss_one (ps_if (PW.pt (pw_or (pt_not (pt_val (pe_cal c_is_word (hr.mono (by omega)) rfl pass0 (pa_cons (pv 1) pa_nil)))) (pw_or1 (pt_not (pt_val (pe_cal c_is_box (hr.mono (by omega)) rfl pass0 (pa_cons (pv 2) pa_nil))))))) (pss_one (ps_raise rfl (takes_of rfl rfl rfl rfl) (pmk_x T.mk_InvalidProgram hr rfl T.g_InvalidProgram T.k_InvalidProgram T.r_InvalidProgram (pa_cons pe_str (pa_cons (pe_tup pa_nil) pa_nil))))) pss_nil))))
      (pss_one (ps_ret (pe_dc (own := [("name", 1)]) (g := gName 1) (tt := tYes) rfl sc_checked_signals.nd (pi_list (pe_callB (call_sortedKV rfl) (by rfl) T.b_sorted (by decide +kernel) (pa_cons (pe_bm0 PySem.F.plainAttrs_dict PySem.F.slot_dict_keys PySem.F.type_dict_keys mt_keysV (pv 0)) pa_nil))) (blkOk_by (own := [("name", 1)]) (N := ["value", "name", "box"]) (sc := defScope s_checked_signals) (by decide +kernel)) (fun _ _ _ _ _ => (pg_name (i := 1) sc_checked_signals.nd rfl (.inl rfl))) (fun _ _ _ _ _ => pts_nil) (fun _ _ _ _ _ => (pv 1)) (fun _ _ _ _ _ => (pe_dget hu (pv 0) (pv 1) (fun _ _ => rfl))))))))), ?_⟩
    have fin : (∀ H' dd, Fr (argF a v) H H' → XProg K H' dd "signals" [] → E (.ref CI) (some dd) H') → ∀ H1, Fr (argF a v) H H1 → ∀ p, H1 p = none → ∀ d, upd H1 p (.tup []) d = none → E (.ref CI) (some d) (upd (upd H1 p (.tup [])) d (.xd [("path", .ref p), ("part", .str "signals")])) := by
      intro k H1 f1 p hp d hd
      refine k _ d (f1.trans ((Same.new hp).trans (Same.new hd)).fr) ⟨p, upd_same, ?_⟩
      exact SqT.mono (.inl (.inl upd_same)) (Same.new hd)
    cases a with
    | none =>
      obtain rfl := hv
      refine ⟨_, rfl, rfl, _, rfl, ifT rfl fun p hp => ?_⟩
      exact k1 [] rfl p _ [] [] (Same.new hp) hp upd_same .nil rfl trivial
    | other d =>
      obtain ⟨hd, hn⟩ := hv
      have hvn : decide (v = .non) = false := decide_eq_false fun e => by
        subst e
        cases hd
        exact hn rfl
      refine ⟨_, rfl, rfl, _, rfl, ?_⟩
      rw [hvn]
      refine ifF rfl ⟨_, rfl, v, _, _, _, _, rfl, .ty _, ty_dp hd, kit_dict d, _, rfl, ?_⟩
      have fin' : ∀ p, H p = none → ∀ d, upd H p (.tup []) d = none → E (.ref CI) (some d) (upd (upd H p (.tup [])) d (.xd [("path", .ref p), ("part", .str "signals")])) := fin (k2 rfl) H Fr.refl
      cases hd <;> exact ifT rfl (ifT rfl ⟨sz_lit (by decide), fun p hp => ⟨rfl, fun d hd => fin' p hp d hd⟩⟩)
    | dict kvs =>
      obtain ⟨p, vs, rfl, hp, hkv, hnd⟩ := hv
      obtain ⟨hl60, hsmall⟩ := hsm
      have hlen := hkv.len
      refine ⟨_, rfl, rfl, _, rfl, ifF rfl ?_⟩
      refine ⟨_, rfl, .ref p, _, _, _, _, rfl, .ty _, kit_dictK hp, kit_ty (show kitB "dict" "dict" = some true by decide +kernel), _, rfl, ifF rfl ?_⟩
      refine ⟨_, rfl, p, vs, rfl, hp, _, _, rfl, rfl, _, rfl, ?_⟩
      by_cases e1 : 3 < vs.length
      · refine ifT (decide_eq_true (show (3 : Int) < (vs.length : Int) by omega)) ?_
        have : okTab isBox 3 (.dict kvs) = none := if_neg fun h => by omega
        exact ⟨sz_lit (by decide), fun q hq => ⟨rfl, fun d hd => fin (k2 this) H Fr.refl q hq d hd⟩⟩
      refine ifF (decide_eq_false (show ¬ (3 : Int) < (vs.length : Int) by omega)) ?_
      refine ⟨p, _, hp, trivial, fun od => ?_⟩
      have kp1 : Kp H (upd H p (.frz od (.dK vs))) := fun b o hb ho => by
        have : b ≠ p := fun e => by rw [e, hp] at hb; cases hb; cases ho
        rw [upd_ne this]
        exact hb
      have fr1 : Fr (argF (.dict kvs) (.ref p)) H (upd H p (.frz od (.dK vs))) := Fr.refl.upd (by simp [argF, argL])
      refine ⟨_, rfl, p, od, vs, rfl, upd_same, ?_⟩
      refine for_it walk_items (fun i σ H' => (∃ y1 y2 : Option V, σ = [some (.ref p), y1, y2]) ∧ Same (upd H p (.frz od (.dK vs))) H' ∧ ((kvs.take i).all fun q => isWordS q.1 && isBox q.2) = true) ⟨⟨_, _, rfl⟩, Same.refl _, rfl⟩ (fun i σ H' _ q => q.2.1 _ _ upd_same) ?_ ?_
      · rintro i v σ H1 H2 hi ⟨⟨y1, y2, rfl⟩, s1, hall⟩ ⟨T0, x, y, rfl, hT0, rfl, hx, hy⟩
        have hvi : vs[i]? = some vs[i] := List.getElem?_eq_getElem hi
        have hx : Option.map (fun kv => kV kv.1) vs[i]? = some x := hx
        have hy : Option.map Prod.snd vs[i]? = some y := hy
        rw [hvi] at hx hy
        obtain ⟨xk, d, hki, hk, hdy⟩ := hkv.get (k := vs[i].1) (v := vs[i].2) hvi
        obtain rfl : x = .str xk := by
          rw [← Option.some.inj hx]
          show kV vs[i].1 = _
          rw [hk]
          rfl
        obtain rfl : y = vs[i].2 := (Option.some.inj hy).symm
        obtain ⟨hs1, hs2⟩ := hsmall (xk, d) (List.mem_of_getElem? hki)
        have sm2 : Same H1 (upd H1 T0 (.tup [.str xk, vs[i].2])) := Same.new hT0
        refine ⟨T0, _, rfl, .inl (.inl upd_same), rfl, _, _, rfl, _, _, rfl, rfl, ?_⟩
        have s2 := s1.trans sm2
        revert s2
        generalize upd H1 T0 (.tup [.str xk, vs[i].2]) = H2
        intro s2
        have hdy2 : Dp K H2 vs[i].2 d := hdy.kp (kp1.trans s2.kp)
        refine ⟨_, rfl, .str xk, .str xk, rfl, .str xk, fun z e => by cases e; exact hs1, _, rfl, ?_⟩
        have bad : (isWordS xk && isBox d) = false → okTab isBox 3 (.dict kvs) = none := fun hb => if_neg fun h => by
          have := List.all_eq_true.mp h.2 (xk, d) (List.mem_of_getElem? hki)
          rw [hb] at this
          cases this
        have up : ∀ q, H2 q = none → ∀ d, upd H2 q (.tup []) d = none → okTab isBox 3 (.dict kvs) = none → E (.ref CI) (some d) (upd (upd H2 q (.tup [])) d (.xd [("path", .ref q), ("part", .str "signals")])) := fun q hq d hd hn => fin (k2 hn) H2 (fr1.trans s2.fr) q hq d hd
        by_cases w1 : isWordS xk = true
        · rw [show isWord (.str xk) = true from w1]
          refine ifF rfl ⟨_, rfl, vs[i].2, d, rfl, hdy2, small_of d hs2, _, rfl, ?_⟩
          by_cases w2 : isBox d = true
          · rw [w2]
            refine ifF rfl ⟨⟨_, _, rfl⟩, s2, ?_⟩
            rw [TS.take_one hki, List.all_append, hall]
            simp [w1, w2]
          · rw [Bool.eq_false_iff.mpr w2]
            refine ifT rfl ⟨sz_lit (by decide), fun q hq => ⟨rfl, fun d hd => up q hq d hd (bad ?_)⟩⟩
            rw [Bool.eq_false_iff.mpr w2, Bool.and_false]
        · rw [show isWord (.str xk) = false from Bool.eq_false_iff.mpr w1]
          refine ifT rfl (ifT rfl ⟨sz_lit (by decide), fun q hq => ⟨rfl, fun d hd => up q hq d hd (bad ?_)⟩⟩)
          rw [Bool.eq_false_iff.mpr w1, Bool.false_and]
      · rintro σ H1 ⟨⟨y1, y2, rfl⟩, s1, hall⟩
        rw [List.take_of_length_le (by omega)] at hall
        refine ⟨s1 _ _ upd_same, ?_⟩
        have good : okTab isBox 3 (.dict kvs) = some kvs := if_pos ⟨by omega, hall⟩
        have sA : Same H (upd H1 p (.dK vs)) := fun b o hb => by
          by_cases e : b = p
          · subst e
            rw [hp] at hb
            rw [upd_same]
            exact hb
          · rw [upd_ne e]
            refine s1 b o ?_
            rw [upd_ne e]
            exact hb
        have hpA : upd H1 p (.dK vs) p = some (.dK vs) := upd_same
        revert sA hpA
        generalize upd H1 p (.dK vs) = H2
        intro sA hpA
        refine ⟨_, rfl, tyV_dK hpA, p, vs, rfl, rfl, .inl hpA, fun q hq => ?_⟩
        have sB : Same H2 (upd H2 q (keysO q p)) := Same.new hq
        refine ⟨q, p, vs, kvs.map (·.1), rfl, upd_same, .inl (sB _ _ hpA), hkv.keys, by rw [List.length_map]; omega, fun ys l hperm hsort hl => ?_⟩
        have sC := sB.trans (Same.new (o := .lst (ys.map V.str)) hl)
        have hlC : upd (upd H2 q (keysO q p)) l (.lst (ys.map V.str)) l = some (.lst (ys.map V.str)) := upd_same
        revert sC hlC
        generalize upd (upd H2 q (keysO q p)) l (.lst (ys.map V.str)) = H3
        intro sC hlC
        refine ⟨l, rfl, ⟨_, .inl (.inl hlC)⟩, fun D hD => ?_⟩
        have hnd' : ys.Nodup := hperm.nodup_iff.mpr hnd
        have hyl : ys.length = kvs.length := by rw [hperm.length_eq, List.length_map]
        have hDS : Same H3 (upd H3 D (.dK [])) := Same.new hD
        refine dc_it (walk_list (xs := ys.map V.str)) (fun i H' => H' D = some (.dK ((ys.take i).map fun y => (Sum.inr y, (valV vs (.inr y)).getD .non))) ∧ Same H3 H') ⟨upd_same, hDS⟩ (fun i H' _ q => .inl (.inl (q.2 _ _ hlC))) ?_ ?_
        · rintro i x H5 H4 hi ⟨hD4, s4⟩ ⟨rfl, hx⟩
          have hi' : i < ys.length := by rw [List.length_map] at hi; exact hi
          have hyi : ys[i]? = some ys[i] := List.getElem?_eq_getElem hi'
          obtain rfl : x = .str ys[i] := by
            rw [List.getElem?_map, hyi] at hx
            exact (Option.some.inj hx).symm
          obtain ⟨v, hv1, hv2⟩ := hkv.val ys[i] (hperm.mem_iff.mp (List.mem_of_getElem? hyi))
          have hp4 : H4 p = some (.dK vs) := s4 _ _ (sC _ _ hpA)
          refine ⟨rfl, ?_⟩
          refine ⟨_, rfl, _, rfl, _, rfl, p, v, rfl, by rw [← hv1]; exact dget_known hp4, _, .inr ys[i], rfl, hD4, lt_sz (by rw [List.length_map, List.length_take]; omega), ?_, fun b o hb => ?_⟩
          · rw [upd_same, putK_new]
            · rw [TS.take_one hyi, List.map_append, List.map_cons, List.map_nil, hv1]
              rfl
            · have : ∀ l : List Str, ys[i] ∉ l → valV (l.map fun y => ((Sum.inr y : Key), (valV vs (.inr y)).getD .non)) (.inr ys[i]) = none := by
                intro l
                induction l with
                | nil => intro _; rfl
                | cons z r ih =>
                  intro hz
                  rw [List.mem_cons, not_or] at hz
                  rw [List.map_cons, valV_neg (fun e => hz.1 (Sum.inr.inj e).symm)]
                  exact ih hz.2
              exact this _ (nodup_take hnd' hyi)
          · have : b ≠ D := fun e => by rw [e, hD] at hb; cases hb
            rw [upd_ne this]
            exact s4 b o hb
        · rintro H4 ⟨hD4, s4⟩
          rw [List.length_map, List.take_length] at hD4
          have sall : Same H H4 := sA.trans (sC.trans s4)
          refine k1 kvs good D H4 _ (ys.map fun y => (y, lk kvs y)) sall ?_ hD4 ?_ ?_ ?_
          · exact (sA.trans sC).free hD
          · have := hperm.map (fun y => (y, lk kvs y))
            rw [lk_self hnd] at this
            exact this
          · rw [List.map_map]
            have : ((fun x : Str × PyData => x.1) ∘ fun y => (y, lk kvs y)) = id := by funext y; rfl
            rw [this, List.map_id]
            exact hsort
          · have : ∀ l : List Str, (∀ y ∈ l, y ∈ kvs.map (·.1)) → KvsR K H4 (l.map fun y => ((Sum.inr y : Key), (valV vs (.inr y)).getD .non)) (l.map fun y => (y, lk kvs y)) := by
              intro l
              induction l with
              | nil => intro _; exact trivial
              | cons z r ih =>
                intro hz
                obtain ⟨v, hv1, hv2⟩ := hkv.val z (hz z List.mem_cons_self)
                refine ⟨rfl, ?_, ih fun y hy => hz y (List.mem_cons_of_mem _ hy)⟩
                show Dp K H4 ((valV vs (.inr z)).getD .non) _
                rw [hv1]
                exact hv2.mono sall
            exact this ys fun y hy => hperm.mem_iff.mp hy
def spInputs (K : PySem.W.Frag) (CI : Addr) : Sp := fun vs H Q X => ∃ v d, vs = [v] ∧ Dp K H v d ∧ small d = true ∧ (areWords 3 d = true → Q v H) ∧ (areWords 3 d = false → ∀ H' dd, Same H H' → XProg K H' dd "inputs" [] → X (.ref CI) (some dd) H')
theorem sc_checked_inputs : FnScope ["value"] ["value"] (defScope s_checked_inputs) := ⟨rfl, rfl, rfl, by decide +kernel, rfl, by decide +kernel, by decide +kernel⟩
theorem ok_checked_inputs {f : Addr} {fd : FuncData} (F : Fun K "checked_inputs" "checked_inputs" s_checked_inputs f fd) (T : TxtC P w K mg pS CI) (c_are_words : Cal P w K mg base CX0 2 "are_words" ["value", "most"] (spAreWords K)) : FnOk P w K mg base (L2.CX P w) 3 f fd ["value"] (spInputs K CI) := by
  refine F.okX sc_checked_inputs (fun vs H Q E h => ?_) (fun cdv A outer s H vs Q E hr h => ?_)
  · obtain ⟨v, a, rfl, _⟩ := h
    rfl
  · obtain ⟨v, d, rfl, hd, hs, k1, k2⟩ := h
    refine ⟨_, (pss_cons (ps_if (pt_not (pt_val (pe_cal c_are_words (hr.mono (by omega)) rfl pass0 (pa_cons (pv 0) (pa_cons pe_int pa_nil))))) (pss_one (ps_raise rfl (takes_of rfl rfl rfl rfl) (pmk_x T.mk_InvalidProgram hr rfl T.g_InvalidProgram T.k_InvalidProgram T.r_InvalidProgram (pa_cons pe_str (pa_cons (pe_tup pa_nil) pa_nil))))) pss_nil)
      (pss_one (ps_ret (pv 0)))), ?_⟩
    refine ⟨_, rfl, v, d, 3, rfl, hd, hs, by decide, _, rfl, ?_⟩
    by_cases c : areWords 3 d = true
    · rw [c]
      exact ifF rfl ⟨_, rfl, k1 c⟩
    · have c := Bool.eq_false_iff.mpr c
      rw [c]
      refine ifT rfl ⟨sz_lit (by decide), fun p hp => ⟨rfl, fun dd hdd => ?_⟩⟩
      refine k2 c _ dd ((Same.new hp).trans (Same.new hdd)) ⟨p, upd_same, ?_⟩
      exact SqT.mono (.inl (.inl upd_same)) (Same.new hdd)
end
end Op
namespace Op
open PySem L2 PyProof.Rows
/-! ### rows that were checked: their form -/
def notList (d : PyData) : Bool := !isList d
mutual
/-- no list in it -/
def noL : PyData → Bool
  | .list _ => false
  | .tuple xs => noLs xs
  | _ => true
def noLs : List PyData → Bool
  | [] => true
  | x :: r => noL x && noLs r
end
theorem noLs_mem : ∀ {ds : List PyData}, noLs ds = true ↔ ∀ d ∈ ds, noL d = true
  | [] => by
    unfold noLs
    exact ⟨fun _ d h => (List.not_mem_nil h).elim, fun _ => rfl⟩
  | x :: r => by
    unfold noLs
    rw [Bool.and_eq_true_iff, noLs_mem (ds := r)]
    constructor
    · rintro ⟨h1, h2⟩ d hd
      rcases List.mem_cons.mp hd with rfl | hd
      · exact h1
      · exact h2 d hd
    · intro h
      exact ⟨h x List.mem_cons_self, fun d hd => h d (List.mem_cons_of_mem _ hd)⟩
theorem noL_word {d : PyData} (h : isWord d = true) : noL d = true := by
  cases d with
  | str _ => unfold noL; rfl
  | _ => cases h
theorem noL_words {m : Int} {d : PyData} (h : areWords m d = true) : noL d = true := by
  obtain ⟨zs, rfl, _⟩ := aw_tup h
  unfold noL
  refine noLs_mem.mpr fun d hd => ?_
  obtain ⟨z, _, rfl⟩ := List.mem_map.mp hd
  unfold noL
  rfl
def rowOk (rec : List PyData → Prop) : PyData → Prop
  | .tuple (.str kind :: parts) => parts.length ≤ 4 ∧ (kind = "both" → ∃ ds, parts = [.tuple ds] ∧ ds ≠ []) ∧ (kind ≠ "both" → parts = parts.filter notList ++ parts.filter isList ∧ ∀ d ∈ parts, isList d = false → noL d = true) ∧ (∀ d ∈ innerL kind parts, isList d = true ∧ rec (listOf d))
  | _ => False
def rowsOk : Nat → List PyData → Prop
  | 0, _ => False
  | n + 1, ds => ∀ d ∈ ds, rowOk (rowsOk n) d
/-- a text whose signs b stand at its end -/
def endB (l : List Nat) : Bool := decide (l = l.filter (fun c => !decide (c = 98)) ++ l.filter (fun c => decide (c = 98)))
theorem shapes_end : ∀ {kind sh : Str}, shapes.lookup kind = some sh → kind ≠ "both" → endB sh.cps.toList = true ∧ (116 ∉ sh.cps.toList) := by
  have key : ∀ (l : List (Str × Str)) (kind sh : Str), l.all (fun p => decide (p.1 = "both") || (endB p.2.cps.toList && decide (116 ∉ p.2.cps.toList))) = true → l.lookup kind = some sh → kind ≠ "both" → endB sh.cps.toList = true ∧ (116 ∉ sh.cps.toList) := by
    intro l
    induction l with
    | nil => intro kind sh _ h; cases h
    | cons p r ih =>
      intro kind sh ha h hk
      obtain ⟨a, b⟩ := p
      obtain ⟨h1, h2⟩ := Bool.and_eq_true_iff.mp ha
      rw [List.lookup_cons] at h
      cases q : kind == a with
      | true =>
        rw [q] at h
        obtain rfl := Option.some.inj h
        have e : kind = a := by simpa using q
        rcases Bool.or_eq_true_iff.mp h1 with h1 | h1
        · exact absurd (e.trans (of_decide_eq_true h1)) hk
        · obtain ⟨h3, h4⟩ := Bool.and_eq_true_iff.mp h1
          exact ⟨h3, of_decide_eq_true h4⟩
      | false =>
        rw [q] at h
        exact ih kind sh h2 h hk
  intro kind sh h hk
  exact key shapes kind sh (by decide +kernel) h hk
theorem pf_isList {E : Env0} {ch : Nat} {d : PyData} (h : partFits E ⟨#[ch]⟩ d = true) (n : ch ≠ 116) : isList d = decide (ch = 98) := by
  by_cases e : ch = 98
  · subst e
    rw [decide_eq_true rfl]
    exact h
  · rw [decide_eq_false e]
    have sb : ¬ (⟨#[ch]⟩ : Str) = "b" := fun z => e (by
      have z : (⟨#[ch]⟩ : Str) = ⟨#[98]⟩ := z
      simpa using z)
    have st : ¬ (⟨#[ch]⟩ : Str) = "t" := fun z => n (by
      have z : (⟨#[ch]⟩ : Str) = ⟨#[116]⟩ := z
      simpa using z)
    by_cases em : (⟨#[ch]⟩ : Str) = "m" ∨ (⟨#[ch]⟩ : Str) = "v"
    · unfold partFits at h
      rw [if_neg (by rcases em with e | e <;> (rw [e]; decide +kernel)), if_neg (by rcases em with e | e <;> (rw [e]; decide +kernel)), if_neg (by rcases em with e | e <;> (rw [e]; decide +kernel)), if_pos em] at h
      cases d with
      | tuple _ => rfl
      | _ => cases h
    · have := pf_word h ⟨em, sb, st⟩
      cases d with
      | str _ => rfl
      | _ => cases this
theorem pf_noL {E : Env0} {ch : Nat} {d : PyData} (h : partFits E ⟨#[ch]⟩ d = true) (n : ch ≠ 116) (hl : isList d = false) : noL d = true := by
  have n2 : ch ≠ 98 := fun e => by
    rw [pf_isList h n, decide_eq_true e] at hl
    cases hl
  have sb : ¬ (⟨#[ch]⟩ : Str) = "b" := fun z => n2 (by
    have z : (⟨#[ch]⟩ : Str) = ⟨#[98]⟩ := z
    simpa using z)
  have st : ¬ (⟨#[ch]⟩ : Str) = "t" := fun z => n (by
    have z : (⟨#[ch]⟩ : Str) = ⟨#[116]⟩ := z
    simpa using z)
  by_cases em : (⟨#[ch]⟩ : Str) = "m" ∨ (⟨#[ch]⟩ : Str) = "v"
  · unfold partFits at h
    rw [if_neg (by rcases em with e | e <;> (rw [e]; decide +kernel)), if_neg (by rcases em with e | e <;> (rw [e]; decide +kernel)), if_neg (by rcases em with e | e <;> (rw [e]; decide +kernel)), if_pos em] at h
    exact noL_words h
  · exact noL_word (pf_word h ⟨em, sb, st⟩)
theorem zip_end {α : Type} (f : Nat → Bool) (g : α → Bool) : ∀ (l : List Nat) (ps : List α), l.length = ps.length → (∀ (i c : Nat) (d : α), l[i]? = some c → ps[i]? = some d → g d = f c) → l = l.filter (fun c => !f c) ++ l.filter f → ps = ps.filter (fun d => !g d) ++ ps.filter g
  | [], [], _, _, _ => rfl
  | c :: l, d :: ps, hl, h, e => by
    have h0 := h 0 c d rfl rfl
    have hr : ∀ (i c' : Nat) (d' : α), l[i]? = some c' → ps[i]? = some d' → g d' = f c' := fun i c' d' h1 h2 => h (i + 1) c' d' h1 h2
    cases q : f c with
    | false =>
      have e' : l = l.filter (fun c => !f c) ++ l.filter f := by
        rw [List.filter_cons_of_pos (by rw [q]; rfl), List.filter_cons_of_neg (by rw [q]; exact Bool.false_ne_true), List.cons_append] at e
        exact (List.cons.inj e).2
      have ih := zip_end f g l ps (Nat.succ.inj hl) hr e'
      rw [List.filter_cons_of_pos (by rw [h0, q]; rfl), List.filter_cons_of_neg (by rw [h0, q]; exact Bool.false_ne_true), List.cons_append]
      exact congrArg (d :: ·) ih
    | true =>
      have all : ∀ c' ∈ l, f c' = true := by
        intro c' hc'
        cases q' : f c' with
        | true => rfl
        | false =>
          exfalso
          rw [List.filter_cons_of_neg (by rw [q]; exact Bool.false_ne_true), List.filter_cons_of_pos q] at e
          cases hn : l.filter (fun c => !f c) with
          | nil =>
            have := List.filter_eq_nil_iff.mp hn c' hc'
            rw [q'] at this
            exact this rfl
          | cons z r =>
            rw [hn, List.cons_append] at e
            have ez := (List.cons.inj e).1
            have hz : z ∈ l.filter (fun c => !f c) := by rw [hn]; exact List.mem_cons_self
            have := (List.mem_filter.mp hz).2
            rw [← ez, q] at this
            cases this
      have e' : l = l.filter (fun c => !f c) ++ l.filter f := by
        rw [List.filter_eq_self.mpr all, List.filter_eq_nil_iff.mpr fun c' hc' => by rw [all c' hc']; exact Bool.false_ne_true]
        rfl
      have ih := zip_end f g l ps (Nat.succ.inj hl) hr e'
      have gall : ∀ d' ∈ ps, g d' = true := by
        intro d' hd'
        obtain ⟨i, hi⟩ := List.getElem?_of_mem hd'
        have hi' := (List.getElem?_eq_some_iff.mp hi).1
        have hl' : l.length = ps.length := Nat.succ.inj hl
        have h1 : l[i]? = some (l[i]'(by omega)) := List.getElem?_eq_getElem _
        rw [hr i _ d' h1 hi]
        exact all _ (List.mem_of_getElem? h1)
      rw [List.filter_cons_of_neg (by rw [h0, q]; exact Bool.false_ne_true), List.filter_cons_of_pos (by rw [h0, q])]
      rw [List.filter_eq_self.mpr gall, List.filter_eq_nil_iff.mpr fun d' hd' => by rw [gall d' hd']; exact Bool.false_ne_true]
      rfl
theorem rowOk_of {rec : Bool → List PyData → List Int → Chk → Out} {R : List PyData → Prop} {E : Env0} {depth : Int} (hrec : depth < 5 → ∀ lp ds pre c c', rec lp ds pre c = .ok c' → R ds) {lp : Bool} {pre : List Int} {d : PyData} {i : Nat} {c c' : Chk} (h : chkRow rec E depth lp pre d i c = .ok c') : rowOk R d := by
  unfold chkRow at h
  split at h
  · rename_i kind parts
    split at h
    · rename_i hf
      obtain ⟨hs, ⟨hl, hF⟩, _⟩ := fits_shape hf
      have hsl := shapes_len hs
      refine ⟨by rw [← hl]; exact hsl, fun e => ?_, fun e => ?_, fun d hd => ⟨inner_lists_all hf d hd, ?_⟩⟩
      · subst e
        have hl1 : parts.length = 1 := hl.symm.trans (by decide +kernel)
        match parts, hl1, hF with
        | [d], _, hF =>
          have hf : isBranches d = true := hF 0 116 d (by decide +kernel) rfl
          cases d with
          | tuple ds =>
            refine ⟨ds, rfl, fun z => ?_⟩
            subst z
            cases hf
          | _ => cases hf
      · obtain ⟨h1, h2⟩ := shapes_end hs e
        refine And.intro (b := ∀ d ∈ parts, isList d = false → noL d = true) ?_ fun d hd hl' => ?_
        rotate_left
        · obtain ⟨i, hi⟩ := List.getElem?_of_mem hd
          have hi' := (List.getElem?_eq_some_iff.mp hi).1
          have h3 : (shapeOf kind).cps[i]? = some ((shapeOf kind).cps[i]'(by omega)) := Array.getElem?_eq_getElem _
          refine pf_noL (hF i _ d h3 hi) (fun z => h2 ?_) hl'
          rw [← z]
          exact List.mem_of_getElem? (i := i) (by rw [Array.getElem?_toList]; exact h3)
        refine zip_end (fun c => decide (c = 98)) isList (shapeOf kind).cps.toList parts (by rw [Array.length_toList]; exact hl) (fun i ch d h3 h4 => ?_) (of_decide_eq_true h1)
        refine pf_isList (hF i ch d (by rw [← Array.getElem?_toList]; exact h3) h4) fun z => h2 ?_
        rw [← z]
        exact List.mem_of_getElem? h3
      · have hdep : depth < 5 := Decidable.byContradiction fun z => by
          rw [inner_deep hf (by omega)] at hd
          cases hd
        have key : ∀ (l : List PyData) (j : Nat) (c : Chk), chkIn (rec (inside lp kind)) (pre ++ [(i : Int)]) l j c = .ok c' → ∀ d ∈ l, R (listOf d) := by
          intro l
          induction l with
          | nil => intro j c _ d hd; cases hd
          | cons x r ih =>
            intro j c h d hd
            rw [chkIn_cons] at h
            cases q : rec (inside lp kind) (listOf x) (pre ++ [(i : Int)] ++ [(j : Int)]) c with
            | error p => rw [q] at h; cases h
            | ok c1 =>
              rw [q] at h
              rcases List.mem_cons.mp hd with rfl | hd
              · exact hrec hdep _ _ _ _ _ q
              · exact ih _ _ h d hd
        exact key _ _ _ h d hd
    · cases h
  · cases h
theorem rowsOk_of (E : Env0) : ∀ (n : Nat) (lp : Bool) (ds : List PyData) (pre : List Int) (c c' : Chk), chkL E n lp ds pre c = .ok c' → 1 ≤ n → rowsOk n ds
  | 0, _, _, _, _, _, _, h => absurd h (by omega)
  | n + 1, lp, ds, pre, c, c', h, _ => by
    have key : ∀ (l : List PyData) (j : Nat) (c : Chk), chkRows (chkRow (chkL E n) E (5 - (n : Int)) lp pre) l j c = .ok c' → ∀ d ∈ l, rowOk (rowsOk n) d := by
      intro l
      induction l with
      | nil => intro j c _ d hd; cases hd
      | cons x r ih =>
        intro j c h d hd
        rw [chkRows_cons] at h
        cases q : chkRow (chkL E n) E (5 - (n : Int)) lp pre x j c with
        | error p => rw [q] at h; cases h
        | ok c1 =>
          rw [q] at h
          rcases List.mem_cons.mp hd with rfl | hd
          · exact rowOk_of (fun hdep lp ds pre c c' h => rowsOk_of E n lp ds pre c c' h (by omega)) q
          · exact ih _ _ h d hd
    exact key ds 0 c h
end Op
namespace L2
open PySem PySem.Spec PyProof.Rows
/-! ### a heap without some of its lists -/
def LstAt (H : Hp) (b : Addr) : Prop := ∃ xs, H b = some (.lst xs)
open Classical in
noncomputable def cutH (S : Addr → Prop) (H : Hp) : Hp := fun b => if S b then none else H b
section
variable {S S' : Addr → Prop} {H H' : Hp} {K : PySem.W.Frag}
theorem cut_not {b : Addr} (h : ¬ S b) : cutH S H b = H b := if_neg h
theorem cut_same (s : Same H H') : Same (cutH S H) (cutH S H') := fun b o h => by
  unfold cutH at h ⊢
  split at h
  · cases h
  · rename_i n
    rw [if_neg n]
    exact s b o h
theorem cut_sub (s : ∀ b, S b → S' b) : Same (cutH S' H) (cutH S H) := fun b o h => by
  unfold cutH at h ⊢
  split at h
  · cases h
  · rename_i n
    rw [if_neg fun z => n (s b z)]
    exact h
theorem cut_all : Same (cutH S H) H := fun b o h => by
  unfold cutH at h
  split at h
  · cases h
  · exact h
theorem cut_upd {D : Addr} {o : HO} (h : S D) : cutH S (upd H D o) = cutH S H := by
  funext b
  unfold cutH
  by_cases e : S b
  · rw [if_pos e, if_pos e]
  · rw [if_neg e, if_neg e, upd_ne (fun q => e (by rw [q]; exact h))]
theorem LstAt.mono {b : Addr} (h : LstAt H b) (s : Same H H') : LstAt H' b := let ⟨xs, e⟩ := h; ⟨xs, s _ _ e⟩
theorem SqT.cut {a : Addr} {xs : List V} (hs : ∀ b, S b → LstAt H b) (h : SqT K H a xs) : SqT K (cutH S H) a xs := by
  have n : ∀ o, H a = some o → (∀ ys, o ≠ .lst ys) → ¬ S a := fun o e ne z => by
    obtain ⟨ys, q⟩ := hs a z
    rw [e] at q
    exact ne ys (Option.some.inj q)
  rcases h with (h | ⟨o, h⟩) | h
  · exact .inl (.inl (by rw [cut_not (n _ h nofun)]; exact h))
  · exact .inl (.inr ⟨o, by rw [cut_not (n _ h nofun)]; exact h⟩)
  · exact .inr h
mutual
theorem noL_cut (hs : ∀ b, S b → LstAt H b) : ∀ {v : V} {d : PyData}, Dp K H v d → Op.noL d = true → Dp K (cutH S H) v d
  | _, _, .non, _ => .non
  | _, _, .bl b, _ => .bl b
  | _, _, .int i, _ => .int i
  | _, _, .str x, _ => .str x
  | _, _, .lst h a, n => by unfold Op.noL at n; cases n
  | _, _, .tup h a, n => .tup (h.cut hs) (noLs_cut hs a (by unfold Op.noL at n; exact n))
theorem noLs_cut (hs : ∀ b, S b → LstAt H b) : ∀ {vs : List V} {ds : List PyData}, DpAll K H vs ds → Op.noLs ds = true → DpAll K (cutH S H) vs ds
  | _, _, .nil, _ => .nil
  | _, _, .cons h a, n => .cons (noL_cut hs h (by unfold Op.noLs at n; exact (Bool.and_eq_true_iff.mp n).1)) (noLs_cut hs a (by unfold Op.noLs at n; exact (Bool.and_eq_true_iff.mp n).2))
end
end
end L2
namespace Op
open PySem L2 PyProof.Rows
section
variable {P : Program} {w : World} {K : PySem.W.Frag} {mg : Str → Option Value} {base : Heap}
def spWith (K : PySem.W.Frag) : Sp := fun vs H Q _ => ∃ (S : Addr → Prop) (t l : Addr) (ws : List V) (kind : Str) (parts : List PyData), vs = [.ref t, .ref l] ∧ Dp K H (.ref t) (.tuple (.str kind :: parts)) ∧ H l = some (.lst ws) ∧ (∀ b, S b → LstAt H b) ∧ DpAll K (cutH S H) ws (innerL kind parts) ∧ parts.length ≤ 4 ∧ (innerL kind parts).length ≤ 40000 ∧
  (kind = "both" → ∃ ds, parts = [.tuple ds] ∧ ds ≠ []) ∧ (kind ≠ "both" → parts = parts.filter notList ++ parts.filter isList ∧ ∀ d ∈ parts, isList d = false → noL d = true) ∧ ∀ v H', Same H H' → Dp K (cutH S H') v (.tuple (.str kind :: parts)) → Q v H'
theorem sc_with_lists : FnScope ["row", "lists", "parts", "part"] ["row", "lists"] (defScope s_with_lists) := ⟨rfl, rfl, rfl, by decide +kernel, rfl, by decide +kernel, by decide +kernel⟩
theorem ok_with_lists {f : Addr} {fd : FuncData} (F : Fun K "with_lists" "with_lists" s_with_lists f fd) (T : Txt mg) : FnOk P w K mg base CX0 1 f fd ["row", "lists"] (spWith K) := by
  refine F.ok sc_with_lists (fun vs H Q E h => ?_) (fun cdv A outer s H vs Q E hr h => ?_)
  · obtain ⟨S, t, l, ws, kind, parts, rfl, _⟩ := h
    rfl
  · obtain ⟨S, t, l, ws, kind, parts, rfl, hd, hl, hS, hw, hpl, hil, hb, hnb, k⟩ := h
    cases hd with
    | @tup _ xs _ hq ha =>
    cases ha with
    | @cons v0 vr d0 dr h0 hr0 =>
    cases h0 with
    | str kind =>
    have hvl := hr0.len
    have hwl := hw.len
    have nS : ∀ b, H b = none → ¬ S b := fun b hb z => by
      obtain ⟨ys, q⟩ := hS b z
      rw [hb] at q
      cases q
    refine ⟨_, (pss_cons (ps_if (pt_cmpR op_eq (pe_ix ix_tup (pv 0) pe_int (fun _ _ => rfl)) pe_str (nomark _)) (pss_one (ps_ret (pe_tup (pa_cons pe_str (pa_cons (pe_callTy call_tuple_of (by rfl) T.b_tuple (by decide +kernel) (pa_cons (pv 1) pa_nil)) pa_nil))))) pss_nil)
      (pss_cons (ps_setLc (i := 2) (own := [("part", 3)]) (g := gName 3)  rfl sc_with_lists.nd rfl rfl (sw_true rfl rfl rfl (by decide +kernel)) (pi_tup (pv 0)) (blkOk_by (own := [("part", 3)]) (N := ["row", "lists", "parts", "part"]) (sc := defScope s_with_lists) (by decide +kernel)) (fun _ _ _ _ _ => (pg_name (i := 3) sc_with_lists.nd rfl (.inl rfl))) (fun _ _ _ _ _ => (pts_one (pt_not (pt_val (pe_callB (id := "isinstance") (r := rIsi K) call_isi (by rfl) T.b_isinstance (by decide +kernel) (pa_cons (pv 3) (pa_cons (pe_bltn (v := .ty "list") (by rfl) T.b_list (by decide +kernel) rfl) pa_nil))))))) (fun _ _ _ _ _ => (pv 3)))
      (pss_one (ps_ret (pe_callTy call_tuple_of (by rfl) T.b_tuple (by decide +kernel) (pa_cons (pe_op op_cat (pv 2) (pv 1)) pa_nil)))))), ?_⟩
    refine ⟨_, rfl, t, _, 0, _, rfl, rfl, hq, atI_zero _ _, rfl, _, rfl, ?_⟩
    rw [dec_strV]
    by_cases e1 : kind = "both"
    · obtain ⟨ds, rfl, _⟩ := hb e1
      refine ifT (decide_eq_true e1) ?_
      have hin : innerL kind [.tuple ds] = ds := by unfold innerL; rw [if_pos e1]
      rw [hin] at hw
      refine ⟨_, rfl, l, ws, rfl, .inl ⟨.inl (.inl hl), fun p hp => ⟨sz2 _ _, fun q hq' => ?_⟩⟩⟩
      have s1 : Same H (upd H p (.tup ws)) := Same.new hp
      have s2 : Same (upd H p (.tup ws)) (upd (upd H p (.tup ws)) q (.tup [.str "both", .ref p])) := Same.new hq'
      have nq : ¬ S q := nS q (s1.free hq')
      refine k (.ref q) _ (s1.trans s2) (.tup (.inl (.inl (by rw [cut_not nq]; exact upd_same))) ?_)
      rw [e1]
      exact .cons (.str _) (.cons (.tup (.inl (.inl (by rw [cut_not (nS p hp)]; exact s2 _ _ upd_same))) (DpAll.mono (cut_same (s1.trans s2)) hw)) .nil)
    · refine ifF (decide_eq_false e1) ⟨_, rfl, t, rfl, ⟨_, hq⟩, fun D hD => ?_⟩
      have hDl : D ≠ l := fun e => by rw [e, hl] at hD; cases hD
      have hin : innerL kind parts = parts.filter isList := by unfold innerL; rw [if_neg e1]
      refine lc_it (walk_tup (xs := .str kind :: vr)) (fun i H' => ∃ acc, H' D = some (.lst acc) ∧ acc.length ≤ i ∧ DpAll K H acc (((.str kind :: parts).take i).filter notList) ∧ Same H H') ⟨[], upd_same, Nat.le_refl _, .nil, Same.new hD⟩ (fun i H' _ p => hq.mono (let ⟨_, _, _, _, s⟩ := p; s)) ?_ ?_
      · rintro i x H1 H2 hi ⟨acc, hacc, hal, hdp, sm⟩ ⟨rfl, hx⟩
        obtain ⟨d, hd1, hd2⟩ := DpAll.get (.cons (.str kind) hr0) hx
        refine ⟨rfl, _, rfl, x, _, _, _, _, rfl, .ty _, ty_dp (hd2.mono sm), kit_list d, _, rfl, ?_⟩
        have hi' : i < 2000 := by rw [List.length_cons] at hi; omega
        have e2 : ((.str kind :: parts).take (i + 1)).filter notList = ((.str kind :: parts).take i).filter notList ++ [d].filter notList := by
          rw [TS.take_one hd1, List.filter_append]
        by_cases q : isList d = true
        · rw [q]
          have q' : ¬ notList d = true := by unfold notList; rw [q]; exact Bool.false_ne_true
          refine ifF rfl ⟨acc, hacc, by omega, ?_, sm⟩
          rw [e2, List.filter_cons_of_neg q', List.filter_nil, List.append_nil]
          exact hdp
        · rw [Bool.eq_false_iff.mpr q]
          have q' : notList d = true := by unfold notList; rw [Bool.eq_false_iff.mpr q]; rfl
          refine ifT rfl ⟨_, rfl, acc, hacc, lt_sz (by omega), acc ++ [x], upd_same, by rw [List.length_append]; show acc.length + 1 ≤ _; omega, ?_, fun b o hb => ?_⟩
          · rw [e2, List.filter_cons_of_pos q', List.filter_nil]
            exact hdp.append (.cons hd2 .nil)
          · rw [upd_ne (ne_of_none hb hD)]
            exact sm b o hb
      · rintro H1 ⟨acc, hacc, hal, hdp, sm⟩
        rw [List.take_of_length_le (by rw [List.length_cons, List.length_cons]; omega)] at hdp
        rw [List.length_cons] at hal
        refine ⟨_, rfl, _, rfl, D, l, acc, ws, rfl, rfl, hacc, sm _ _ hl, sz_lit (by omega), fun p hp => ?_⟩
        refine ⟨p, _, rfl, .inl ⟨.inl (.inl upd_same), fun q hq' => ?_⟩⟩
        have s1 : Same H1 (upd H1 p (.lst (acc ++ ws))) := Same.new hp
        have s2 : Same (upd H1 p (.lst (acc ++ ws))) (upd (upd H1 p (.lst (acc ++ ws))) q (.tup (acc ++ ws))) := Same.new hq'
        have nq : ¬ S q := nS q ((sm.trans s1).free hq')
        refine k (.ref q) _ (sm.trans (s1.trans s2)) (.tup (.inl (.inl (by rw [cut_not nq]; exact upd_same))) ?_)
        have hcat : DpAll K (cutH S H) (acc ++ ws) (.str kind :: parts) := by
          have h1 : DpAll K (cutH S H) acc ((.str kind :: parts).filter notList) := noLs_cut hS hdp (noLs_mem.mpr fun d hd => by
            obtain ⟨m1, m2⟩ := List.mem_filter.mp hd
            rcases List.mem_cons.mp m1 with rfl | m1
            · unfold noL; rfl
            · exact (hnb e1).2 d m1 (by unfold notList at m2; cases q : isList d with | false => rfl | true => rw [q] at m2; cases m2))
          have := h1.append hw
          rw [hin, List.filter_cons_of_pos (by rfl : notList (.str kind) = true), List.cons_append, ← (hnb e1).1] at this
          exact this
        exact DpAll.mono (cut_same (sm.trans (s1.trans s2))) hcat
/-! ### copies -/
theorem wIn_mem {d : PyData} : ∀ {l : List PyData}, d ∈ l → wts (listOf d) ≤ wIn l
  | x :: r, h => by
    show _ ≤ wts (listOf x) + wIn r
    rcases List.mem_cons.mp h with rfl | h
    · omega
    · have := wIn_mem h
      omega
theorem inner_len (kind : Str) (parts : List PyData) : (innerL kind parts).length ≤ wts parts := by
  unfold innerL
  split
  · cases parts with
    | nil => exact Nat.zero_le _
    | cons d r =>
      rw [wts_cons]
      cases d with
      | tuple ds =>
        have := wts_len ds
        rw [wt_tuple]
        show ds.length ≤ _
        omega
      | _ => exact Nat.zero_le _
  · have h1 := List.length_filter_le isList parts
    have h2 := wts_len parts
    omega
def spCRow (K : PySem.W.Frag) (n : Nat) : Sp := fun vs H Q _ => ∃ (v : V) (d : PyData), vs = [v] ∧ Dp K H v d ∧ rowOk (rowsOk n) d ∧ wt d ≤ 30000 ∧ ∀ v' H', Same H H' → Dp K (cutH (LstAt H) H') v' d → Q v' H'
def spCRows (K : PySem.W.Frag) (n : Nat) : Sp := fun vs H Q _ => ∃ (v : V) (ds : List PyData), vs = [v] ∧ Dp K H v (.list ds) ∧ rowsOk n ds ∧ wts ds ≤ 30000 ∧ ∀ p xs H', Same H H' → H p = none → H' p = some (.lst xs) → DpAll K (cutH (fun b => LstAt H b ∨ b = p) H') xs ds → Q (.ref p) H'
theorem sc_copy_rows : FnScope ["rows", "row"] ["rows"] (defScope s_copy_rows) := ⟨rfl, rfl, rfl, by decide +kernel, rfl, by decide +kernel, by decide +kernel⟩
theorem ok_copy_rows {f : Addr} {fd : FuncData} {k : Nat} {n : Nat} (F : Fun K "copy_rows" "copy_rows" s_copy_rows f fd) (T : Txt mg) (c_copy_row : Cal P w K mg base CX0 (k + 1) "copy_row" ["row"] (spCRow K n)) : FnOk P w K mg base CX0 (k + 2) f fd ["rows"] (spCRows K (n + 1)) := by
  refine F.ok sc_copy_rows (fun vs H Q E h => ?_) (fun cdv A outer s H vs Q E hr h => ?_)
  · obtain ⟨v, ds, rfl, _⟩ := h
    rfl
  · obtain ⟨v, ds, rfl, hd, hok, hwt, kk⟩ := h
    cases hd with
    | @lst r xs _ hq ha =>
    have hxl := ha.len
    have hwl := wts_len ds
    refine ⟨_, (pss_one (ps_ret (pe_lc (own := [("row", 1)]) (g := gName 1) (tt := tYes) rfl sc_copy_rows.nd (pi_list (pv 0)) (blkOk_by (own := [("row", 1)]) (N := ["rows", "row"]) (sc := defScope s_copy_rows) (by decide +kernel)) (fun _ _ _ _ _ => (pg_name (i := 1) sc_copy_rows.nd rfl (.inl rfl))) (fun _ _ _ _ _ => pts_nil) (fun _ _ _ _ _ => (pe_cal c_copy_row (hr.mono (by omega)) rfl pass0 (pa_cons (pv 1) pa_nil)))))), ?_⟩
    refine ⟨_, rfl, r, rfl, ⟨_, hq⟩, fun D hD => ?_⟩
    refine lc_it (walk_list (xs := xs)) (fun i H' => ∃ acc, H' D = some (.lst acc) ∧ acc.length ≤ i ∧ DpAll K (cutH (fun b => LstAt H b ∨ b = D) H') acc (ds.take i) ∧ Same H H') ⟨[], upd_same, Nat.le_refl _, .nil, Same.new hD⟩ (fun i H' _ p => hq.mono (let ⟨_, _, _, _, s⟩ := p; s)) ?_ ?_
    · rintro i x H0' H1 hi ⟨acc, hacc, hal, hdp, sm⟩ ⟨rfl, hx⟩
      obtain ⟨d, hd1, hd2⟩ := ha.get hx
      have hm := List.mem_of_getElem? hd1
      have hwd := wts_mem hm
      refine ⟨rfl, ?_⟩
      refine ⟨_, rfl, x, d, rfl, hd2.mono sm, hok d hm, by omega, fun v' H2 s2 hv' => ?_⟩
      have sub : ∀ b, LstAt H b ∨ b = D → LstAt H1 b := fun b hb => by
        rcases hb with hb | rfl
        · exact hb.mono sm
        · exact ⟨acc, hacc⟩
      refine ⟨acc, s2 _ _ hacc, lt_sz (by omega), acc ++ [v'], upd_same, by rw [List.length_append]; show acc.length + 1 ≤ _; omega, ?_, fun b o hb => ?_⟩
      · rw [cut_upd (.inr rfl), TS.take_one hd1]
        exact (DpAll.mono (cut_same s2) hdp).append (.cons (hv'.mono (cut_sub sub)) .nil)
      · rw [upd_ne (ne_of_none hb hD)]
        exact s2 b o (sm b o hb)
    · rintro H1 ⟨acc, hacc, _, hdp, sm⟩
      rw [List.take_of_length_le (by omega)] at hdp
      exact kk D acc H1 sm hD hacc hdp
theorem sc_copy_row : FnScope ["row", "lists", "rows"] ["row"] (defScope s_copy_row) := ⟨rfl, rfl, rfl, by decide +kernel, rfl, by decide +kernel, by decide +kernel⟩
theorem ok_copy_row {f : Addr} {fd : FuncData} {k : Nat} {n : Nat} (F : Fun K "copy_row" "copy_row" s_copy_row f fd) (T : Txt mg) (c_inner_lists : Cal P w K mg base CX0 1 "inner_lists" ["row"] (spInner K)) (c_with_lists : Cal P w K mg base CX0 1 "with_lists" ["row", "lists"] (spWith K)) (c_copy_rows : Cal P w K mg base CX0 (k + 1) "copy_rows" ["rows"] (spCRows K n)) : FnOk P w K mg base CX0 (k + 2) f fd ["row"] (spCRow K n) := by
  refine F.ok sc_copy_row (fun vs H Q E h => ?_) (fun cdv A outer s H vs Q E hr h => ?_)
  · obtain ⟨v, d, rfl, _⟩ := h
    rfl
  · obtain ⟨v, d, rfl, hd, hok, hwt, kk⟩ := h
    obtain ⟨kind, parts, rfl⟩ : ∃ kind parts, d = .tuple (.str kind :: parts) := by
      unfold rowOk at hok
      split at hok
      · exact ⟨_, _, rfl⟩
      · exact hok.elim
    obtain ⟨hpl, hb, hnb, hin⟩ := hok
    have hwi := wIn_inner kind parts
    rw [wt_tuple, wts_cons] at hwt
    obtain ⟨t, rfl⟩ : ∃ t, v = .ref t := by cases hd with | tup _ _ => exact ⟨_, rfl⟩
    refine ⟨_, (pss_cons (ps_set (i := 1) sc_copy_row.nd rfl (.inl rfl) (pe_cal c_inner_lists (hr.mono (by omega)) rfl pass0 (pa_cons (pv 0) pa_nil)))
      (pss_cons (ps_if (pt_cmpR op_eq (pe_callB call_len_seq (by rfl) T.b_len (by decide +kernel) (pa_cons (pv 1) pa_nil)) pe_int (nomark _)) (pss_one (ps_ret (pv 0))) pss_nil)
      (pss_one (ps_ret (pe_cal c_with_lists (hr.mono (by omega)) rfl pass0 (pa_cons (pv 0) (pa_cons (pe_lc (own := [("rows", 2)]) (g := gName 2) (tt := tYes) rfl sc_copy_row.nd (pi_list (pv 1)) (blkOk_by (own := [("rows", 2)]) (N := ["row", "lists", "rows"]) (sc := defScope s_copy_row) (by decide +kernel)) (fun _ _ _ _ _ => (pg_name (i := 2) sc_copy_row.nd rfl (.inl rfl))) (fun _ _ _ _ _ => pts_nil) (fun _ _ _ _ _ => (pe_cal c_copy_rows (hr.mono (by omega)) rfl pass0 (pa_cons (pv 2) pa_nil)))) pa_nil))))))), ?_⟩
    refine ⟨_, rfl, t, kind, parts, rfl, hd, by omega, fun e => ?_, fun p xs H1 s1 hp hp1 hdp => ?_⟩
    · obtain ⟨ds, e', _⟩ := hb e
      exact ⟨ds, [], e'⟩
    have hxl := hdp.len
    refine ⟨_, rfl, p, xs, rfl, .inl (.inl (.inl hp1)), rfl, _, rfl, ?_⟩
    by_cases e0 : xs.length = 0
    · rw [e0]
      refine ifT rfl ⟨_, rfl, ?_⟩
      have hi0 : innerL kind parts = [] := List.length_eq_zero_iff.mp (by omega)
      have nL : noL (.tuple (.str kind :: parts)) = true := by
        unfold noL
        refine noLs_mem.mpr fun d hd' => ?_
        rcases List.mem_cons.mp hd' with rfl | hd'
        · unfold noL; rfl
        · by_cases e : kind = "both"
          · obtain ⟨ds, rfl, hne⟩ := hb e
            unfold innerL at hi0
            rw [if_pos e] at hi0
            exact absurd hi0 hne
          · refine (hnb e).2 d hd' ?_
            unfold innerL at hi0
            rw [if_neg e] at hi0
            exact Bool.eq_false_iff.mpr (List.filter_eq_nil_iff.mp hi0 d hd')
      exact kk (.ref t) H1 s1 ((noL_cut (S := LstAt H) (fun b h => h) hd nL).mono (cut_same s1))
    · refine ifF (decide_eq_false (by intro z; injection z with z; omega)) ?_
      have hil := inner_len kind parts
      refine ⟨_, rfl, _, rfl, p, rfl, ⟨_, .inl (.inl hp1)⟩, fun D hD => ?_⟩
      refine lc_it (walk_list (xs := xs)) (fun i H' => ∃ acc, H' D = some (.lst acc) ∧ acc.length ≤ i ∧ DpAll K (cutH (fun b => LstAt H b ∨ b = D) H') acc ((innerL kind parts).take i) ∧ Same H1 H') ⟨[], upd_same, Nat.le_refl _, .nil, Same.new hD⟩ (fun i H' _ q => .inl (.inl ((let ⟨_, _, _, _, s⟩ := q; s) _ _ hp1))) ?_ ?_
      · rintro i x H0' H2 hi ⟨acc, hacc, hal, hdpa, sm⟩ ⟨rfl, hx⟩
        obtain ⟨d, hd1, hd2⟩ := hdp.get hx
        have hm := List.mem_of_getElem? hd1
        obtain ⟨hisl, hrok⟩ := hin d hm
        obtain ⟨dl, rfl⟩ : ∃ dl, d = .list dl := by
          cases d with
          | list dl => exact ⟨dl, rfl⟩
          | _ => cases hisl
        have hwl : wts dl ≤ wIn (innerL kind parts) := wIn_mem hm
        refine ⟨rfl, ?_⟩
        refine ⟨_, rfl, x, dl, rfl, hd2.mono (s1.trans sm), hrok, by omega, fun p2 xs2 H3 s3 hp2 hx2 hdp2 => ?_⟩
        have sub : ∀ b, LstAt H b ∨ b = D → LstAt H2 b ∨ b = p2 := fun b hb => by
          rcases hb with hb | rfl
          · exact .inl (hb.mono (s1.trans sm))
          · exact .inl ⟨acc, hacc⟩
        have np2 : ¬ (LstAt H p2 ∨ p2 = D) := fun z => by
          rcases z with z | rfl
          · obtain ⟨ys, q⟩ := z.mono (s1.trans sm)
            rw [hp2] at q
            cases q
          · rw [hacc] at hp2
            cases hp2
        refine ⟨acc, s3 _ _ hacc, lt_sz (by omega), acc ++ [.ref p2], upd_same, by rw [List.length_append]; show acc.length + 1 ≤ _; omega, ?_, fun b o hb => ?_⟩
        · rw [cut_upd (.inr rfl), TS.take_one hd1]
          refine (DpAll.mono (cut_same s3) hdpa).append (.cons (.lst (.inl (.inl (by rw [cut_not np2]; exact hx2))) (DpAll.mono (cut_sub sub) hdp2)) .nil)
        · rw [upd_ne (ne_of_none hb hD)]
          exact s3 b o (sm b o hb)
      · rintro H2 ⟨acc, hacc, _, hdpa, sm⟩
        rw [List.take_of_length_le (by omega)] at hdpa
        exact ⟨LstAt H, t, D, acc, kind, parts, rfl, hd.mono (s1.trans sm), hacc, fun b hb => hb.mono (s1.trans sm), DpAll.mono (cut_sub fun b hb => .inl hb) hdpa, hpl, by omega, hb, hnb, fun v' H' s' hv' => kk v' H' ((s1.trans sm).trans s') hv'⟩
/-- copy_rows and copy_row, by depth -/
theorem ok_copies {f1 f2 : Addr} {fd1 fd2 : FuncData} (F1 : Fun K "copy_rows" "copy_rows" s_copy_rows f1 fd1) (F2 : Fun K "copy_row" "copy_row" s_copy_row f2 fd2) (T : Txt mg) (g1 : mg "copy_rows" = some (.ref f1)) (g2 : mg "copy_row" = some (.ref f2)) (k1 : PySem.W.keepIn K (.ref f1) = true) (k2 : PySem.W.keepIn K (.ref f2) = true)
    (b1 : Binds K fd1 ["rows"] []) (b2 : Binds K fd2 ["row"] []) (c_inner_lists : Cal P w K mg base CX0 1 "inner_lists" ["row"] (spInner K)) (c_with_lists : Cal P w K mg base CX0 1 "with_lists" ["row", "lists"] (spWith K)) : ∀ n : Nat, Cal P w K mg base CX0 (2 * n + 1) "copy_rows" ["rows"] (spCRows K n)
  | 0 => ⟨f1, fd1, g1, k1, b1, F1.ok sc_copy_rows (fun vs H Q E h => by obtain ⟨v, ds, rfl, _⟩ := h; rfl) (fun cdv A outer s H vs Q E hr h => by obtain ⟨v, ds, _, _, hk, _⟩ := h; exact hk.elim)⟩
  | n + 1 => ⟨f1, fd1, g1, k1, b1, ok_copy_rows (k := 2 * n + 1) F1 T ⟨f2, fd2, g2, k2, b2, ok_copy_row (k := 2 * n) F2 T c_inner_lists c_with_lists (ok_copies F1 F2 T g1 g2 k1 k2 b1 b2 c_inner_lists c_with_lists n)⟩⟩
end
end Op
namespace L2
open PySem PySem.Spec PyProof.Rows
/-! ### a class by its name, with the promise of its __init__ -/
def Kcal (P : Program) (w : World) (K : PySem.W.Frag) (mg : Str → Option Value) (base : Heap) (CX : CXT) (k : Nat) (x : Str) (C : Addr) (ps : List Str) (sp : Sp) : Prop :=
  ∃ (f : Addr) (fd : FuncData), Mk K C f ∧ mg x = some (.ref C) ∧ Binds K fd ps [] ∧ FnOk P w K mg base CX k f fd ps sp
theorem pe_kcal {X : Cx} {CX : CXT} {k : Nat} {x : Str} {C : Addr} {ps : List Str} {sp : Sp} {E : XK} {p pos : Pos} {e : Expr} {es : List Expr} {t : TA} (c : Kcal X.prog X.w X.K X.mg X.base CX k x C ps sp) (hr : Room (k + 1) X.A) (hg : Gl X x) (hx : Passes CX X E) (ha : PA X (e :: es) t)
    (hdb : (x == ("__debug__" : Str)) = false := by decide) (he : starEach (e :: es) X.env = (false, eval e X.env) :: starEach es X.env := by rfl) (hpl : (backTo pos (starEach es X.env)).any (·.1) = false := by rfl) :
    PE X (.Call (.Name x p) (e :: es) [] pos) (tMake C sp [] E t) := by
  obtain ⟨f, fd, h1, h2, h3, h4⟩ := c
  exact pe_make h1 h4 hr hg h2 h3 .nil hx ha hdb he hpl
end L2
namespace Op
open PySem L2 PyProof.Rows
/-! ### the mirror: a program's parts -/
def progCheck (we : Bool) (asks sigs : ArgD) (ins rows : PyData) : Except (Str × List Int) Chk :=
  match okTab (areWords 4) 6 asks with
  | none => .error ("asks", [])
  | some ka => match okTab isBox 3 sigs with
    | none => .error ("signals", [])
    | some ks => if areWords 3 ins = true then checkAll ⟨ka.map (·.1), ks.map (·.1), we⟩ rows else .error ("inputs", [])
section
variable {K : PySem.W.Frag} {H H' : Hp}
theorem KvsR.has (x : Str) : ∀ {vs : List (Key × V)} {kvs : List (Str × PyData)}, KvsR K H vs kvs → (valV vs (.inr x)).isSome = decide (x ∈ kvs.map (·.1))
  | [], [], _ => rfl
  | (k, v) :: r, (y, d) :: t, ⟨h1, h2, h3⟩ => by
    rw [h1, List.map_cons]
    by_cases e : y = x
    · rw [valV_pos (by rw [e])]
      simp [e]
    · rw [valV_neg (fun q => e (Sum.inr.inj q)), KvsR.has x h3]
      simp [Ne.symm e]
theorem KvsR.known {p : Addr} {ws : List (Key × V)} {kvs kvs' : List (Str × PyData)} (h : H p = some (.dK ws)) (r : KvsR K H' ws kvs') (pm : kvs'.Perm kvs) : Known H p (kvs.map (·.1)) := ⟨ws, h, fun x => by
  rw [r.has x]
  rw [Bool.eq_iff_iff, decide_eq_true_iff, decide_eq_true_iff]
  exact (pm.map (·.1)).mem_iff⟩
end
theorem KvsR.mono {K : PySem.W.Frag} {H H' : Hp} {vs : List (Key × V)} {kvs : List (Str × PyData)} (h : KvsR K H vs kvs) (s : Kp H H') : KvsR K H' vs kvs := KvsR.kp s h
/-- all but x stay -/
def But (x : Addr) (H H' : Hp) : Prop := ∀ b o, H b = some o → b ≠ x → H' b = some o
theorem checkAll_ok {E : Env0} {d : PyData} {c : Chk} (h : checkAll E d = .ok c) : ∃ ds, d = .list ds ∧ chkL E 5 false ds [] chk0 = .ok c ∧ sizes c = none := by
  unfold checkAll at h
  split at h
  · rename_i ds
    refine ⟨ds, rfl, ?_⟩
    split at h
    · cases h
    · rename_i c1 e1
      split at h
      · cases h
      · rename_i e2
        obtain rfl := Except.ok.inj h
        exact ⟨e1, e2⟩
  · cases h
theorem sizes_edits {c : Chk} (h : sizes c = none) : c.edits.length ≤ 4 := by
  unfold sizes at h
  split at h
  · cases h
  · split at h
    · cases h
    · split at h
      · cases h
      · split at h
        · cases h
        · split at h
          · cases h
          · omega
theorem keys_dkT (xs : List Str) : ((dkT xs).map fun kv => kV kv.1) = xs.map V.str := by
  unfold dkT
  rw [List.map_map]
  rfl
section
variable {K : PySem.W.Frag} {H H' H'' : Hp} {x C dx : Addr} {fs : List (Str × V)}
theorem But.kp (b : But x H H') (h : H x = some (.ins C dx fs)) : Kp H H' := fun c o hc ho => b c o hc fun e => by
  rw [e, h] at hc
  cases hc
  cases ho
theorem But.trans (a : But x H H') (b : But x H' H'') : But x H H'' := fun c o h n => b c o (a c o h n) n
theorem Same.but (s : Same H H') : But x H H' := fun c o h _ => s c o h
theorem But.upd {o : HO} (b : But x H H') : But x H (upd H' x o) := fun c u h n => by rw [L2.upd_ne n]; exact b c u h n
theorem ArgV.but {v : V} {a : ArgD} (h : ArgV K H v a) (b : But x H H') (hx : H x = some (.ins C dx fs)) : ArgV K H' v a := by
  cases a with
  | none => exact h
  | other d => exact ⟨h.1.kp (b.kp hx), h.2⟩
  | dict kvs =>
    obtain ⟨p, vs, e, hp, hk, hn⟩ := h
    refine ⟨p, vs, e, b p _ hp fun z => ?_, hk.mono (b.kp hx), hn⟩
    rw [z, hx] at hp
    cases hp
end
structure EdC (K : PySem.W.Frag) (C : Addr) : Prop where
  cls : Cls K C
  n1 : NoAttr K C "ask_table"
  n2 : NoAttr K C "signal_table"
  n3 : NoAttr K C "input_words"
  n4 : NoAttr K C "row_list"
  n5 : NoAttr K C "edit_ids"
section
variable {P : Program} {w : World} {K : PySem.W.Frag} {mg : Str → Option Value} {base : Heap} {pS CI C RC0 : Addr}
def spEdited (K : PySem.W.Frag) (C CI : Addr) (we : Bool) : Sp := fun vs H Q X => ∃ (x dx : Addr) (rv av sv iv : V) (asks sigs : ArgD) (ins rows : PyData), vs = [.ref x, rv, av, sv, iv] ∧ H x = some (.ins C dx []) ∧ ArgV K H av asks ∧ ArgV K H sv sigs ∧ argSmall asks ∧ argSmall sigs ∧ Dp K H iv ins ∧ Dp K H rv rows ∧ small ins = true ∧ wt rows ≤ 30000 ∧
  (∀ c, progCheck we asks sigs ins rows = .ok c → ∀ H', But x H H' → Q .non H') ∧ (∀ part path, progCheck we asks sigs ins rows = .error (part, path) → ∀ H' d, Fr (x :: (argF asks av ++ argF sigs sv)) H H' → XProg K H' d part path → X (.ref CI) (some d) H')
end
end Op
namespace Op
open PySem L2 PyProof.Rows
/-! ### the mirror: the tables of rows and of sizes -/
def putD {α : Type} (t : List (List Int × α)) (p : List Int) (a : α) : List (List Int × α) := if (t.any fun q => decide (q.1 = p)) = true then t.map (fun q => if q.1 = p then (q.1, a) else q) else t ++ [(p, a)]
abbrev Tb := List (List Int × PyData) × List (List Int × Int)
def addIn (rec : List PyData → List Int → Tb → Tb) (pre : List Int) : List PyData → Nat → Tb → Tb
  | [], _, s => s
  | d :: r, j, s => addIn rec pre r (j + 1) (rec (listOf d) (pre ++ [(j : Int)]) s)
def addRow (rec : List PyData → List Int → Tb → Tb) (pre : List Int) (d : PyData) (i : Nat) (s : Tb) : Tb :=
  match d with
  | .tuple (.str kind :: parts) => addIn rec (pre ++ [(i : Int)]) (innerL kind parts) 0 (putD s.1 (pre ++ [(i : Int)]) d, s.2)
  | _ => s
def addRs (row : PyData → Nat → Tb → Tb) : List PyData → Nat → Tb → Tb
  | [], _, s => s
  | d :: r, i, s => addRs row r (i + 1) (row d i s)
def addL : Nat → List PyData → List Int → Tb → Tb
  | 0, _, _, s => s
  | n + 1, ds, pre, s => addRs (addRow (addL n) pre) ds 0 (s.1, putD s.2 pre (ds.length : Int))
theorem putD_len {α : Type} (t : List (List Int × α)) (p : List Int) (a : α) : (putD t p a).length ≤ t.length + 1 := by
  unfold putD
  split
  · rw [List.length_map]; omega
  · rw [List.length_append]; exact Nat.le_refl _
/-! ### sizes -/
def CapT (s : Tb) (m : Nat) : Prop := s.1.length ≤ m ∧ s.2.length ≤ m
theorem CapT.mono {s : Tb} {m n : Nat} (h : CapT s m) (e : m ≤ n) : CapT s n := ⟨by have := h.1; omega, by have := h.2; omega⟩
theorem wIn1 : ∀ ds : List PyData, ds.length + wIn ds ≤ wts ds
  | [] => by rw [wts_nil]; exact Nat.le_refl _
  | d :: r => by
    have := wIn1 r
    have := wts_listOf d
    rw [wts_cons, List.length_cons]
    show _ + (wts (listOf d) + wIn r) ≤ _
    omega
theorem wts_filter (f : PyData → Bool) : ∀ ds : List PyData, wts (ds.filter f) ≤ wts ds
  | [] => Nat.le_refl _
  | d :: r => by
    have := wts_filter f r
    rw [wts_cons]
    by_cases q : f d = true
    · rw [List.filter_cons_of_pos q, wts_cons]; omega
    · rw [List.filter_cons_of_neg q]; omega
theorem wIn_inner1 (kind : Str) (parts : List PyData) : (innerL kind parts).length + wIn (innerL kind parts) ≤ wts parts := by
  unfold innerL
  split
  · cases parts with
    | nil => exact Nat.zero_le _
    | cons d r =>
      rw [wts_cons]
      cases d with
      | tuple ds =>
        have := wIn1 ds
        rw [wt_tuple]
        show ds.length + wIn ds ≤ _
        omega
      | _ => exact Nat.zero_le _
  · have := wIn1 (parts.filter isList)
    have := wts_filter isList parts
    omega
def CapG (f : List PyData → List Int → Tb → Tb) : Prop := ∀ ds pre s m, CapT s m → CapT (f ds pre s) (m + 1 + wts ds)
theorem addIn_cap {f : List PyData → List Int → Tb → Tb} (hf : CapG f) {pre : List Int} : ∀ (l : List PyData) (j : Nat) (s : Tb) (m : Nat), CapT s m → CapT (addIn f pre l j s) (m + (l.length + wIn l))
  | [], j, s, m, k => k
  | d :: r, j, s, m, k => by
    have h1 := hf (listOf d) (pre ++ [(j : Int)]) s m k
    have h2 := addIn_cap hf (pre := pre) r (j + 1) _ _ h1
    refine h2.mono ?_
    show _ ≤ m + (r.length + 1 + (wts (listOf d) + wIn r))
    omega
theorem addRow_cap {f : List PyData → List Int → Tb → Tb} (hf : CapG f) {pre : List Int} {d : PyData} {i : Nat} {s : Tb} {m : Nat} (k : CapT s m) : CapT (addRow f pre d i s) (m + wt d) := by
  unfold addRow
  split
  · rename_i kind parts
    have h1 := putD_len s.1 (pre ++ [(i : Int)]) (.tuple (.str kind :: parts))
    have h2 := addIn_cap hf (pre := pre ++ [(i : Int)]) (innerL kind parts) 0 (putD s.1 (pre ++ [(i : Int)]) (.tuple (.str kind :: parts)), s.2) (m + 1) ⟨by have := k.1; show (putD _ _ _).length ≤ _; omega, by have := k.2; show s.2.length ≤ _; omega⟩
    have h3 := wIn_inner1 kind parts
    refine h2.mono ?_
    rw [wt_tuple, wts_cons]
    omega
  · exact k.mono (by omega)
theorem addRs_cap {row : PyData → Nat → Tb → Tb} (hr : ∀ d i s m, CapT s m → CapT (row d i s) (m + wt d)) : ∀ (l : List PyData) (i : Nat) (s : Tb) (m : Nat), CapT s m → CapT (addRs row l i s) (m + wts l)
  | [], i, s, m, k => k.mono (by omega)
  | d :: r, i, s, m, k => by
    have h2 := addRs_cap hr r (i + 1) _ _ (hr d i s m k)
    exact h2.mono (by rw [wts_cons]; omega)
theorem addL_cap : ∀ n : Nat, CapG (addL n)
  | 0 => fun ds pre s m k => k.mono (by omega)
  | n + 1 => fun ds pre s m k => by
    have h1 := putD_len s.2 pre (ds.length : Int)
    exact addRs_cap (fun d i s m k => addRow_cap (addL_cap n) k) ds 0 (s.1, putD s.2 pre (ds.length : Int)) (m + 1) ⟨by have := k.1; show s.1.length ≤ _; omega, by have := k.2; show (putD _ _ _).length ≤ _; omega⟩
/-! ### the tables in the heap -/
def kI (p : List Int) : List Key := p.map Sum.inl
theorem kI_inj : ∀ {p q : List Int}, kI p = kI q → p = q
  | [], [], _ => rfl
  | [], _ :: _, h => by cases h
  | _ :: _, [], h => by cases h
  | a :: r, b :: t, h => by
    have h : (Sum.inl a : Key) :: kI r = Sum.inl b :: kI t := h
    obtain ⟨h1, h2⟩ := List.cons.inj h
    rw [Sum.inl.inj h1, kI_inj h2]
theorem kI_kV (p : List Int) : (kI p).map kV = p.map V.int := by
  unfold kI
  rw [List.map_map]
  rfl
def TabR (K : PySem.W.Frag) (H : Hp) : List (List Key × V) → List (List Int × PyData) → Prop
  | [], [] => True
  | (k, v) :: r, (p, d) :: t => k = kI p ∧ Dp K H v d ∧ TabR K H r t
  | _, _ => False
section
variable {K : PySem.W.Frag} {H H' : Hp}
theorem TabR.kp (s : Kp H H') : ∀ {kvs : List (List Key × V)} {t : List (List Int × PyData)}, TabR K H kvs t → TabR K H' kvs t
  | [], [], _ => trivial
  | (k, v) :: r, (p, d) :: t, ⟨h1, h2, h3⟩ => ⟨h1, h2.kp s, TabR.kp s h3⟩
theorem TabR.len : ∀ {kvs : List (List Key × V)} {t : List (List Int × PyData)}, TabR K H kvs t → kvs.length = t.length
  | [], [], _ => rfl
  | (k, v) :: r, (p, d) :: t, ⟨h1, h2, h3⟩ => congrArg Nat.succ (TabR.len h3)
theorem TabR.any {q : List Int} : ∀ {kvs : List (List Key × V)} {t : List (List Int × PyData)}, TabR K H kvs t → (kvs.any fun kv => decide (kv.1 = kI q)) = t.any fun x => decide (x.1 = q)
  | [], [], _ => rfl
  | (k, v) :: r, (p, d) :: t, ⟨h1, h2, h3⟩ => by
    rw [List.any_cons, List.any_cons, TabR.any h3, h1]
    congr 1
    exact decide_eq_decide.mpr ⟨fun e => kI_inj e, fun e => congrArg kI e⟩
theorem TabR.set {q : List Int} {v : V} {d : PyData} (hv : Dp K H v d) : ∀ {kvs : List (List Key × V)} {t : List (List Int × PyData)}, TabR K H kvs t → TabR K H (kvs.map fun kv => if kv.1 = kI q then (kv.1, v) else kv) (t.map fun x => if x.1 = q then (x.1, d) else x)
  | [], [], _ => trivial
  | (k, u) :: r, (p, e) :: t, ⟨h1, h2, h3⟩ => by
    rw [List.map_cons, List.map_cons]
    by_cases z : p = q
    · rw [if_pos z, if_pos (by rw [h1, z])]
      exact ⟨h1, hv, TabR.set hv h3⟩
    · rw [if_neg z, if_neg (fun y => z (kI_inj (h1.symm.trans y)))]
      exact ⟨h1, h2, TabR.set hv h3⟩
theorem TabR.snoc {q : List Int} {v : V} {d : PyData} (hv : Dp K H v d) : ∀ {kvs : List (List Key × V)} {t : List (List Int × PyData)}, TabR K H kvs t → TabR K H (kvs ++ [(kI q, v)]) (t ++ [(q, d)])
  | [], [], _ => ⟨rfl, hv, trivial⟩
  | (k, u) :: r, (p, e) :: t, ⟨h1, h2, h3⟩ => ⟨h1, h2, TabR.snoc hv h3⟩
theorem TabR.put {q : List Int} {v : V} {d : PyData} {kvs : List (List Key × V)} {t : List (List Int × PyData)} (h : TabR K H kvs t) (hv : Dp K H v d) : TabR K H (putK kvs (kI q) v) (putD t q d) := by
  unfold putK putD
  rw [h.any]
  split
  · exact h.set hv
  · exact h.snoc hv
end
def zT (t : List (List Int × Int)) : List (List Key × V) := t.map fun p => (kI p.1, .int p.2)
theorem zT_put (t : List (List Int × Int)) (q : List Int) (n : Int) : putK (zT t) (kI q) (.int n) = zT (putD t q n) := by
  unfold putK putD
  have e : ((zT t).any fun kv => decide (kv.1 = kI q)) = t.any fun x => decide (x.1 = q) := by
    unfold zT
    rw [List.any_map]
    congr 1
    funext x
    exact decide_eq_decide.mpr ⟨fun e => kI_inj e, fun e => congrArg kI e⟩
  rw [e]
  split
  · unfold zT
    rw [List.map_map, List.map_map]
    refine List.map_congr_left fun x _ => ?_
    show (if kI x.1 = kI q then (kI x.1, V.int n) else (kI x.1, .int x.2)) = (kI (if x.1 = q then (x.1, n) else x).1, V.int (if x.1 = q then (x.1, n) else x).2)
    by_cases z : x.1 = q
    · rw [if_pos z, if_pos (by rw [z])]
    · rw [if_neg z, if_neg fun y => z (kI_inj y)]
  · unfold zT
    rw [List.map_append]
    rfl
structure TbA where
  x : Addr
  C : Addr
  dx : Addr
  rt : Addr
  lz : Addr
  fs : List (Str × V)
structure TB (K : PySem.W.Frag) (H : Hp) (A : TbA) (s : Tb) : Prop where
  ob : H A.x = some (.ins A.C A.dx A.fs)
  f1 : A.fs.lookup ("row_table" : Str) = some (.ref A.rt)
  f2 : A.fs.lookup ("list_sizes" : Str) = some (.ref A.lz)
  f3 : A.fs.lookup ("add_rows" : Str) = none
  rt : ∃ kvs, H A.rt = some (.dT kvs) ∧ TabR K H kvs s.1
  lz : H A.lz = some (.dT (zT s.2))
  ne : A.rt ≠ A.lz
section
variable {K : PySem.W.Frag} {H H' : Hp} {A : TbA} {s : Tb}
theorem TB.mono (h : TB K H A s) (m : Same H H') : TB K H' A s := ⟨m _ _ h.ob, h.f1, h.f2, h.f3, let ⟨k, a, b⟩ := h.rt; ⟨k, m _ _ a, b.kp m.kp⟩, m _ _ h.lz, h.ne⟩
theorem TB.kp (h : TB K H A s) (f : Fr [A.rt, A.lz] H H') : Kp H H' := fun b o hb ho => f b o hb fun m => by
  obtain ⟨k, e, _⟩ := h.rt
  rcases List.mem_cons.mp m with z | m
  · rw [z, e] at hb; cases hb; cases ho
  · rw [List.mem_singleton.mp m, h.lz] at hb; cases hb; cases ho
end
theorem kp_upd {H : Hp} {a : Addr} {o o' : HO} (h : H a = some o) (n : seqO o = false) : Kp H (upd H a o') := fun b u hb hu => by
  have : b ≠ a := fun e => by
    rw [e, h] at hb
    cases hb
    rw [n] at hu
    cases hu
  rw [upd_ne this]
  exact hb
section
variable {K : PySem.W.Frag} {H : Hp} {A : TbA} {s : Tb}
theorem TB.nx (h : TB K H A s) : A.x ≠ A.rt ∧ A.x ≠ A.lz := by
  obtain ⟨kvs, e1, _⟩ := h.rt
  exact ⟨fun e => (by have := h.ob; rw [e, e1] at this; cases this), fun e => (by have := h.ob; rw [e, h.lz] at this; cases this)⟩
theorem TB.putZ (h : TB K H A s) (p : List Int) (n : Int) : TB K (upd H A.lz (.dT (putK (zT s.2) (kI p) (.int n)))) A (s.1, putD s.2 p n) := by
  obtain ⟨kvs, e1, e2⟩ := h.rt
  exact ⟨by rw [upd_ne h.nx.2]; exact h.ob, h.f1, h.f2, h.f3, ⟨kvs, by rw [upd_ne h.ne]; exact e1, e2.kp (kp_upd h.lz rfl)⟩, by rw [upd_same, zT_put], h.ne⟩
theorem TB.putT {kvs : List (List Key × V)} {p : List Int} {v : V} {d : PyData} (h : TB K H A s) (e1 : H A.rt = some (.dT kvs)) (e2 : TabR K H kvs s.1) (hv : Dp K H v d) : TB K (upd H A.rt (.dT (putK kvs (kI p) v))) A (putD s.1 p d, s.2) :=
  ⟨by rw [upd_ne h.nx.1]; exact h.ob, h.f1, h.f2, h.f3, ⟨_, upd_same, (e2.put hv).kp (kp_upd e1 rfl)⟩, by rw [upd_ne h.ne.symm]; exact h.lz, h.ne⟩
end
theorem rowOk_form {R : List PyData → Prop} {d : PyData} (h : rowOk R d) : ∃ kind parts, d = .tuple (.str kind :: parts) ∧ parts.length ≤ 4 ∧ (kind = "both" → ∃ ds, parts = [.tuple ds] ∧ ds ≠ []) ∧ (∀ d ∈ innerL kind parts, isList d = true ∧ R (listOf d)) := by
  unfold rowOk at h
  split at h
  · rename_i kind parts
    exact ⟨kind, parts, rfl, h.1, h.2.1, h.2.2.2⟩
  · exact h.elim
/-- t + u of tuples that are tracked -/
theorem cat_trk {K : PySem.W.Frag} {H : Hp} {a b : Addr} {xs ys : List V} {Q : VK} (ha : H a = some (.tup xs)) (hb : H b = some (.tup ys)) (hz : xs.length + ys.length ≤ sizeLine) (k : ∀ t H', Same H H' → H' t = some (.tup (xs ++ ys)) → Q (.ref t) H') : rCatA K (.ref a) (.ref b) H Q := by
  refine ⟨a, b, xs, ys, rfl, rfl, .inl (.inl ha), .inl (.inl hb), hz, fun e => ?_, fun _ e => ?_, fun _ _ p hp => ?_⟩
  · subst e
    exact k b H (fun _ _ h => h) hb
  · subst e
    exact k a H (fun _ _ h => h) (by rw [List.append_nil]; exact ha)
  · exact k p _ (Same.new hp) upd_same
theorem addRs_cons {row : PyData → Nat → Tb → Tb} {d : PyData} {r : List PyData} {i : Nat} {s : Tb} : addRs row (d :: r) i s = addRs row r (i + 1) (row d i s) := rfl
theorem addIn_cons {rec : List PyData → List Int → Tb → Tb} {pre : List Int} {d : PyData} {r : List PyData} {j : Nat} {s : Tb} : addIn rec pre (d :: r) j s = addIn rec pre r (j + 1) (rec (listOf d) (pre ++ [(j : Int)]) s) := rfl
theorem cut_fr {S : Addr → Prop} {L : List Addr} {H H' : Hp} (f : Fr L H H') : Fr L (cutH S H) (cutH S H') := fun b o h n => by
  unfold cutH at h ⊢
  split at h
  · cases h
  · rename_i z
    rw [if_neg z]
    exact f b o h n
theorem cut_put {S : Addr → Prop} {H : Hp} {a : Addr} {o : HO} (n : ¬ S a) : cutH S (upd H a o) = upd (cutH S H) a o := by
  funext b
  unfold cutH
  by_cases e : b = a
  · subst e
    rw [if_neg n, upd_same, upd_same]
  · rw [upd_ne e, upd_ne e]
theorem cut_has {S : Addr → Prop} {H : Hp} {a : Addr} {o : HO} (h : cutH S H a = some o) : ¬ S a := fun z => by
  unfold cutH at h
  rw [if_pos z] at h
  cases h
theorem cut_at {S : Addr → Prop} {H : Hp} {a : Addr} {o : HO} (h : cutH S H a = some o) : H a = some o := cut_all _ _ h
structure PgC (K : PySem.W.Frag) (C : Addr) : Prop where
  cls : Cls K C
  n1 : NoAttr K C "ask_table"
  n2 : NoAttr K C "signal_table"
  n3 : NoAttr K C "input_words"
  n4 : NoAttr K C "row_list"
  n5 : NoAttr K C "label_names"
  n6 : NoAttr K C "slot_names"
  n7 : NoAttr K C "gate_names"
  n8 : NoAttr K C "row_table"
  n9 : NoAttr K C "list_sizes"
section
variable {P : Program} {w : World} {K : PySem.W.Frag} {mg : Str → Option Value} {base : Heap} {C : Addr}
def spAdd (K : PySem.W.Frag) (C : Addr) (n : Nat) : Sp := fun vs H Q _ => ∃ (S : Addr → Prop) (A : TbA) (s : Tb) (rws pr : Addr) (ds : List PyData) (pre : List Int) (m : Nat), vs = [.ref A.x, .ref rws, .ref pr] ∧ A.C = C ∧ TB K (cutH S H) A s ∧ Dp K (cutH S H) (.ref rws) (.list ds) ∧ rowsOk n ds ∧ H pr = some (.tup (pre.map V.int)) ∧ pre.length + 2 * n ≤ 100 ∧ CapT s m ∧ m + 1 + wts ds ≤ 90000 ∧
  ∀ H', Fr [A.rt, A.lz] H H' → TB K (cutH S H') A (addL n ds pre s) → Q .non H'
theorem sc_Program_add_rows : FnScope ["self", "rows", "prefix", "index", "row", "number", "inner"] ["self", "rows", "prefix"] (defScope s_Program_add_rows) := ⟨rfl, rfl, rfl, by decide +kernel, rfl, by decide +kernel, by decide +kernel⟩
theorem ok_add_rows {f : Addr} {fd : FuncData} (F : Fun K "add_rows" "Program.add_rows" s_Program_add_rows f fd) (T : Txt mg) (pc : PgC K C) (hm : Meth K C "add_rows" f) (hb : Binds K fd ["self", "rows", "prefix"] []) (c_inner_lists : Cal P w K mg base CX0 1 "inner_lists" ["row"] (spInnerG K)) :
    ∀ n : Nat, FnOk P w K mg base CX0 (1 + n + 1) f fd ["self", "rows", "prefix"] (spAdd K C n)
  | 0 => F.ok sc_Program_add_rows (fun vs H Q E h => by obtain ⟨S, A, s, rws, pr, ds, pre, m, rfl, _⟩ := h; rfl) (fun cdv A outer s H vs Q E hr h => by obtain ⟨S, A, s, rws, pr, ds, pre, m, _, _, _, _, hk, _⟩ := h; exact hk.elim)
  | n + 1 => by
    have m_add_rows : Mcal P w K mg base CX0 (1 + n + 1) C "add_rows" ["self", "rows", "prefix"] (spAdd K C n) := ⟨f, fd, hm, hb, ok_add_rows F T pc hm hb c_inner_lists n⟩
    refine F.ok sc_Program_add_rows (fun vs H Q E h => ?_) (fun cdv A outer s H vs Q E hr h => ?_)
    · obtain ⟨S, A, s, rws, pr, ds, pre, m, rfl, _⟩ := h
      rfl
    · obtain ⟨S, R, s0, rws, pr, ds, pre, m, rfl, hC, Oc, hd, hok, hpr, hpl, hcap, hw, k⟩ := h
      have hu := hu_of hr
      have c_Program := pc.cls
      subst hC
      have O := Oc.mono cut_all
      have nlz := cut_has Oc.lz
      have nrt : ¬ S R.rt := let ⟨_, e, _⟩ := Oc.rt; cut_has e
      refine ⟨_, (pss_cons (ps_dput hu (pe_fld (pv 0) rfl) (pv 2) (pe_callB call_len_seq (by rfl) T.b_len (by decide +kernel) (pa_cons (pv 1) pa_nil)) rfl)
      (pss_one (ps_for PassesOwn.never rfl (pi_enum (by rfl) T.b_enumerate (pa_cons (pv 1) pa_nil)) (pg_tup rfl (pgs_cons (pg_name (i := 3) sc_Program_add_rows.nd rfl (.inl rfl)) (pgs_cons (pg_name (i := 4) sc_Program_add_rows.nd rfl (.inl rfl)) pgs_nil))) (pss_cons (ps_dput hu (pe_fld (pv 0) rfl) (pe_op op_catA (pv 2) (pe_tup (pa_cons (pv 3) pa_nil))) (pv 4) rfl)
      (pss_one (ps_for PassesOwn.never rfl (pi_enum (by rfl) T.b_enumerate (pa_cons (pe_cal c_inner_lists (hr.mono (by omega)) rfl pass0 (pa_cons (pv 4) pa_nil)) pa_nil)) (pg_tup rfl (pgs_cons (pg_name (i := 5) sc_Program_add_rows.nd rfl (.inl rfl)) (pgs_cons (pg_name (i := 6) sc_Program_add_rows.nd rfl (.inl rfl)) pgs_nil))) (pss_one (ps_expr (pe_mcal (pv 0) c_Program m_add_rows (hr.mono (by omega)) pass0 (pa_cons (pv 6) (pa_cons (pe_op op_catA (pv 2) (pe_tup (pa_cons (pv 3) (pa_cons (pv 5) pa_nil)))) pa_nil))))))))))), ?_⟩
      cases hd with
      | @lst _ xs _ hq ha =>
      have hxl := ha.len
      have hcz : (zT s0.2).length ≤ m := by unfold zT; rw [List.length_map]; exact hcap.2
      refine ⟨_, rfl, rws, xs, rfl, .inl (hq.mono cut_all), _, rfl, _, _, _, _, _, rfl, O.ob, pc.cls, pc.n9, O.f2, _, rfl, R.lz, _, rfl, DPut.t (k := kI pre) O.lz (by rw [kI_kV]; exact hpr) (lt_sz (by omega)), ?_⟩
      have O1 := Oc.putZ pre (xs.length : Nat)
      rw [← cut_put nlz] at O1
      have fr1 : Fr [R.rt, R.lz] H (upd H R.lz (.dT (putK (zT s0.2) (kI pre) (.int (xs.length : Nat))))) := Fr.refl.upd (by simp)
      have cap1 : CapT (s0.1, putD s0.2 pre ((xs.length : Nat) : Int)) (m + 1) := ⟨by have := hcap.1; show s0.1.length ≤ _; omega, by have := putD_len s0.2 pre ((xs.length : Nat) : Int); have := hcap.2; show (putD _ _ _).length ≤ _; omega⟩
      revert O1 fr1
      generalize upd H R.lz _ = H1
      intro O1 fr1
      have e0 : addL (n + 1) ds pre s0 = addRs (addRow (addL n) pre) ds 0 (s0.1, putD s0.2 pre ((xs.length : Nat) : Int)) := by rw [hxl]; rfl
      refine ⟨_, rfl, rws, xs, rfl, (hq.mono cut_all).kp (O.kp fr1), ?_⟩
      refine for_it walk_enum (fun i σ H' => (∃ y3 y4 y5 y6 : Option V, σ = [some (.ref R.x), some (.ref rws), some (.ref pr), y3, y4, y5, y6]) ∧ ∃ si mi, TB K (cutH S H') R si ∧ Fr [R.rt, R.lz] H H' ∧ CapT si mi ∧ mi + wts (ds.drop i) ≤ 90000 ∧ addL (n + 1) ds pre s0 = addRs (addRow (addL n) pre) (ds.drop i) i si) ⟨⟨_, _, _, _, rfl⟩, _, m + 1, O1, fr1, cap1, by rw [List.drop_zero]; omega, e0⟩ (fun i σ H' _ p => by
        obtain ⟨_, si, mi, O2, fr, _⟩ := p
        exact (hq.mono cut_all).kp (O.kp fr)) ?_ ?_
      · rintro i v σ H2 H3 hi ⟨⟨y3, y4, y5, y6, rfl⟩, si, mi, O2, fr2, cap2, hw2, hres⟩ ⟨T0, x0, y, rfl, hT0, rfl, hx0, hy⟩
        obtain rfl : x0 = .int (i : Nat) := (Option.some.inj hx0).symm
        obtain ⟨d, hd1, hdy⟩ := ha.get hy
        have hdrop : ds.drop i = d :: ds.drop (i + 1) := by
          obtain ⟨h1, h2⟩ := List.getElem?_eq_some_iff.mp hd1
          rw [List.drop_eq_getElem_cons h1, h2]
        rw [hdrop] at hw2 hres
        rw [wts_cons] at hw2
        refine ⟨T0, _, rfl, .inl (.inl upd_same), rfl, _, _, rfl, _, _, rfl, rfl, ?_⟩
        have sm3 : Same H2 (upd H2 T0 (.tup [.int (i : Nat), y])) := Same.new hT0
        have O3 := O2.mono (cut_same (S := S) sm3)
        have fr3 : Fr [R.rt, R.lz] H (upd H2 T0 (.tup [.int (i : Nat), y])) := fr2.trans sm3.fr
        revert O3 fr3
        generalize upd H2 T0 (.tup [.int (i : Nat), y]) = H3
        intro O3 fr3
        obtain ⟨kind, parts, rfl, hp4, hboth, hinn⟩ := rowOk_form (hok d (List.mem_of_getElem? hd1))
        have hpr3 : H3 pr = some (.tup (pre.map V.int)) := O.kp fr3 _ _ hpr rfl
        obtain ⟨kvs, e1, e2⟩ := O3.rt
        have hkl := e2.len
        have hc1 := cap2.1
        refine ⟨_, rfl, _, rfl, _, _, _, _, _, rfl, cut_at O3.ob, pc.cls, pc.n8, O3.f1, _, rfl, _, rfl, sz1 _, fun p hp => cat_trk (Same.new hp _ _ hpr3) upd_same (sz_lit (by rw [List.length_map]; show _ + 1 ≤ _; omega)) fun t H4 s4 ht => ⟨R.rt, _, rfl, DPut.t (kvs := kvs) (k := kI (pre ++ [(i : Int)])) (s4 _ _ (Same.new hp _ _ (cut_at e1))) (by rw [kI_kV, ← map_snoc]; exact ht) (lt_sz (by omega)), ?_⟩⟩
        have s34 := (Same.new (o := .tup [.int (i : Nat)]) hp).trans s4
        have c34 := cut_same (S := S) s34
        have O4 := (O3.mono c34).putT (p := pre ++ [(i : Int)]) (c34 _ _ e1) (e2.kp c34.kp) ((hdy.kp (Oc.kp (cut_fr fr3))).mono c34)
        rw [← cut_put nrt] at O4
        have fr4 : Fr [R.rt, R.lz] H (upd H4 R.rt (.dT (putK kvs (kI (pre ++ [(i : Int)])) y))) := (fr3.trans s34.fr).upd (by simp)
        have cap4 : CapT (putD si.1 (pre ++ [(i : Int)]) (.tuple (.str kind :: parts)), si.2) (mi + 1) := ⟨by have := putD_len si.1 (pre ++ [(i : Int)]) (.tuple (.str kind :: parts)); show (putD _ _ _).length ≤ _; omega, by have := cap2.2; show si.2.length ≤ _; omega⟩
        revert O4 fr4
        generalize upd H4 R.rt _ = H5
        intro O4 fr4
        have hd5 := hdy.kp (Oc.kp (cut_fr fr4))
        obtain ⟨ty, rfl⟩ : ∃ ty, y = .ref ty := by
          cases hdy with
          | tup _ _ => exact ⟨_, rfl⟩
        refine ⟨_, rfl, _, ty, kind, parts, rfl, cut_all, hd5, by omega, fun e => ?_, fun p' xs' H6 s6 _ hp6 hdp6 => ?_⟩
        · obtain ⟨ds', e', _⟩ := hboth e
          exact ⟨ds', [], e'⟩
        refine ⟨p', xs', rfl, .inl (.inl hp6), ?_⟩
        have O6 := O4.mono (cut_same (S := S) s6)
        have fr6 : Fr [R.rt, R.lz] H H6 := fr4.trans s6.fr
        have hlen6 := hdp6.len
        have hwi := wIn_inner1 kind parts
        have hres' : addL (n + 1) ds pre s0 = addRs (addRow (addL n) pre) (ds.drop (i + 1)) (i + 1) (addIn (addL n) (pre ++ [(i : Int)]) (innerL kind parts) 0 (putD si.1 (pre ++ [(i : Int)]) (.tuple (.str kind :: parts)), si.2)) := hres
        rw [wt_tuple, wts_cons] at hw2
        refine for_it walk_enum (fun j σ H' => (∃ y5' y6' : Option V, σ = [some (.ref R.x), some (.ref rws), some (.ref pr), some (.int (i : Nat)), some (.ref ty), y5', y6']) ∧ ∃ sj mj, TB K (cutH S H') R sj ∧ Fr [R.rt, R.lz] H6 H' ∧ CapT sj mj ∧ mj + (((innerL kind parts).drop j).length + wIn ((innerL kind parts).drop j)) + wts (ds.drop (i + 1)) ≤ 90000 ∧ addL (n + 1) ds pre s0 = addRs (addRow (addL n) pre) (ds.drop (i + 1)) (i + 1) (addIn (addL n) (pre ++ [(i : Int)]) ((innerL kind parts).drop j) j sj)) ⟨⟨_, _, rfl⟩, _, mi + 1, O6, Fr.refl, cap4, by rw [List.drop_zero]; omega, hres'⟩ (fun j σ H' _ q => by
          obtain ⟨_, sj, mj, O7, fr7, _⟩ := q
          exact SqL.kp (.inl (.inl hp6)) ((O6.mono cut_all).kp fr7)) ?_ ?_
        · rintro j v σ H7 H8 hj ⟨⟨y5', y6', rfl⟩, sj, mj, O7, fr7, cap7, hw7, hres7⟩ ⟨T1, x1, y1, rfl, hT1, rfl, hx1, hy1⟩
          obtain rfl : x1 = .int (j : Nat) := (Option.some.inj hx1).symm
          obtain ⟨d1, hd1', hdy1⟩ := hdp6.get hy1
          have hdrop1 : (innerL kind parts).drop j = d1 :: (innerL kind parts).drop (j + 1) := by
            obtain ⟨h1, h2⟩ := List.getElem?_eq_some_iff.mp hd1'
            rw [List.drop_eq_getElem_cons h1, h2]
          rw [hdrop1] at hw7 hres7
          have hw7 : mj + (((innerL kind parts).drop (j + 1)).length + 1 + (wts (listOf d1) + wIn ((innerL kind parts).drop (j + 1)))) + wts (ds.drop (i + 1)) ≤ 90000 := hw7
          obtain ⟨hl1, hr1⟩ := hinn d1 (List.mem_of_getElem? hd1')
          obtain ⟨dl, rfl⟩ : ∃ dl, d1 = .list dl := by
            cases d1 with
            | list dl => exact ⟨dl, rfl⟩
            | _ => cases hl1
          refine ⟨T1, _, rfl, .inl (.inl upd_same), rfl, _, _, rfl, _, _, rfl, rfl, ?_⟩
          have sm8 : Same H7 (upd H7 T1 (.tup [.int (j : Nat), y1])) := Same.new hT1
          have O8 := O7.mono (cut_same (S := S) sm8)
          have fr8 : Fr [R.rt, R.lz] H6 (upd H7 T1 (.tup [.int (j : Nat), y1])) := fr7.trans sm8.fr
          revert O8 fr8
          generalize upd H7 T1 (.tup [.int (j : Nat), y1]) = H8
          intro O8 fr8
          have frA : Fr [R.rt, R.lz] H H8 := fr6.trans fr8
          have hdl : Dp K (cutH S H8) y1 (.list dl) := (hdy1.mono (cut_same s6)).kp (O6.kp (cut_fr fr8))
          have hp8 : H8 pr = some (.tup (pre.map V.int)) := O.kp frA _ _ hpr rfl
          obtain ⟨q1, rfl⟩ : ∃ q1, y1 = .ref q1 := by
            cases hdl with
            | lst _ _ => exact ⟨_, rfl⟩
          refine ⟨_, rfl, _, _, _, rfl, cut_at O8.ob, O8.f3, _, rfl, _, rfl, _, rfl, _, rfl, sz2 _ _, fun p9 hp9 => cat_trk (Same.new hp9 _ _ hp8) upd_same (sz_lit (by rw [List.length_map]; show _ + 2 ≤ _; omega)) fun t9 H9 s9 ht9 => ?_⟩
          have s89 : Same H8 H9 := (Same.new hp9).trans s9
          rw [map_snoc2] at ht9
          refine ⟨S, R, sj, q1, t9, dl, pre ++ [(i : Int)] ++ [(j : Int)], mj, rfl, rfl, O8.mono (cut_same s89), hdl.mono (cut_same s89), hr1, ht9, ?_, cap7, ?_, fun H' fr' O' => ?_⟩
          · rw [List.length_append, List.length_append]
            show pre.length + 1 + 1 + 2 * n ≤ 100
            omega
          · have : wts (listOf (.list dl)) = wts dl := rfl
            omega
          · refine ⟨⟨_, _, rfl⟩, _, mj + 1 + wts dl, O', fr8.trans (s89.fr.trans fr'), addL_cap n _ _ _ _ cap7, ?_, ?_⟩
            · have : wts (listOf (.list dl)) = wts dl := rfl
              omega
            · rw [hres7, addIn_cons]
              rfl
        · rintro σ H7 ⟨⟨y5', y6', rfl⟩, sj, mj, O7, fr7, cap7, hw7, hres7⟩
          rw [List.drop_of_length_le (l := innerL kind parts) (by omega)] at hres7
          exact ⟨⟨_, _, _, _, rfl⟩, sj, mj, O7, fr6.trans fr7, cap7, by omega, hres7⟩
      · rintro σ H' ⟨_, si, mi, O2, fr, _, _, e⟩
        rw [List.drop_of_length_le (by omega)] at e
        exact k H' fr (e ▸ O2)
end
end Op
namespace L2
theorem cut_kpS {S : PySem.Addr → Prop} {H H' : Hp} (s : Kp H H') : Kp (cutH S H) (cutH S H') := fun b o h ho => by
  unfold cutH at h ⊢
  split at h
  · cases h
  · rename_i n
    rw [if_neg n]
    exact s b o h ho
end L2
namespace Op
open PySem L2 PyProof.Rows
theorem at_new {H : Hp} {a : Addr} {o : HO} (_ : H a = none) : upd H a o a = some o := upd_same
theorem sizes_small {c : Chk} (h : sizes c = none) : c.labels.length < 64 ∧ c.slots.length < 64 ∧ c.gates.length < 64 := by
  unfold sizes at h
  split at h
  · cases h
  · split at h
    · cases h
    · split at h
      · cases h
      · split at h
        · cases h
        · omega
theorem dkT_keys (xs : List Str) : (dkT xs).map (·.1) = xs.map Sum.inr := by
  unfold dkT
  rw [List.map_map]
  rfl
theorem okTab_mem {ok : PyData → Bool} {most : Nat} {a : ArgD} {kvs : List (Str × PyData)} (h : okTab ok most a = some kvs) : ∀ q ∈ kvs, ok q.2 = true := by
  cases a with
  | none => 
    obtain rfl := Option.some.inj h
    exact fun q hq => (List.not_mem_nil hq).elim
  | other d => cases h
  | dict kv =>
    have h : (if kv.length ≤ most ∧ (kv.all fun p => isWordS p.1 && ok p.2) = true then some kv else none) = some kvs := h
    split at h
    · rename_i z
      obtain rfl := Option.some.inj h
      exact fun q hq => (Bool.and_eq_true_iff.mp (List.all_eq_true.mp z.2 q hq)).2
    · cases h
theorem noL_box {d : PyData} (h : isBox d = true) : noL d = true := by
  unfold isBox at h
  split at h
  · rename_i n d
    have := noL_words (Bool.and_eq_true_iff.mp h).2
    unfold noL
    refine noLs_mem.mpr fun z hz => ?_
    rcases List.mem_cons.mp hz with rfl | hz
    · unfold noL; rfl
    · rw [List.mem_singleton.mp hz]; exact this
  · cases h
theorem KvsR.cutN {K : PySem.W.Frag} {H : Hp} {S : Addr → Prop} (hs : ∀ b, S b → LstAt H b) : ∀ {vs : List (Key × V)} {kvs : List (Str × PyData)}, KvsR K H vs kvs → (∀ q ∈ kvs, noL q.2 = true) → KvsR K (cutH S H) vs kvs
  | [], [], _, _ => trivial
  | (k, v) :: r, (x, d) :: t, ⟨h1, h2, h3⟩, hn => ⟨h1, noL_cut hs h2 (hn _ List.mem_cons_self), KvsR.cutN hs h3 fun q hq => hn q (List.mem_cons_of_mem _ hq)⟩
theorem RwV.but {K : PySem.W.Frag} {H H' : Hp} {x C dx : Addr} {fs : List (Str × V)} {v : V} {d : PyData} (h : RwV K H v d) (b : But x H H') (hx : H x = some (.ins C dx fs)) : RwV K H' v d := by
  rcases h with h | ⟨h, p, e, hp⟩
  · exact .inl (h.kp (b.kp hx))
  · exact .inr ⟨h, p, e, b p _ hp fun z => by rw [z, hx] at hp; cases hp⟩
/-! ### a program -/
structure Pg where
  asks : List (Str × PyData)
  sigs : List (Str × PyData)
  ins : PyData
  rows : List PyData
  labels : List Str
  slots : List Str
  gates : List Str
structure PgA where
  x : Addr
  C : Addr
  dx : Addr
  pa : Addr
  ps : Addr
  pr : Addr
  l1 : Addr
  l2 : Addr
  l3 : Addr
  rt : Addr
  lz : Addr
  iv : V
def pgF (A : PgA) : List (Str × V) := [("ask_table", .ref A.pa), ("signal_table", .ref A.ps), ("input_words", A.iv), ("row_list", .ref A.pr), ("label_names", .ref A.l1), ("slot_names", .ref A.l2), ("gate_names", .ref A.l3), ("row_table", .ref A.rt), ("list_sizes", .ref A.lz)]
structure PgO (K : PySem.W.Frag) (H : Hp) (A : PgA) (g : Pg) : Prop where
  ob : H A.x = some (.ins A.C A.dx (pgF A))
  da : ∃ ws, H A.pa = some (.dK ws) ∧ KvsR K H ws g.asks
  ds : ∃ ws, H A.ps = some (.dK ws) ∧ KvsR K H ws g.sigs
  di : Dp K H A.iv g.ins
  dr : Dp K H (.ref A.pr) (.list g.rows)
  n1 : H A.l1 = some (.lst (g.labels.map V.str))
  n2 : H A.l2 = some (.lst (g.slots.map V.str))
  n3 : H A.l3 = some (.lst (g.gates.map V.str))
  tb : TB K H ⟨A.x, A.C, A.dx, A.rt, A.lz, pgF A⟩ (addL 5 g.rows [] ([], []))
theorem PgO.mono {K : PySem.W.Frag} {H H' : Hp} {A : PgA} {g : Pg} (h : PgO K H A g) (s : Same H H') : PgO K H' A g :=
  ⟨s _ _ h.ob, let ⟨w, a, b⟩ := h.da; ⟨w, s _ _ a, b.mono s.kp⟩, let ⟨w, a, b⟩ := h.ds; ⟨w, s _ _ a, b.mono s.kp⟩, h.di.mono s, h.dr.mono s, s _ _ h.n1, s _ _ h.n2, s _ _ h.n3, h.tb.mono s⟩
section
variable {P : Program} {w : World} {K : PySem.W.Frag} {mg : Str → Option Value} {base : Heap} {pS CI C RC0 : Addr}
def spProg (K : PySem.W.Frag) (C CI : Addr) : Sp := fun vs H Q X => ∃ (x dx : Addr) (rv av sv iv : V) (asks sigs : ArgD) (ins rows : PyData), vs = [.ref x, rv, av, sv, iv] ∧ H x = some (.ins C dx []) ∧ ArgV K H av asks ∧ ArgV K H sv sigs ∧ argSmall asks ∧ argSmall sigs ∧ Dp K H iv ins ∧ RwV K H rv rows ∧ small ins = true ∧ wt rows ≤ 30000 ∧
  (∀ ka ks ds c, okTab (areWords 4) 6 asks = some ka → okTab isBox 3 sigs = some ks → areWords 3 ins = true → rows = .list ds → checkAll ⟨ka.map (·.1), ks.map (·.1), false⟩ (.list ds) = .ok c → ∀ H' A kva kvs ls ss gs, But x H H' → A.x = x → A.C = C → kva.Perm ka → sortedS (kva.map (·.1)) = true → kvs.Perm ks → sortedS (kvs.map (·.1)) = true → ls.Perm c.labels → sortedS ls = true → ss.Perm c.slots → sortedS ss = true → gs.Perm c.gates → sortedS gs = true → H A.pa = none → H A.ps = none → PgO K (cutH (LstAt H) H') A ⟨kva, kvs, ins, ds, ls, ss, gs⟩ → Q .non H') ∧
  (∀ part path, progCheck false asks sigs ins rows = .error (part, path) → ∀ H' d, Fr (x :: (argF asks av ++ argF sigs sv)) H H' → XProg K H' d part path → X (.ref CI) (some d) H')
theorem sc_Program___init__ : FnScope ["self", "rows", "asks", "signals", "inputs", "found"] ["self", "rows", "asks", "signals", "inputs"] (defScope s_Program___init__) := ⟨rfl, rfl, rfl, by decide +kernel, rfl, by decide +kernel, by decide +kernel⟩
theorem ok_prog {f : Addr} {fd : FuncData} (F : Fun K "__init__" "Program.__init__" s_Program___init__ f fd) (T : TxtC P w K mg pS CI) (pc : PgC K C) (rc : RcC K RC0)
    (c_checked_asks : Cal P w K mg base (L2.CX P w) 3 "checked_asks" ["value"] (spTab K CI "asks" (areWords 4) 6)) (c_checked_signals : Cal P w K mg base (L2.CX P w) 4 "checked_signals" ["value"] (spTab K CI "signals" isBox 3)) (c_checked_inputs : Cal P w K mg base (L2.CX P w) 3 "checked_inputs" ["value"] (spInputs K CI))
    (k_RowCheck : Kcal P w K mg base CX0 1 "RowCheck" RC0 ["self", "asks", "signals", "with_edits"] (spRcInit K RC0)) (m_check : Mcal P w K mg base (L2.CX P w) 12 RC0 "check" ["self", "rows"] (spCheck K RC0 CI)) (c_copy_rows : Cal P w K mg base CX0 11 "copy_rows" ["rows"] (spCRows K 5)) (m_add_rows : Mcal P w K mg base CX0 7 C "add_rows" ["self", "rows", "prefix"] (spAdd K C 5)) :
    FnOk P w K mg base (L2.CX P w) 13 f fd ["self", "rows", "asks", "signals", "inputs"] (spProg K C CI) := by
  refine F.okX sc_Program___init__ (fun vs H Q E h => ?_) (fun cdv A outer s H vs Q E hr h => ?_)
  · obtain ⟨x, dx, rv, av, sv, iv, asks, sigs, ins, rows, rfl, _⟩ := h
    rfl
  · obtain ⟨x, dx, rv, av, sv, iv, asks, sigs, ins, rows, rfl, hx, hav, hsv, hsa, hss, hiv, hrv, hsi, hwr, k1, k2⟩ := h
    have c_RowCheck := rc.cls
    have c_Program := pc.cls
    refine ⟨_, (pss_cons (ps_fld (pv 0) (pe_cal c_checked_asks (hr.mono (by omega)) rfl (passes_call (takes_of rfl rfl rfl rfl) (fun _ _ _ _ h => h)) (pa_cons (pv 2) pa_nil)) rfl)
      (pss_cons (ps_fld (pv 0) (pe_cal c_checked_signals (hr.mono (by omega)) rfl (passes_call (takes_of rfl rfl rfl rfl) (fun _ _ _ _ h => h)) (pa_cons (pv 3) pa_nil)) rfl)
      (pss_cons (ps_fld (pv 0) (pe_cal c_checked_inputs (hr.mono (by omega)) rfl (passes_call (takes_of rfl rfl rfl rfl) (fun _ _ _ _ h => h)) (pa_cons (pv 4) pa_nil)) rfl)
      (pss_cons (ps_set (i := 5) sc_Program___init__.nd rfl (.inl rfl) (pe_kcal k_RowCheck (hr.mono (by omega)) rfl pass0 (pa_cons (pe_fld (pv 0) rfl) (pa_cons (pe_fld (pv 0) rfl) (pa_cons pe_bl pa_nil)))))
      (pss_cons (ps_expr (pe_mcal (pv 5) c_RowCheck m_check (hr.mono (by omega)) (passes_call (takes_of rfl rfl rfl rfl) (fun _ _ _ _ h => h)) (pa_cons (pv 1) pa_nil)))
      (pss_cons (ps_fld (pv 0) (pe_cal c_copy_rows (hr.mono (by omega)) rfl pass0 (pa_cons (pv 1) pa_nil)) rfl)
      (pss_cons (ps_fld (pv 0) (pe_callB (call_sortedKV rfl) (by rfl) T.b_sorted (by decide +kernel) (pa_cons (pe_bm0 PySem.F.plainAttrs_dict PySem.F.slot_dict_keys PySem.F.type_dict_keys mt_keysV (pe_fld (pv 5) rfl)) pa_nil)) rfl)
      (pss_cons (ps_fld (pv 0) (pe_callB (call_sortedKV rfl) (by rfl) T.b_sorted (by decide +kernel) (pa_cons (pe_bm0 PySem.F.plainAttrs_dict PySem.F.slot_dict_keys PySem.F.type_dict_keys mt_keysV (pe_fld (pv 5) rfl)) pa_nil)) rfl)
      (pss_cons (ps_fld (pv 0) (pe_callB (call_sortedKV rfl) (by rfl) T.b_sorted (by decide +kernel) (pa_cons (pe_bm0 PySem.F.plainAttrs_dict PySem.F.slot_dict_keys PySem.F.type_dict_keys mt_keysV (pe_fld (pv 5) rfl)) pa_nil)) rfl)
      (pss_cons (ps_fld (pv 0) pe_dnewT rfl)
      (pss_cons (ps_fld (pv 0) pe_dnewT rfl)
      (pss_one (ps_expr (pe_mcal (pv 0) c_Program m_add_rows (hr.mono (by omega)) pass0 (pa_cons (pe_fld (pv 0) rfl) (pa_cons (pe_tup pa_nil) pa_nil)))))))))))))))), ?_⟩
    unfold progCheck at k2
    refine ⟨_, rfl, av, asks, rfl, hav, hsa, fun ka hka pa H1 wsa kva s1 hpa hpa1 pma srta hra => ?_, fun hn H1 d f1 hxp => ?_⟩
    · rw [hka] at k2
      have nxa : pa ≠ x := fun e => by rw [e, hx] at hpa; cases hpa
      refine ⟨_, rfl, x, C, dx, _, rfl, s1 _ _ hx, pc.cls, pc.n1, (by show 0 < 1000; decide), ?_⟩
      have b2 : But x H (upd H1 x (.ins C dx (putF "ask_table" (.ref pa) []))) := (Same.but s1).upd
      have x2 : upd H1 x (.ins C dx (putF "ask_table" (.ref pa) [])) x = some (.ins C dx [("ask_table", .ref pa)]) := upd_same
      have b12' : But x H1 (upd H1 x (.ins C dx (putF "ask_table" (.ref pa) []))) := (Same.but fun _ _ z => z).upd
      have pa2 : upd H1 x (.ins C dx (putF "ask_table" (.ref pa) [])) pa = some (.dK wsa) := by rw [upd_ne nxa]; exact hpa1
      revert b2 x2 pa2 b12'
      generalize upd H1 x (.ins C dx (putF "ask_table" (.ref pa) [])) = H2
      intro b2 x2 b12' pa2
      refine ⟨_, rfl, sv, sigs, rfl, hsv.but b2 hx, hss, fun ks hks ps H3 wss kvs s3 hps hps3 pms srts hrs => ?_, fun hn H3 d f3 hxp => ?_⟩
      · rw [hks] at k2
        have nxs : ps ≠ x := fun e => by rw [e, x2] at hps; cases hps
        have nas : pa ≠ ps := fun e => by rw [← e, pa2] at hps; cases hps
        refine ⟨_, rfl, x, C, dx, _, rfl, s3 _ _ x2, pc.cls, pc.n2, (by show 1 < 1000; decide), ?_⟩
        have b4 : But x H (upd H3 x (.ins C dx (putF "signal_table" (.ref ps) [("ask_table", .ref pa)]))) := (b2.trans (Same.but s3)).upd
        have x4 : upd H3 x (.ins C dx (putF "signal_table" (.ref ps) [("ask_table", .ref pa)])) x = some (.ins C dx [("ask_table", .ref pa), ("signal_table", .ref ps)]) := upd_same
        have b34 : But x H3 (upd H3 x (.ins C dx (putF "signal_table" (.ref ps) [("ask_table", .ref pa)]))) := (Same.but fun _ _ z => z).upd
        have pa4 : upd H3 x (.ins C dx (putF "signal_table" (.ref ps) [("ask_table", .ref pa)])) pa = some (.dK wsa) := by rw [upd_ne nxa]; exact s3 _ _ pa2
        have ps4 : upd H3 x (.ins C dx (putF "signal_table" (.ref ps) [("ask_table", .ref pa)])) ps = some (.dK wss) := by rw [upd_ne nxs]; exact hps3
        revert b4 x4 pa4 ps4 b34
        generalize upd H3 x (.ins C dx (putF "signal_table" (.ref ps) [("ask_table", .ref pa)])) = H4
        intro b4 x4 b34 pa4 ps4
        refine ⟨_, rfl, iv, ins, rfl, hiv.kp (b4.kp hx), hsi, fun hi => ?_, fun hi H5 d s5 hxp => ?_⟩
        · simp only [hi, if_true] at k2
          refine ⟨_, rfl, x, C, dx, _, rfl, x4, pc.cls, pc.n3, (by show 2 < 1000; decide), ?_⟩
          have b5 : But x H (upd H4 x (.ins C dx (putF "input_words" iv [("ask_table", .ref pa), ("signal_table", .ref ps)]))) := b4.upd
          have x5 : upd H4 x (.ins C dx (putF "input_words" iv [("ask_table", .ref pa), ("signal_table", .ref ps)])) x = some (.ins C dx [("ask_table", .ref pa), ("signal_table", .ref ps), ("input_words", iv)]) := upd_same
          have b45 : But x H4 (upd H4 x (.ins C dx (putF "input_words" iv [("ask_table", .ref pa), ("signal_table", .ref ps)]))) := (Same.but fun _ _ z => z).upd
          have pa5 : upd H4 x (.ins C dx (putF "input_words" iv [("ask_table", .ref pa), ("signal_table", .ref ps)])) pa = some (.dK wsa) := by rw [upd_ne nxa]; exact pa4
          have ps5 : upd H4 x (.ins C dx (putF "input_words" iv [("ask_table", .ref pa), ("signal_table", .ref ps)])) ps = some (.dK wss) := by rw [upd_ne nxs]; exact ps4
          revert b5 x5 pa5 ps5 b45
          generalize upd H4 x (.ins C dx (putF "input_words" iv [("ask_table", .ref pa), ("signal_table", .ref ps)])) = H5
          intro b5 x5 b45 pa5 ps5
          have b35 : But x H3 H5 := b34.trans b45
          have b25 : But x H2 H5 := (Same.but s3).trans b35
          refine ⟨_, rfl, x, C, dx, _, _, rfl, x5, pc.cls, pc.n1, rfl, _, rfl, x, C, dx, _, _, rfl, x5, pc.cls, pc.n2, rfl, fun y dy hy hdy hne => ?_⟩
          have s6 : Same H5 (upd (upd H5 dy (.own y)) y (.ins RC0 dy [])) := (Same.new hdy).trans (Same.new (by rw [upd_ne hne.symm]; exact hy))
          have y6 : upd (upd H5 dy (.own y)) y (.ins RC0 dy []) y = some (.ins RC0 dy []) := upd_same
          revert s6 y6
          generalize upd (upd H5 dy (.own y)) y (.ins RC0 dy []) = H6
          intro s6 y6
          refine ⟨y, dy, pa, ps, ⟨ka.map (·.1), ks.map (·.1), false⟩, rfl, y6, KvsR.known (s6 _ _ pa5) hra pma, KvsR.known (s6 _ _ ps5) hrs pms, fun H7 R eR1 eR2 hfree O7 but7 => ⟨rfl, ?_⟩⟩
          subst eR1
          have but57 : Same H5 H7 := fun b o hb => but7 b o (s6 b o hb) fun e => by rw [e, hy] at hb; cases hb
          have b7 : But x H H7 := b5.trans (Same.but but57)
          have outL : ∀ b o, H5 b = some o → b ∉ R.L := fun b o hb hm => by
            have hm : b = R.a ∨ b ∈ [R.l, R.s, R.g, R.e] := by simpa [RcA.L] using hm
            rcases hm with e | hm
            · rw [e, hy] at hb; cases hb
            · have := hfree b hm
              rw [s6 b o hb] at this
              cases this
          refine ⟨_, rfl, _, _, _, rfl, by rw [← eR2]; exact O7.ob, rfl, _, rfl, R, _, rv, rows, rfl, eR2, O7, hrv.but b7 hx, hwr, fun c hc H8 f8 O8 => ?_, fun part path he H8 d f8 hxp => ?_⟩
          · have s8 : Same H5 H8 := fun b o hb => f8 b o (but57 b o hb) (outL b o hb)
            have b8 : But x H H8 := b5.trans (Same.but s8)
            obtain ⟨ds, rfl, hchk, hsz⟩ := checkAll_ok hc
            have hwd : wts ds ≤ 30000 := by rw [wt_list] at hwr; omega
            have hrok := rowsOk_of _ 5 _ _ _ _ _ hchk (by decide)
            refine ⟨_, rfl, rv, ds, rfl, (hrv.but b8 hx).lst, hrok, hwd, fun p xs H9 s9 hp hp9 hdp => ?_⟩
            have x9 := s9 _ _ (s8 _ _ x5)
            refine ⟨_, rfl, x, C, dx, _, rfl, x9, pc.cls, pc.n4, (by show 3 < 1000; decide), ?_⟩
            have O9 := O8.mono s9
            have ob9 : H9 R.a = some (.ins R.C R.dx (rcF R ⟨ka.map (·.1), ks.map (·.1), false⟩ c)) := O9.ob
            have nRx : R.a ≠ x := fun e => by rw [e, x9] at ob9; simp [rcF] at ob9
            have nLx : R.l ≠ x := fun e => by have := O9.dl; rw [e, x9] at this; cases this
            have nSx : R.s ≠ x := fun e => by have := O9.ds; rw [e, x9] at this; cases this
            have nGx : R.g ≠ x := fun e => by have := O9.dg; rw [e, x9] at this; cases this
            have npx : p ≠ x := fun e => by rw [e, x9] at hp9; cases hp9
            have b10 : But x H9 (upd H9 x (.ins C dx (putF "row_list" (.ref p) [("ask_table", .ref pa), ("signal_table", .ref ps), ("input_words", iv)]))) := (Same.but fun _ _ z => z).upd
            have x10 : upd H9 x (.ins C dx (putF "row_list" (.ref p) [("ask_table", .ref pa), ("signal_table", .ref ps), ("input_words", iv)])) x = some (.ins C dx [("ask_table", .ref pa), ("signal_table", .ref ps), ("input_words", iv), ("row_list", .ref p)]) := upd_same
            revert b10 x10
            generalize upd H9 x (.ins C dx _) = H10
            intro b10 x10
            obtain ⟨z1, z2, z3⟩ := sizes_small hsz
            refine ⟨_, rfl, R.a, R.C, R.dx, _, _, rfl, b10 _ _ ob9 nRx, eR2 ▸ rc.cls, eR2 ▸ rc.n5, rfl, tyV_dK (b10 _ _ O9.dl nLx), R.l, dkT c.labels, rfl, rfl, .inl (b10 _ _ O9.dl nLx), fun q0 hq0 => ?_⟩
            refine ⟨q0, R.l, dkT c.labels, c.labels, rfl, upd_same, .inl (Same.new hq0 _ _ (b10 _ _ O9.dl nLx)), dkT_keys c.labels, by omega, fun y0 l0 perm0 sort0 hl0 => ?_⟩
            have s10 := (Same.new (o := keysO q0 R.l) hq0).trans (Same.new (o := .lst (y0.map V.str)) hl0)
            have el0 := at_new (o := .lst (y0.map V.str)) hl0
            have free0 : H10 l0 = none := (Same.new (o := keysO q0 R.l) hq0).free hl0
            revert s10 el0
            generalize upd (upd H10 q0 _) l0 _ = G0
            intro s10 el0
            refine ⟨_, rfl, x, C, dx, _, rfl, s10 _ _ x10, pc.cls, pc.n5, (by show 4 < 1000; decide), ?_⟩
            have b11 : But x H9 (upd G0 x (.ins C dx (putF "label_names" (.ref l0) [("ask_table", .ref pa), ("signal_table", .ref ps), ("input_words", iv), ("row_list", .ref p)]))) := (b10.trans (Same.but s10)).upd
            have x11 : upd G0 x (.ins C dx (putF "label_names" (.ref l0) [("ask_table", .ref pa), ("signal_table", .ref ps), ("input_words", iv), ("row_list", .ref p)])) x = some (.ins C dx [("ask_table", .ref pa), ("signal_table", .ref ps), ("input_words", iv), ("row_list", .ref p), ("label_names", .ref l0)]) := upd_same
            have nl0 : l0 ≠ x := fun e => by rw [e, x10] at free0; cases free0
            have c10 : But x H10 (upd G0 x (.ins C dx (putF "label_names" (.ref l0) [("ask_table", .ref pa), ("signal_table", .ref ps), ("input_words", iv), ("row_list", .ref p)]))) := (Same.but s10).upd
            have fl0 : upd G0 x (.ins C dx (putF "label_names" (.ref l0) [("ask_table", .ref pa), ("signal_table", .ref ps), ("input_words", iv), ("row_list", .ref p)])) l0 = some (.lst (y0.map V.str)) := by rw [upd_ne nl0]; exact el0
            revert b11 x11 c10 fl0
            generalize upd G0 x (.ins C dx _) = H11
            intro b11 x11 c10 fl0
            refine ⟨_, rfl, R.a, R.C, R.dx, _, _, rfl, b11 _ _ ob9 nRx, eR2 ▸ rc.cls, eR2 ▸ rc.n6, rfl, tyV_dK (b11 _ _ O9.ds nSx), R.s, dkT c.slots, rfl, rfl, .inl (b11 _ _ O9.ds nSx), fun q1 hq1 => ?_⟩
            refine ⟨q1, R.s, dkT c.slots, c.slots, rfl, upd_same, .inl (Same.new hq1 _ _ (b11 _ _ O9.ds nSx)), dkT_keys c.slots, by omega, fun y1 l1 perm1 sort1 hl1 => ?_⟩
            have s11 := (Same.new (o := keysO q1 R.s) hq1).trans (Same.new (o := .lst (y1.map V.str)) hl1)
            have el1 := at_new (o := .lst (y1.map V.str)) hl1
            have free1 : H11 l1 = none := (Same.new (o := keysO q1 R.s) hq1).free hl1
            revert s11 el1
            generalize upd (upd H11 q1 _) l1 _ = G1
            intro s11 el1
            refine ⟨_, rfl, x, C, dx, _, rfl, s11 _ _ x11, pc.cls, pc.n6, (by show 5 < 1000; decide), ?_⟩
            have b12 : But x H9 (upd G1 x (.ins C dx (putF "slot_names" (.ref l1) [("ask_table", .ref pa), ("signal_table", .ref ps), ("input_words", iv), ("row_list", .ref p), ("label_names", .ref l0)]))) := (b11.trans (Same.but s11)).upd
            have x12 : upd G1 x (.ins C dx (putF "slot_names" (.ref l1) [("ask_table", .ref pa), ("signal_table", .ref ps), ("input_words", iv), ("row_list", .ref p), ("label_names", .ref l0)])) x = some (.ins C dx [("ask_table", .ref pa), ("signal_table", .ref ps), ("input_words", iv), ("row_list", .ref p), ("label_names", .ref l0), ("slot_names", .ref l1)]) := upd_same
            have nl1 : l1 ≠ x := fun e => by rw [e, x11] at free1; cases free1
            have c11 : But x H11 (upd G1 x (.ins C dx (putF "slot_names" (.ref l1) [("ask_table", .ref pa), ("signal_table", .ref ps), ("input_words", iv), ("row_list", .ref p), ("label_names", .ref l0)]))) := (Same.but s11).upd
            have fl1 : upd G1 x (.ins C dx (putF "slot_names" (.ref l1) [("ask_table", .ref pa), ("signal_table", .ref ps), ("input_words", iv), ("row_list", .ref p), ("label_names", .ref l0)])) l1 = some (.lst (y1.map V.str)) := by rw [upd_ne nl1]; exact el1
            revert b12 x12 c11 fl1
            generalize upd G1 x (.ins C dx _) = H12
            intro b12 x12 c11 fl1
            refine ⟨_, rfl, R.a, R.C, R.dx, _, _, rfl, b12 _ _ ob9 nRx, eR2 ▸ rc.cls, eR2 ▸ rc.n7, rfl, tyV_dK (b12 _ _ O9.dg nGx), R.g, dkT c.gates, rfl, rfl, .inl (b12 _ _ O9.dg nGx), fun q2 hq2 => ?_⟩
            refine ⟨q2, R.g, dkT c.gates, c.gates, rfl, upd_same, .inl (Same.new hq2 _ _ (b12 _ _ O9.dg nGx)), dkT_keys c.gates, by omega, fun y2 l2 perm2 sort2 hl2 => ?_⟩
            have s12 := (Same.new (o := keysO q2 R.g) hq2).trans (Same.new (o := .lst (y2.map V.str)) hl2)
            have el2 := at_new (o := .lst (y2.map V.str)) hl2
            have free2 : H12 l2 = none := (Same.new (o := keysO q2 R.g) hq2).free hl2
            revert s12 el2
            generalize upd (upd H12 q2 _) l2 _ = G2
            intro s12 el2
            refine ⟨_, rfl, x, C, dx, _, rfl, s12 _ _ x12, pc.cls, pc.n7, (by show 6 < 1000; decide), ?_⟩
            have b13 : But x H9 (upd G2 x (.ins C dx (putF "gate_names" (.ref l2) [("ask_table", .ref pa), ("signal_table", .ref ps), ("input_words", iv), ("row_list", .ref p), ("label_names", .ref l0), ("slot_names", .ref l1)]))) := (b12.trans (Same.but s12)).upd
            have x13 : upd G2 x (.ins C dx (putF "gate_names" (.ref l2) [("ask_table", .ref pa), ("signal_table", .ref ps), ("input_words", iv), ("row_list", .ref p), ("label_names", .ref l0), ("slot_names", .ref l1)])) x = some (.ins C dx [("ask_table", .ref pa), ("signal_table", .ref ps), ("input_words", iv), ("row_list", .ref p), ("label_names", .ref l0), ("slot_names", .ref l1), ("gate_names", .ref l2)]) := upd_same
            have nl2 : l2 ≠ x := fun e => by rw [e, x12] at free2; cases free2
            have c12 : But x H12 (upd G2 x (.ins C dx (putF "gate_names" (.ref l2) [("ask_table", .ref pa), ("signal_table", .ref ps), ("input_words", iv), ("row_list", .ref p), ("label_names", .ref l0), ("slot_names", .ref l1)]))) := (Same.but s12).upd
            have fl2 : upd G2 x (.ins C dx (putF "gate_names" (.ref l2) [("ask_table", .ref pa), ("signal_table", .ref ps), ("input_words", iv), ("row_list", .ref p), ("label_names", .ref l0), ("slot_names", .ref l1)])) l2 = some (.lst (y2.map V.str)) := by rw [upd_ne nl2]; exact el2
            revert b13 x13 c12 fl2
            generalize upd G2 x (.ins C dx _) = H13
            intro b13 x13 c12 fl2
            intro rt hrt
            refine ⟨_, rfl, x, C, dx, _, rfl, Same.new hrt _ _ x13, pc.cls, pc.n8, (by show 7 < 1000; decide), ?_⟩
            have nrt : rt ≠ x := fun e => by rw [e, x13] at hrt; cases hrt
            have c13 : But x H13 (upd (upd H13 rt (.dT [])) x (.ins C dx (putF "row_table" (.ref rt) [("ask_table", .ref pa), ("signal_table", .ref ps), ("input_words", iv), ("row_list", .ref p), ("label_names", .ref l0), ("slot_names", .ref l1), ("gate_names", .ref l2)]))) := (Same.but (Same.new hrt)).upd
            have x14 : upd (upd H13 rt (.dT [])) x (.ins C dx (putF "row_table" (.ref rt) [("ask_table", .ref pa), ("signal_table", .ref ps), ("input_words", iv), ("row_list", .ref p), ("label_names", .ref l0), ("slot_names", .ref l1), ("gate_names", .ref l2)])) x = some (.ins C dx [("ask_table", .ref pa), ("signal_table", .ref ps), ("input_words", iv), ("row_list", .ref p), ("label_names", .ref l0), ("slot_names", .ref l1), ("gate_names", .ref l2), ("row_table", .ref rt)]) := upd_same
            have ert : upd (upd H13 rt (.dT [])) x (.ins C dx (putF "row_table" (.ref rt) [("ask_table", .ref pa), ("signal_table", .ref ps), ("input_words", iv), ("row_list", .ref p), ("label_names", .ref l0), ("slot_names", .ref l1), ("gate_names", .ref l2)])) rt = some (.dT []) := by rw [upd_ne nrt]; exact upd_same
            revert c13 x14 ert
            generalize upd (upd H13 rt (.dT [])) x (.ins C dx _) = H14
            intro c13 x14 ert
            intro lz hlz
            refine ⟨_, rfl, x, C, dx, _, rfl, Same.new hlz _ _ x14, pc.cls, pc.n9, (by show 8 < 1000; decide), ?_⟩
            have nlz : lz ≠ x := fun e => by rw [e, x14] at hlz; cases hlz
            have c14 : But x H14 (upd (upd H14 lz (.dT [])) x (.ins C dx (putF "list_sizes" (.ref lz) [("ask_table", .ref pa), ("signal_table", .ref ps), ("input_words", iv), ("row_list", .ref p), ("label_names", .ref l0), ("slot_names", .ref l1), ("gate_names", .ref l2), ("row_table", .ref rt)]))) := (Same.but (Same.new hlz)).upd
            have x15 : upd (upd H14 lz (.dT [])) x (.ins C dx (putF "list_sizes" (.ref lz) [("ask_table", .ref pa), ("signal_table", .ref ps), ("input_words", iv), ("row_list", .ref p), ("label_names", .ref l0), ("slot_names", .ref l1), ("gate_names", .ref l2), ("row_table", .ref rt)])) x = some (.ins C dx [("ask_table", .ref pa), ("signal_table", .ref ps), ("input_words", iv), ("row_list", .ref p), ("label_names", .ref l0), ("slot_names", .ref l1), ("gate_names", .ref l2), ("row_table", .ref rt), ("list_sizes", .ref lz)]) := upd_same
            have elz : upd (upd H14 lz (.dT [])) x (.ins C dx (putF "list_sizes" (.ref lz) [("ask_table", .ref pa), ("signal_table", .ref ps), ("input_words", iv), ("row_list", .ref p), ("label_names", .ref l0), ("slot_names", .ref l1), ("gate_names", .ref l2), ("row_table", .ref rt)])) lz = some (.dT []) := by rw [upd_ne nlz]; exact upd_same
            revert c14 x15 elz
            generalize upd (upd H14 lz (.dT [])) x (.ins C dx _) = H15
            intro c14 x15 elz
            refine ⟨_, rfl, x, dx, _, rfl, x15, rfl, _, rfl, x, C, dx, _, _, rfl, x15, pc.cls, pc.n4, rfl, sz_lit (by show 0 ≤ 100000; decide), fun e0 he0 => ?_⟩
            have s15 := Same.new (o := .tup []) he0
            have l15 := at_new (o := .tup []) he0
            revert s15 l15
            generalize upd H15 e0 _ = H16
            intro s15 l15
            have b14 : But x H9 H14 := b13.trans c13
            have b15 : But x H9 H15 := b14.trans c14
            have b16 : But x H9 H16 := b15.trans (Same.but s15)
            have bH : But x H H16 := (b8.trans (Same.but s9)).trans b16
            have lst16 : ∀ b, LstAt H b → LstAt H16 b := fun b hb => by
              obtain ⟨zs, hz⟩ := hb
              exact ⟨zs, bH b _ hz fun e => by rw [e, hx] at hz; cases hz⟩
            have nS : ∀ b, b ≠ x → ∀ G, But x H G → G b = none → ¬ LstAt H b := fun b hb G hG hn hl => by
              obtain ⟨zs, hz⟩ := hl
              rw [hG b _ hz hb] at hn
              cases hn
            have nxS : ¬ LstAt H x := fun hl => by obtain ⟨zs, hz⟩ := hl; rw [hx] at hz; cases hz
            have b9H : But x H H9 := b8.trans (Same.but s9)
            have npS : ¬ LstAt H p := nS p npx H8 b8 hp
            have nrtS : ¬ LstAt H rt := nS rt nrt H13 (b9H.trans b13) hrt
            have nlzS : ¬ LstAt H lz := nS lz nlz H14 (b9H.trans b14) hlz
            have nl0S : ¬ LstAt H l0 := nS l0 nl0 H10 (b9H.trans b10) free0
            have nl1S : ¬ LstAt H l1 := nS l1 nl1 H11 (b9H.trans b11) free1
            have nl2S : ¬ LstAt H l2 := nS l2 nl2 H12 (b9H.trans b12) free2
            have kp16 : Kp H9 H16 := b16.kp x9
            have hdp16 : DpAll K (cutH (LstAt H) H16) xs ds := by
              refine DpAll.kp (cut_kpS kp16) (DpAll.mono (cut_sub fun b hb => ?_) hdp)
              obtain ⟨zs, hz⟩ := hb
              exact .inl ⟨zs, b8 b _ hz fun e => by rw [e, hx] at hz; cases hz⟩
            have row16 : Dp K (cutH (LstAt H) H16) (.ref p) (.list ds) := .lst (.inl (.inl (by rw [cut_not npS]; exact b16 _ _ hp9 npx))) hdp16
            have nrl : rt ≠ lz := fun e => by rw [← e, ert] at hlz; cases hlz
            have tb16 : TB K (cutH (LstAt H) H16) ⟨x, C, dx, rt, lz, [("ask_table", .ref pa), ("signal_table", .ref ps), ("input_words", iv), ("row_list", .ref p), ("label_names", .ref l0), ("slot_names", .ref l1), ("gate_names", .ref l2), ("row_table", .ref rt), ("list_sizes", .ref lz)]⟩ ([], []) := ⟨by rw [cut_not nxS]; exact s15 _ _ x15, rfl, rfl, rfl, ⟨[], by rw [cut_not nrtS]; exact s15 _ _ (c14 _ _ ert nrt), trivial⟩, by rw [cut_not nlzS]; exact s15 _ _ elz, nrl⟩
            refine ⟨LstAt H, ⟨x, C, dx, rt, lz, [("ask_table", .ref pa), ("signal_table", .ref ps), ("input_words", iv), ("row_list", .ref p), ("label_names", .ref l0), ("slot_names", .ref l1), ("gate_names", .ref l2), ("row_table", .ref rt), ("list_sizes", .ref lz)]⟩, ([], []), p, e0, ds, [], 0, rfl, rfl, tb16, row16, hrok, l15, by decide, ⟨Nat.le_refl _, Nat.le_refl _⟩, by omega, fun H17 fr17 tb17 => ?_⟩
            have kp17 : Kp H16 H17 := (tb16.mono cut_all).kp fr17
            have at17 : ∀ b o, H16 b = some o → b ≠ rt → b ≠ lz → H17 b = some o := fun b o hb h1 h2 => fr17 b o hb fun m => by
              rcases List.mem_cons.mp m with e | m
              · exact h1 e
              · exact h2 (List.mem_singleton.mp m)
            have bH17 : But x H H17 := fun b o hb hn => at17 b o (bH b o hb hn) (fun e => by rw [e] at hb; have := (b9H.trans b13) rt o hb nrt; rw [this] at hrt; cases hrt) (fun e => by rw [e] at hb; have := (b9H.trans b14) lz o hb nlz; rw [this] at hlz; cases hlz)
            have lst17 : ∀ b, LstAt H b → LstAt H17 b := fun b hb => by
              obtain ⟨zs, hz⟩ := hb
              exact ⟨zs, bH17 b _ hz fun e => by rw [e, hx] at hz; cases hz⟩
            have s59 : Same H5 H9 := s8.trans s9
            have pa9 := s59 _ _ pa5
            have ps9 := s59 _ _ ps5
            have nrta : pa ≠ rt := fun e => by have := b13 _ _ pa9 nxa; rw [e, hrt] at this; cases this
            have nlza : pa ≠ lz := fun e => by have := b14 _ _ pa9 nxa; rw [e, hlz] at this; cases this
            have nrts : ps ≠ rt := fun e => by have := b13 _ _ ps9 nxs; rw [e, hrt] at this; cases this
            have nlzs : ps ≠ lz := fun e => by have := b14 _ _ ps9 nxs; rw [e, hlz] at this; cases this
            have pa17 : H17 pa = some (.dK wsa) := at17 _ _ (b16 _ _ pa9 nxa) nrta nlza
            have ps17 : H17 ps = some (.dK wss) := at17 _ _ (b16 _ _ ps9 nxs) nrts nlzs
            have dS : ∀ b kv, H17 b = some (.dK kv) → ¬ LstAt H b := fun b kv hb hl => by
              obtain ⟨zs, hz⟩ := lst17 b hl
              rw [hb] at hz
              cases hz
            have k517 : Kp H5 H17 := (s59.kp.trans kp16).trans kp17
            have k117 : Kp H1 H17 := fun b o hb ho => by
              have hbx : b ≠ x := fun e => by rw [e, s1 _ _ hx] at hb; cases hb; cases ho
              exact k517 b o (b25 b o (b12' b o hb hbx) hbx) ho
            have k317 : Kp H3 H17 := fun b o hb ho => by
              have hbx : b ≠ x := fun e => by rw [e, s3 _ _ x2] at hb; cases hb; cases ho
              exact k517 b o (b35 b o hb hbx) ho
            have noA : ∀ q ∈ kva, noL q.2 = true := fun q hq => noL_words (okTab_mem hka q (pma.mem_iff.mp hq))
            have noB : ∀ q ∈ kvs, noL q.2 = true := fun q hq => noL_box (okTab_mem hks q (pms.mem_iff.mp hq))
            refine k1 ka ks ds c hka hks hi rfl hc H17 ⟨x, C, dx, pa, ps, p, l0, l1, l2, rt, lz, iv⟩ kva kvs y0 y1 y2 bH17 rfl rfl pma srta pms srts perm0 sort0 perm1 sort1 perm2 sort2 hpa (by
              cases z : H ps with
              | none => rfl
              | some o => rw [b2 _ _ z nxs] at hps; cases hps) ?_
            refine ⟨by rw [cut_not nxS]; exact at17 _ _ (s15 _ _ x15) nrt.symm nlz.symm, ⟨wsa, by rw [cut_not (dS _ _ pa17)]; exact pa17, (hra.mono k117).cutN lst17 noA⟩, ⟨wss, by rw [cut_not (dS _ _ ps17)]; exact ps17, (hrs.mono k317).cutN lst17 noB⟩, noL_cut lst17 (hiv.kp (bH17.kp hx)) (noL_words hi), ?_, ?_, ?_, ?_, tb17⟩
            · exact row16.kp (cut_kpS kp17)
            · show cutH (LstAt H) H17 l0 = _
              rw [cut_not nl0S]
              exact kp17 _ _ (s15 _ _ (c14 _ _ (c13 _ _ (c12 _ _ (c11 _ _ fl0 nl0) nl0) nl0) nl0)) rfl
            · show cutH (LstAt H) H17 l1 = _
              rw [cut_not nl1S]
              exact kp17 _ _ (s15 _ _ (c14 _ _ (c13 _ _ (c12 _ _ fl1 nl1) nl1) nl1)) rfl
            · show cutH (LstAt H) H17 l2 = _
              rw [cut_not nl2S]
              exact kp17 _ _ (s15 _ _ (c14 _ _ (c13 _ _ fl2 nl2) nl2)) rfl
          · refine k2 part path he H8 d (fun b o hb hn => ?_) hxp
            have hbx : b ≠ x := fun e => hn (by rw [e]; exact List.mem_cons_self)
            have h5 := b5 b o hb hbx
            exact f8 b o (but57 b o h5) (outL b o h5)
        · simp only [hi, if_false, Bool.false_eq_true] at k2
          exact k2 _ _ rfl H5 d (fun b o hb hn => s5 b o (b4 b o hb fun e => hn (by rw [e]; exact List.mem_cons_self))) hxp
      · rw [hn] at k2
        exact k2 _ _ rfl H3 d (fun b o hb hn => f3 b o (b2 b o hb fun e => hn (by rw [e]; exact List.mem_cons_self)) fun m => hn (List.mem_cons_of_mem _ (List.mem_append_right _ m))) hxp
    · rw [hn] at k2
      exact k2 _ _ rfl H1 d (fun b o hb hn => f1 b o hb fun m => hn (List.mem_cons_of_mem _ (List.mem_append_left _ m))) hxp
end
end Op
namespace L2
open PySem PySem.Spec PyProof.Rows
/-! ### sorted, where the tuples of ints stand in order already -/
def sh0 : Nat → Bool := fun _ => false
abbrev pK (k : List Int) : List (Int ⊕ List Nat) := k.map Sum.inl
def pLt (a b : List Int) : Bool := PyProof.Rows.lexLt PyProof.Rows.itemOrd (pK a) (pK b)
theorem perm_same {α : Type} {R : α → α → Bool} (hi : ∀ a, R a a = false) : ∀ {l2 l1 : List α}, l1.Perm l2 → l2.Pairwise (fun a b => R a b = true) → l1.Pairwise (fun a b => R b a = false) → l1 = l2
  | [], l1, hp, _, _ => List.Perm.eq_nil hp
  | b :: t, [], hp, _, _ => absurd hp.length_eq (by simp)
  | b :: t, a :: s, hp, h2, h1 => by
    obtain ⟨hb, ht⟩ := List.pairwise_cons.mp h2
    obtain ⟨ha, hs⟩ := List.pairwise_cons.mp h1
    have e : a = b := by
      rcases List.mem_cons.mp (hp.mem_iff.mp (List.mem_cons_self (a := a) (l := s))) with e | e
      · exact e
      · have hR := hb a e
        rcases List.mem_cons.mp (hp.mem_iff.mpr (List.mem_cons_self (a := b) (l := t))) with e' | e'
        · exact e'.symm
        · have := ha b e'
          rw [hR] at this
          cases this
    subst e
    rw [perm_same hi (List.perm_cons a |>.mp hp) ht hs]
def KeyAt (h : Heap) (v : Value) (k : List Int) : Prop := PyProof.Rows.G.tupKeyC h sh0 v = some (pK k)
def keyV (h : Heap) (v : Value) : List (Int ⊕ List Nat) := (PyProof.Rows.G.tupKeyC h sh0 v).getD []
theorem zip_self_eq {α : Type} {l : List α} {p : α × α} (h : p ∈ l.zip l) : p.1 = p.2 := (PyProof.Rows.mem_zip_self h).1
theorem zip_snd {α : Type} : ∀ l : List α, (l.zip l).map (·.2) = l
  | [] => rfl
  | a :: r => by rw [List.zip_cons_cons, List.map_cons, zip_snd r]
theorem sort_same {h : Heap} {vs : List Value} {ks : List (List Int)} (hv : Paired (KeyAt h) vs ks) (hs : ks.Pairwise fun a b => pLt a b = true) {arr : Array Keyed} (hp : arr.Perm (pairsOf vs)) (hk : SortedToK (PyProof.Rows.G.tupKindC h sh0) arr (pairsOf vs).size) : arr.map (·.2) = vs.toArray := by
  have hpl : arr.toList.Perm (vs.zip vs) := by
    have := Array.perm_iff_toList_perm.mp hp
    rw [pairsOf_toList] at this
    exact this
  have h1 : (arr.toList.map (·.2)).Perm vs := by
    have := hpl.map (·.2)
    rw [zip_snd] at this
    exact this
  have heq : ∀ p ∈ arr.toList, p.1 = p.2 := fun p hp' => zip_self_eq (hpl.mem_iff.mp hp')
  have hsz : (pairsOf vs).size = arr.toList.length := by rw [Array.length_toList]; exact hp.size_eq.symm
  have h2 : vs.Pairwise (fun a b => PyProof.Rows.lexLt PyProof.Rows.itemOrd (keyV h a) (keyV h b) = true) := by
    clear h1 hpl hk hp heq hsz
    induction hv with
    | nil => exact .nil
    | @cons a b l1 l2 hab t ih =>
      obtain ⟨p1, p2⟩ := List.pairwise_cons.mp hs
      refine List.pairwise_cons.mpr ⟨fun x hx => ?_, ih p2⟩
      obtain ⟨k, hk1, hk2⟩ : ∃ k ∈ l2, KeyAt h x k := by
        clear ih p1 p2 hs
        induction t with
        | nil => cases hx
        | @cons a' b' m1 m2 hab' t' ih' =>
          rcases List.mem_cons.mp hx with rfl | hx
          · exact ⟨b', List.mem_cons_self, hab'⟩
          · obtain ⟨k, q1, q2⟩ := ih' hx
            exact ⟨k, List.mem_cons_of_mem _ q1, q2⟩
      have := p1 k hk1
      unfold keyV
      rw [show PyProof.Rows.G.tupKeyC h sh0 a = _ from hab, show PyProof.Rows.G.tupKeyC h sh0 x = _ from hk2]
      exact this
  have h3 : (arr.toList.map (·.2)).Pairwise (fun a b => PyProof.Rows.lexLt PyProof.Rows.itemOrd (keyV h b) (keyV h a) = false) := by
    rw [List.pairwise_map, List.pairwise_iff_getElem]
    intro i j hi hj hij
    have := hk i j (Nat.le_of_lt hij) (by rw [hsz]; exact hj)
    have e : ∀ (i : Nat) (hi : i < arr.toList.length), KK (PyProof.Rows.G.tupKindC h sh0) arr i = keyV h (arr.toList[i].2) := fun i hi => by
      have g : arr[i]? = some arr.toList[i] := by rw [← Array.getElem?_toList, List.getElem?_eq_getElem hi]
      unfold KK
      rw [g]
      show (PyProof.Rows.G.tupKeyC h sh0 arr.toList[i].1).getD [] = _
      rw [heq _ (List.getElem_mem hi)]
      rfl
    rw [e i hi, e j hj] at this
    exact this
  have h4 := perm_same (R := fun a b => PyProof.Rows.lexLt PyProof.Rows.itemOrd (keyV h a) (keyV h b)) (fun a => PyProof.Rows.lex_irrefl _) h1 h2 h3
  apply Array.ext'
  rw [Array.toList_map, h4]
theorem items_ints : ∀ {k : List Int} {its : List Value} (i : Nat), Vals (k.map V.int) its → PyProof.Rows.tupItems sh0 i its = some (pK k)
  | [], [], i, .nil => rfl
  | n :: r, _ :: _, i, .cons h t => by
    obtain ⟨tk, rfl⟩ := h
    show (if sh0 i = true then none else (PyProof.Rows.tupItems sh0 (i + 1) _).map (Sum.inl n :: ·)) = _
    rw [items_ints (i + 1) t]
    rfl
theorem tup_key {h : Heap} {a : Addr} {k : List Int} {its : List Value} (hv : Vals (k.map V.int) its) (ht : IsTup h a its.toArray) : KeyAt h (.ref a) k := by
  obtain ⟨o, h1, h2, n, h3⟩ := ht
  exact PyProof.Rows.G.tupKeyC_of h1 h2 h3 (items_ints 0 hv)
theorem tup_first {h : Heap} {a : Addr} {k : List Int} {its : List Value} (hn : k ≠ []) (hv : Vals (k.map V.int) its) (ht : IsTup h a its.toArray) : ∃ f, PyProof.Rows.TupOf h sh0 (.ref a) f := by
  obtain ⟨o, h1, h2, n, h3⟩ := ht
  cases k with
  | nil => exact absurd rfl hn
  | cons x r =>
    cases hv with
    | cons hx t =>
      obtain ⟨tk, rfl⟩ := hx
      exact ⟨_, a, o, _, n, rfl, h1, h2, h3, rfl, fun _ => ⟨x, tk, rfl⟩, fun z => by cases z⟩
theorem tups_of {h : Heap} : ∀ {vs : List Value}, (∀ v ∈ vs, ∃ f, PyProof.Rows.TupOf h sh0 v f) → ∃ fs, PyProof.Rows.TupsOf h sh0 vs fs
  | [], _ => ⟨[], .nil⟩
  | v :: r, hv => by
    obtain ⟨f, hf⟩ := hv v List.mem_cons_self
    obtain ⟨fs, hfs⟩ := tups_of (vs := r) fun x hx => hv x (List.mem_cons_of_mem _ hx)
    exact ⟨f :: fs, .cons hf hfs⟩
theorem paired_all {h : Heap} {qs : List Addr} {ks : List (List Int)} (hq : Paired (fun (q : Addr) k => k ≠ [] ∧ ∃ its, Vals (k.map V.int) its ∧ IsTup h q its.toArray) qs ks) : Paired (KeyAt h) (qs.map Value.ref) ks ∧ ∀ v ∈ qs.map Value.ref, (∃ f, PyProof.Rows.TupOf h sh0 v f) ∧ ∃ l, PyProof.Rows.G.tupKeyC h sh0 v = some l := by
  induction hq with
  | nil => exact ⟨.nil, fun v hv => (List.not_mem_nil hv).elim⟩
  | @cons a b l1 l2 hab t ih =>
    obtain ⟨hn, its, h1, h2⟩ := hab
    have hk := tup_key h1 h2
    refine ⟨.cons hk ih.1, fun v hv => ?_⟩
    rcases List.mem_cons.mp hv with rfl | hv
    · exact ⟨tup_first hn h1 h2, _, hk⟩
    · exact ih.2 v hv
theorem vals_refs : ∀ qs : List Addr, Vals (qs.map V.ref) (qs.map Value.ref)
  | [] => .nil
  | q :: r => .cons rfl (vals_refs r)
section
variable {X : Cx} {pins : List (Addr × Obj)} {σ : St} {H : Hp} {s : Shared}
/-- tuples of ints at qs -/
abbrev TupsAt (H : Hp) : List Addr → List (List Int) → Prop := Paired fun q k => H q = some (.tup (k.map V.int))
theorem TupsAt.raw {h : Heap} {qs : List Addr} {ks : List (List Int)} (hok : HOk X.prog X.w H h) (hne : ∀ k ∈ ks, k ≠ []) (t : TupsAt H qs ks) : Paired (fun (q : Addr) k => k ≠ [] ∧ ∃ its, Vals (k.map V.int) its ∧ IsTup h q its.toArray) qs ks := by
  induction t with
  | nil => exact .nil
  | @cons a b l1 l2 hab t ih =>
    obtain ⟨_, its, r, tt⟩ := (show ObjOk X.prog X.w H h a (.tup (b.map V.int)) from hok a _ hab)
    exact .cons ⟨hne b List.mem_cons_self, its, r, tt⟩ (ih fun k hk => hne k (List.mem_cons_of_mem _ hk))
theorem raw_keep {h h' : Heap} {qs : List Addr} {ks : List (List Int)} (k : ∀ b o, h.get? b = some o → h'.get? b = some o) (t : Paired (fun (q : Addr) k => k ≠ [] ∧ ∃ its, Vals (k.map V.int) its ∧ IsTup h q its.toArray) qs ks) : Paired (fun (q : Addr) k => k ≠ [] ∧ ∃ its, Vals (k.map V.int) its ∧ IsTup h' q its.toArray) qs ks := by
  induction t with
  | nil => exact .nil
  | cons hab t ih =>
    obtain ⟨h1, its, h2, o, h3, h4⟩ := hab
    exact .cons ⟨h1, its, h2, o, k _ _ h3, h4⟩ ih
end
section
variable {X : Cx}
/-- sorted(xs), xs a list of tuples of ints in order: the same again -/
def rSortTs (K : PySem.W.Frag) : List V → Hp → VK → Prop := fun vs H Q => ∃ (a : Addr) (qs : List Addr) (ks : List (List Int)), vs = [.ref a] ∧ H a = some (.lst (qs.map V.ref)) ∧ TupsAt H qs ks ∧ (∀ k ∈ ks, k ≠ []) ∧ (ks.Pairwise fun a b => pLt a b = true) ∧
  ∀ p, H p = none → Q (.ref p) (upd H p (.lst (qs.map V.ref)))
theorem call_sortT : CallR X (.builtin "sorted") (rSortTs X.K) := by
  intro pins s σ H vs us Q I r h
  obtain ⟨a, qs, ks, rfl, hs, ht, hne, hp, q⟩ := h
  obtain ⟨its, rv, hl, hz⟩ := I.list (.inl (.inl hs))
  rw [Vals.ref1 r]
  obtain rfl : its = qs.map Value.ref := by
    clear hl hz hs ht q
    induction qs generalizing its with
    | nil => cases rv; rfl
    | cons b t ih =>
      cases rv with
      | cons h1 h2 =>
        rw [List.map_cons, ← ih _ h2]
        exact congrArg (· :: _) h1
  have raw := TupsAt.raw (X := X) I.hok hne ht
  obtain ⟨g1, g2⟩ := paired_all raw
  obtain ⟨fs, hfs⟩ := tups_of fun v hv => (g2 v hv).1
  refine PyProof.Rows.G.sorted_tups hl.isList hfs (fun v hv => (g2 v hv).2) (by rw [← rv.length]; exact hz) fun st' hp' hs' _ => ?_
  rw [sort_same g1 hp hp' hs']
  obtain ⟨ep, he'⟩ := PyProof.Rows.sortedAll_at s.heap (qs.map Value.ref) (qs.map Value.ref).toArray
  exact ⟨.ref _, upd H (s.heap.objs.size + 1) (.lst (qs.map V.ref)), I.laid (t' := s.toks) (fun _ _ => PyProof.Rows.sortedAll_old) (Nat.le_succ _) ⟨by rw [rv.length]; exact rv.length ▸ hz, qs.map Value.ref, ep, vals_refs qs, he'⟩, rfl, q _ (I.hok.fresh (Nat.le_succ _))⟩
end
end L2
namespace L2
open PySem PySem.Spec PyProof.Rows
section
variable {prog : Program} {w : World}
theorem meetsKeys {d : Addr} {es : Array DictEntry} {ep : Nat} (hd : (d == sysModules) = false) :
    MeetsIn prog w (Builtin.«dict.keys» ⟨[.ref d], []⟩) (fun _ R s => s.heap.DictRaw d es ep ∧
      R (.ok (.ret (.ref s.heap.objs.size))) { s with heap := s.heap.push { cls := .type "dict_keys", data := .fields #[.ref d] } }) :=
  .of_wp fun A R s ⟨hm, h⟩ => by
    unfold Builtin.«dict.keys»
    refine wpAny_bind ?_
    unfold Builtin.Dict.noArgs
    refine wpAny_bind (wpAny_notOrdered_dict hm.typeIs ?_)
    show wpAny _ _ (pure d) _ _ s
    refine wpAny_pure ?_
    show wpAny _ _ (Builtin.Dict.showsAll d >>= _) _ _ s
    unfold Builtin.Dict.showsAll
    rw [if_neg (by rw [hd]; exact Bool.false_ne_true)]
    refine wpAny_bind (wpAny_pure ?_)
    exact wpAny_bind (wpAny_newObj_type (wpAny_pure ⟨_, rfl, h⟩))
end
section
variable {X : Cx}
def rKeysVT : V → List V → Hp → VK → Prop := fun x xs H Q => ∃ (a : Addr) (kvs : List (List Key × V)), x = .ref a ∧ xs = [] ∧ Rd H a (.dT kvs) ∧ ∀ p, H p = none → Q (.ref p) (upd H p (keysO p a))
theorem mt_keysVT : MtR X "dict.keys" rKeysVT := by
  intro pins s σ H x xs v us Q I rx rxs h
  obtain ⟨a, kvs, rfl, rfl, ha, q⟩ := h
  cases rx
  cases rxs
  obtain ⟨z, hd, xs', rel, o, es, ep, ho, hx, hdat, _⟩ := dt_rd I.hok ha
  have hf : H s.heap.objs.size = none := I.hok.fresh (Nat.le_refl _)
  refine call_meetsIn PySem.F.slot_dict_keys (Heap.DictRaw.typeIs (es := es) (ep := ep) ⟨o, ho, hx, hdat⟩) PySem.F.entry_dict_keys (PySem.F.args_dict_keys_1 _) (meetsKeys (es := es) (ep := ep) hd) ⟨⟨o, ho, hx, hdat⟩, ?_⟩
  exact ⟨.ref s.heap.objs.size, upd H s.heap.objs.size (keysO s.heap.objs.size a), I.laid (t' := s.toks) (fun b u e => Heap.get?_push_of_some _ e) (Nat.le_refl _) (keysO_ok (Heap.get?_push_size _ rfl)), rfl, q _ hf⟩
theorem kt_tups {H : Hp} : ∀ {kvs : List (List Key × V)} {xs : List (List Key × Addr × Value)} {ks : List (List Int)}, KT H kvs xs → kvs.map (·.1) = ks.map (fun k => k.map Sum.inl) → TupsAt H (xs.map fun x => x.2.1) ks
  | [], [], ks, .nil, e => by
    cases ks with
    | nil => exact .nil
    | cons _ _ => cases e
  | p :: l, q :: m, ks, .cons h t, e => by
    cases ks with
    | nil => cases e
    | cons k r =>
      injection e with e1 e2
      refine .cons ?_ (kt_tups t e2)
      have h2 := h.2.1
      have e1 : p.1 = k.map Sum.inl := e1
      rw [e1, List.map_map] at h2
      exact h2
/-- sorted(d.keys()), the keys tuples of ints in order -/
def rSortKVT : List V → Hp → VK → Prop := fun xs H Q => ∃ (p a : Addr) (kvs : List (List Key × V)) (ks : List (List Int)), xs = [.ref p] ∧ H p = some (keysO p a) ∧ Rd H a (.dT kvs) ∧ kvs.map (·.1) = ks.map (fun k => k.map Sum.inl) ∧ (∀ k ∈ ks, k ≠ []) ∧ (ks.Pairwise fun a b => pLt a b = true) ∧
    ∀ (qs : List Addr) (q : Addr), TupsAt H qs ks → H q = none → Q (.ref q) (upd H q (.lst (qs.map V.ref)))
theorem call_sortedKVT (hcalm : X.calm = true) : CallR X (.builtin "sorted") rSortKVT := by
  intro pins s σ H xs us Q I r q
  obtain ⟨p, a, kvs, ks, rfl, hp, hd, hks, hne, hpw, q⟩ := q
  obtain ⟨u, rfl, rx⟩ := vals1 r
  cases rx
  have hview : PySem.W.KdlKeysView s.heap p a := (I.hok p _ hp).1
  obtain ⟨z, lo, vs, rel, o, es, ep, ho, hx, hdat, hes, _, _⟩ := dt_rd I.hok hd
  have hta := kt_tups rel hks
  have hvl : vs.length = kvs.length := by
    have := Paired.length rel
    exact this.symm
  have hsz : es.size = vs.length := by rw [← Array.length_toList, hes, List.length_map]
  refine Calls.call_function_entry PyProof.Rows.kind_sorted PyProof.Rows.plain_sorted PyProof.Rows.entry_sorted (PyProof.Rows.args_sorted1 _) ?_
  unfold Builtin.«sorted»
  refine wpAny_bind (m := checkCount "sorted" 1 1 _) (wpAny_pure ?_)
  refine wpAny_bind (PySem.W.kdu_collect (A := X.A.in1) (KdlSrc.rawKeys (r := p) (d := a) (es := es) (ep := ep)) (I.ok.hd hcalm) ⟨hview, ⟨o, ho, hx, hdat⟩⟩ (by rw [hsz, hvl]; exact z) fun h' tk acc hk hacc => ?_)
  have hacl : acc.toList = (vs.map fun x => x.2.1).map Value.ref := by
    refine List.ext_getElem? fun j => ?_
    rw [List.map_map, List.getElem?_map]
    by_cases hj : j < acc.size
    · have hj2 : j < vs.length := by rw [← hsz, ← hacc.1]; exact hj
      obtain ⟨hi, ev⟩ := hacc.2 j acc[j] (Array.getElem?_eq_getElem hj)
      rw [Array.getElem?_toList, Array.getElem?_eq_getElem hj, List.getElem?_eq_getElem hj2, ev]
      have : es[j]? = some (entryOfKey (tupleKind (mixKind X.prog X.w)) vs[j]) := by
        rw [← Array.getElem?_toList, hes, List.getElem?_map, List.getElem?_eq_getElem hj2]
        rfl
      rw [Array.getElem?_eq_getElem hi] at this
      rw [Option.some.inj this]
      rfl
    · rw [Array.getElem?_toList, Array.getElem?_eq_none (by omega), List.getElem?_eq_none (by have := hacc.1; omega)]
      rfl
  rw [hacl]
  generalize (vs.map fun x => x.2.1) = qs at hta hacl
  have hql : qs.length = kvs.length := by
    have h1 := congrArg List.length hacl
    rw [Array.length_toList, List.length_map, hacc.1, hsz, hvl] at h1
    exact h1.symm
  have I1 : Inv X pins σ H { s with heap := h', toks := tk } := I.kept hk
  refine wpAny_bind (wpAny_newList ?_ (by rw [List.length_map, hql]; exact z))
  have hoL : (h'.push (seqObj "list" (qs.map Value.ref).toArray 0)).get? h'.objs.size = some (seqObj "list" (qs.map Value.ref).toArray 0) := Heap.get?_push_size _ rfl
  show wpAny _ _ _ _ _ { s with heap := h'.push (seqObj "list" (qs.map Value.ref).toArray 0), toks := tk }
  have raw := raw_keep (h' := h'.push (seqObj "list" (qs.map Value.ref).toArray 0)) (fun b o e => Heap.get?_push_of_some _ e) (TupsAt.raw (X := X) I1.hok hne hta)
  obtain ⟨g1, g2⟩ := paired_all raw
  obtain ⟨fs, hfs⟩ := tups_of fun v hv => (g2 v hv).1
  refine wpAny_bind (wpAny_holding (wpAny_call_entry PyProof.Rows.slot_list_sort ⟨_, hoL, rfl⟩ PyProof.Rows.entry_list_sort
    (PyProof.Rows.G.list_sort_tups (s := { s with heap := h'.push (seqObj "list" (qs.map Value.ref).toArray 0), toks := tk }) hoL hfs (fun v hv => (g2 v hv).2) (by rw [List.length_map, hql]; exact z) fun st' hp' hs' _ => ⟨_, rfl, ?_⟩)
    (PyProof.Rows.args_list_sort _)))
  have hout := sort_same g1 hpw hp' hs'
  obtain ⟨e', he'⟩ := PyProof.Rows.sortedHeap_at (vs := qs.map Value.ref) (out := (arrOf st').map (·.2)) hoL
  rw [hout] at he'
  refine wpAny_pure ⟨_, rfl, .ref h'.objs.size, upd H h'.objs.size (.lst (qs.map V.ref)), I1.laid (t' := tk) (fun b u e => ?_) (Nat.le_refl _)
    (show ObjOk X.prog X.w _ _ _ (.lst (qs.map V.ref)) from ⟨by rw [List.length_map, hql]; exact z, qs.map Value.ref, e', vals_refs qs, by rw [hout]; exact he'⟩), rfl, q qs _ hta (I1.hok.fresh (Nat.le_refl _))⟩
  have hb : b < h'.objs.size := Heap.lt_size e
  rw [PyProof.Rows.sortedHeap_old (Nat.ne_of_lt hb) (by rw [size_push']; exact Nat.lt_succ_of_lt hb)]
  exact Heap.get?_push_of_some _ e
end
end L2
namespace L2
open PySem PySem.Spec PyProof.Rows
/-- isinstance(e, c), e the caught exception, with fields of its own -/
def rIsEd (K : PySem.W.Frag) (cls : Value) (d : Option Addr) (C a : Addr) : List V → Hp → VK → Prop := fun xs H Q => ∃ (c : V) (u : Value) (b : Bool) (dd : Addr) (fs : List (Str × V)), xs = [.ref a, c] ∧ ClsV c u ∧ cls = .ref C ∧ d = some dd ∧ H dd = some (.xd fs) ∧ PySem.W.kitOne K (.ref C) u = some b ∧ Q (.bl b) H
theorem call_isEd {X : Cx} {a C : Addr} {oe : Obj} {cls : Value} {d : Option Addr} {pn : List (Addr × Obj)} (T : XAsk X.K C) (hz : Zc cls d oe) (hf : ∃ vs, oe.data = .fields vs) : CallR (X.suite a ((a, oe) :: pn)) (.builtin "isinstance") (rIsEd X.K cls d C a) := by
  intro pins s σ H xs us Q I r h
  obtain ⟨c, u, b, dd, fs, rfl, k, ec, ed, ea, e, q⟩ := h
  obtain ⟨u1, u2, rfl, r1, r2⟩ := vals2 r
  have e2 := k.eq r2
  subst e2
  obtain rfl : u1 = Value.ref a := r1
  subst ec
  subst ed
  obtain ⟨ha, _⟩ := I.pin (a, oe) (List.mem_append_left _ List.mem_cons_self)
  obtain ⟨vs, hd⟩ := hf
  have hx : ObjOk X.prog X.w H s.heap dd (.xd fs) := I.hok dd _ ea
  obtain ⟨mA, hns, hr⟩ := hx
  obtain ⟨od, ho, hl⟩ := lookIn_ns hns
  have J : PySem.W.InstAt s.heap a oe C (some od) := ⟨ha, hz.1, by unfold PySem.W.notCls; rw [hd] <;> rfl, by rw [hz.2]; exact ho⟩
  obtain ⟨cd, hc, _⟩ := PySem.W.any_some T.hd
  exact PySem.W.kia_one (PySem.W.kitx_exc (by rw [hc]; rfl) T.hg T.hk T.hs T.ha T.hn T.ht T.hm) I.kIn J e (fun z => nomatch z) fun tk => ⟨.bl b, H, I.tok tk, rfl, q⟩
end L2
namespace L2
open PySem PySem.Spec PyProof.Rows
/-- as pmk_x; the context of the new exception is None -/
theorem pmk_xN {X : Cx} {x : Str} {C : Addr} {n k : Nat} {e : Expr} {es : List Expr} {ta : TA} {p pos : Pos} {gV : List V → List V → List (Str × V)} (M : XMk X.prog X.w X.K C n [] gV) (hr : Room k X.A) (hg : Gl X x) (hm : X.mg x = some (.ref C)) (kp : PySem.W.keepIn X.K (.ref C) = true) (rs : Raises X (.ref C)) (ha : PA X (e :: es) ta)
    (hdb : (x == ("__debug__" : Str)) = false := by decide) (he : starEach (e :: es) X.env = (false, eval e X.env) :: starEach es X.env := by rfl) (hpl : (backTo pos (starEach es X.env)).any (·.1) = false := by rfl) :
    L2N.PMk X (.Call (.Name x p) (e :: es) [] pos) (tXmk C n gV ta) := by
  intro pins s σ H Q I h
  refine wpAny_Call_Name_kw (ld_glob I hg hm ?_ hdb)
  refine PySem.W.callWith_K (h₀ := X.base) I.ok.mod.kin kp (thn (ha.run pos pins s σ H _ I h) fun us s1 ⟨vs, H1, I1, r1, l1, q1⟩ => ⟨I1.kIn, ?_⟩) he hpl
  show wpAny _ _ (call (.ref C) us) _ _ _
  refine wpAny_call (M _ s1 _ us [] vs [] r1 .nil (r1.length.symm.trans l1) rfl I1.kIn I1.xtop (by have := hr.dp; omega) fun h' tk' e' d mm O rel => ?_)
  obtain ⟨hp, g, dr, tk, os⟩ := s1
  obtain ⟨t1, hoe⟩ := O.obj
  obtain ⟨G', g1, g2⟩ := restrict h' fun b => decide (b ≠ e')
  have gk : ∀ b, b ≠ e' → G'.get? b = h'.get? b := fun b hb => g1 b (decide_eq_true hb)
  have ge : G'.get? e' = none := g2 e' (by simp)
  have old : ∀ b o, hp.get? b = some o → G'.get? b = some o := fun b o q => (gk b (Nat.ne_of_lt (Nat.lt_of_lt_of_le (Heap.lt_size q) O.new))).trans (O.keep b o q)
  have ob : ObjOk X.prog X.w (upd H1 d (.xd (gV vs []))) G' d (.xd (gV vs [])) := ⟨_, O.ns.at (fun o q => (gk d O.dne).trans q), rel⟩
  have J : Inv X pins σ (upd H1 d (.xd (gV vs []))) ⟨G', g, dr, tk', os⟩ := I1.laid (t' := tk') old O.dbig ob
  refine ⟨e', _, _, ⟨G', g, dr, tk', os⟩, _, .ref C, some d, rfl, J, fun b o q => ?_, ge, hoe, ⟨rfl, rfl, fun vs e => by cases e; rfl⟩, rfl, rfl, ?_, rfl, I1.bare, rs, q1 d (I1.hok.fresh O.dbig)⟩
  · by_cases hb : b = e'
    · have q' : G'.get? b = some o := q
      rw [hb, ge] at q'; cases q'
    · exact (gk b hb).symm.trans q
  · rw [upd_ne (Ne.symm O.dne)]
    exact I1.hok.fresh O.new
section
variable {P : Program} {w : World} {K : PySem.W.Frag} {mg : Str → Option Value} {base : Heap}
/-- as Fun.okX; what is let out has the context None -/
theorem Fun.okN {x qual : Str} {st : Stmt} {f : Addr} {fd : FuncData} {N ps : List Str} {k : Nat} {sp : Sp} (F : Fun K x qual st f fd) (S : FnScope N ps (defScope st)) (len : ∀ vs H Q E, sp vs H Q E → vs.length = ps.length)
    (hbody : ∀ (cdv : Value) (A : Around) (outer : List Env) (s : Shared) (H : Hp) (vs : List V) (Q : VK) (E : XK), Room k (A.deeper (envOfC qual (defScope st) s.heap.objs.size f cdv)) → sp vs H Q E →
      ∃ t, PSs (cxOf (L2N.CX P w) P w K mg base N qual (defScope st) f cdv A outer s H E) (defBody st) t ∧ t { nx := fun _ H' => Q .non H', rt := Q } (start N vs) H) : FnOk P w K mg base (L2N.CX P w) (k + 1) f fd ps sp := by
  obtain ⟨oc, od, kV, doc, pm, an, cdv, ct, osl, rfl, lk, hcd⟩ := F.ex
  exact fn_of lk hcd S len fun A outer s H vs Q E hr hsp => hbody cdv A outer s H vs Q E hr hsp
/-- as Fun.ok, for a call within an except suite -/
theorem Fun.okH {x qual : Str} {st : Stmt} {f : Addr} {fd : FuncData} {N ps : List Str} {k : Nat} {sp : Sp} (F : Fun K x qual st f fd) (S : FnScope N ps (defScope st)) (len : ∀ vs H Q E, sp vs H Q E → vs.length = ps.length)
    (hbody : ∀ (cdv : Value) (A : Around) (outer : List Env) (s : Shared) (H : Hp) (vs : List V) (Q : VK) (E : XK) (p : Addr × Obj), L2H.RoomH k (A.deeper (envOfC qual (defScope st) s.heap.objs.size f cdv)) → sp vs H Q E →
      ∃ t, PSs (L2H.cxH CX0 P w K mg base N qual (defScope st) f cdv A outer s H E p) (defBody st) t ∧ t { nx := fun _ H' => Q .non H', rt := Q } (start N vs) H) : L2H.FnH P w K mg base CX0 (k + 1) f fd ps sp := by
  obtain ⟨oc, od, kV, doc, pm, an, cdv, ct, osl, rfl, lk, hcd⟩ := F.ex
  exact L2H.fn_ofH lk hcd S len fun A outer s H vs Q E p _ hr hsp => hbody cdv A outer s H vs Q E p hr hsp
end
/-- what a callee may let out is taken, whatever the names hold -/
theorem passes_lenN {X : Cx} {W : WX} {E : XK} (tk : L2N.Takes X W) (hW : ∀ cls d σ H, σ.length = X.N.length → E cls d H → W cls d σ H) : Passes (L2N.CX X.prog X.w) X E :=
  fun _ σ _ _ e s' I c => tk e s' (L2N.XE.of_call I (fun cls d H' h => hW cls d σ H' I.len h) c)
theorem takes0N {X : Cx} : L2N.Takes X (fun _ _ _ _ => False) := fun _ _ x => by
  obtain ⟨_, _, _, _, _, _, _, _, _, _, _, _, _, _, _, _, z⟩ := x
  exact z.elim
end L2
namespace Op
open PySem L2 PyProof.Rows
theorem ixN_nat {n j : Nat} (h : j < n) : ixN n (j : Int) = some j := by
  unfold ixN
  rw [if_pos (by omega), if_pos (by omega)]
  rfl
end Op
set_option pp.maxSteps 900
namespace Op
open PySem L2 PyProof.Rows
/-! ### tokens -/
structure Tk where
  k : Str
  n : Option Nat
  ws : List Str
def Tk.parts (t : Tk) : List PyData := (t.n.toList.map fun n : Nat => PyData.int (n : Int)) ++ t.ws.map .str
def Tk.d (t : Tk) : PyData := .tuple (.str t.k :: t.parts)
def Tk.vs (t : Tk) : List V := .str t.k :: ((t.n.toList.map fun n : Nat => V.int (n : Int)) ++ t.ws.map V.str)
def forms : List (Str × Str) := [("begin", "w"), ("answer", "nw"), ("rang", "n"), ("signal", "ww"), ("asked", "w"), ("set", ""), ("dropped", "n"), ("noted", "w"), ("marked", "w"), ("ended", "w"), ("anew", "w")]
def sigOf (t : Tk) : List Nat := (t.n.toList.map fun _ => 110) ++ t.ws.map fun _ => 119
def Okt (t : Tk) : Prop := ∃ f, forms.lookup t.k = some f ∧ f.cps.toList = sigOf t ∧ ∀ w ∈ t.ws, isWordS w = true
inductive TkC : Tk → Prop
  | begin {w : Str} : isWordS w = true → TkC ⟨"begin", none, [w]⟩
  | answer {n : Nat} {w : Str} : isWordS w = true → TkC ⟨"answer", some n, [w]⟩
  | rang {n : Nat} : TkC ⟨"rang", some n, []⟩
  | signal {a b : Str} : isWordS a = true → isWordS b = true → TkC ⟨"signal", none, [a, b]⟩
  | asked {w : Str} : isWordS w = true → TkC ⟨"asked", none, [w]⟩
  | set : TkC ⟨"set", none, []⟩
  | dropped {n : Nat} : TkC ⟨"dropped", some n, []⟩
  | noted {w : Str} : isWordS w = true → TkC ⟨"noted", none, [w]⟩
  | marked {w : Str} : isWordS w = true → TkC ⟨"marked", none, [w]⟩
  | ended {w : Str} : isWordS w = true → TkC ⟨"ended", none, [w]⟩
  | anew {w : Str} : isWordS w = true → TkC ⟨"anew", none, [w]⟩
theorem sig_w {n : Option Nat} {ws : List Str} {k : Str} (h : sigOf ⟨k, n, ws⟩ = [119]) : n = none ∧ ∃ w, ws = [w] := by
  cases n with
  | some i => cases ws <;> cases h
  | none =>
    cases ws with
    | nil => cases h
    | cons a r =>
      cases r with
      | nil => exact ⟨rfl, a, rfl⟩
      | cons b r => cases h
theorem sig_n {n : Option Nat} {ws : List Str} {k : Str} (h : sigOf ⟨k, n, ws⟩ = [110]) : ws = [] ∧ ∃ i, n = some i := by
  cases n with
  | some i =>
    cases ws with
    | nil => exact ⟨rfl, i, rfl⟩
    | cons a r => cases h
  | none =>
    cases ws with
    | nil => cases h
    | cons a r =>
      injection h with h _
      cases h
theorem sig_0 {n : Option Nat} {ws : List Str} {k : Str} (h : sigOf ⟨k, n, ws⟩ = []) : n = none ∧ ws = [] := by
  cases n with
  | some i => cases h
  | none =>
    cases ws with
    | nil => exact ⟨rfl, rfl⟩
    | cons a r => cases h
theorem sig_nw {n : Option Nat} {ws : List Str} {k : Str} (h : sigOf ⟨k, n, ws⟩ = [110, 119]) : ∃ i w, n = some i ∧ ws = [w] := by
  cases n with
  | some i =>
    cases ws with
    | nil => cases h
    | cons a r =>
      cases r with
      | nil => exact ⟨i, a, rfl, rfl⟩
      | cons b r => cases h
  | none =>
    cases ws with
    | nil => cases h
    | cons a r =>
      injection h with h _
      cases h
theorem sig_ww {n : Option Nat} {ws : List Str} {k : Str} (h : sigOf ⟨k, n, ws⟩ = [119, 119]) : n = none ∧ ∃ a b, ws = [a, b] := by
  cases n with
  | some i => injection h with h _; cases h
  | none =>
    cases ws with
    | nil => cases h
    | cons a r =>
      cases r with
      | nil => cases h
      | cons b r =>
        cases r with
        | nil => exact ⟨rfl, a, b, rfl⟩
        | cons c r => cases h
theorem look_mem {k f : Str} : ∀ {l : List (Str × Str)}, l.lookup k = some f → (k, f) ∈ l
  | [], h => by cases h
  | (a, b) :: r, h => by
    unfold List.lookup at h
    split at h
    · rename_i e
      obtain rfl := Option.some.inj h
      have e : k = a := by simpa using e
      subst e
      exact List.mem_cons_self
    · exact List.mem_cons_of_mem _ (look_mem h)
theorem Okt.c {t : Tk} (h : Okt t) : TkC t := by
  obtain ⟨f, h1, h2, h3⟩ := h
  obtain ⟨k, n, ws⟩ := t
  have hm := look_mem h1
  simp only [forms, List.mem_cons, List.not_mem_nil, or_false, Prod.mk.injEq] at hm
  have one : f.cps.toList = [119] → n = none ∧ ∃ w, ws = [w] ∧ isWordS w = true := fun e => by
    obtain ⟨e1, w, rfl⟩ := sig_w (h2.symm.trans e)
    exact ⟨e1, w, rfl, h3 w List.mem_cons_self⟩
  have num : f.cps.toList = [110] → ws = [] ∧ ∃ i, n = some i := fun e => sig_n (h2.symm.trans e)
  rcases hm with ⟨rfl, rfl⟩ | ⟨rfl, rfl⟩ | ⟨rfl, rfl⟩ | ⟨rfl, rfl⟩ | ⟨rfl, rfl⟩ | ⟨rfl, rfl⟩ | ⟨rfl, rfl⟩ | ⟨rfl, rfl⟩ | ⟨rfl, rfl⟩ | ⟨rfl, rfl⟩ | ⟨rfl, rfl⟩
  · obtain ⟨rfl, w, rfl, hw⟩ := one (by decide +kernel); exact .begin hw
  · obtain ⟨i, w, rfl, rfl⟩ := sig_nw (h2.symm.trans (by decide +kernel)); exact .answer (h3 w List.mem_cons_self)
  · obtain ⟨rfl, i, rfl⟩ := num (by decide +kernel); exact .rang
  · obtain ⟨rfl, a, b, rfl⟩ := sig_ww (h2.symm.trans (by decide +kernel)); exact .signal (h3 a List.mem_cons_self) (h3 b (List.mem_cons_of_mem _ List.mem_cons_self))
  · obtain ⟨rfl, w, rfl, hw⟩ := one (by decide +kernel); exact .asked hw
  · obtain ⟨rfl, rfl⟩ := sig_0 (h2.symm.trans (by decide +kernel)); exact .set
  · obtain ⟨rfl, i, rfl⟩ := num (by decide +kernel); exact .dropped
  · obtain ⟨rfl, w, rfl, hw⟩ := one (by decide +kernel); exact .noted hw
  · obtain ⟨rfl, w, rfl, hw⟩ := one (by decide +kernel); exact .marked hw
  · obtain ⟨rfl, w, rfl, hw⟩ := one (by decide +kernel); exact .ended hw
  · obtain ⟨rfl, w, rfl, hw⟩ := one (by decide +kernel); exact .anew hw
theorem TkC.ok {t : Tk} (h : TkC t) : Okt t := by
  cases h with
  | begin hw => exact ⟨"w", (show forms.lookup ("begin" : Str) = some ("w" : Str) by decide +kernel), rfl, fun x hx => by rw [List.mem_singleton.mp hx]; exact hw⟩
  | answer hw => exact ⟨"nw", (show forms.lookup ("answer" : Str) = some ("nw" : Str) by decide +kernel), rfl, fun x hx => by rw [List.mem_singleton.mp hx]; exact hw⟩
  | rang => exact ⟨"n", (show forms.lookup ("rang" : Str) = some ("n" : Str) by decide +kernel), rfl, fun x hx => (List.not_mem_nil hx).elim⟩
  | signal ha hb => exact ⟨"ww", (show forms.lookup ("signal" : Str) = some ("ww" : Str) by decide +kernel), rfl, fun x hx => by
      rcases List.mem_cons.mp hx with rfl | hx
      · exact ha
      · rw [List.mem_singleton.mp hx]; exact hb⟩
  | asked hw => exact ⟨"w", (show forms.lookup ("asked" : Str) = some ("w" : Str) by decide +kernel), rfl, fun x hx => by rw [List.mem_singleton.mp hx]; exact hw⟩
  | set => exact ⟨"", (show forms.lookup ("set" : Str) = some ("" : Str) by decide +kernel), rfl, fun x hx => (List.not_mem_nil hx).elim⟩
  | dropped => exact ⟨"n", (show forms.lookup ("dropped" : Str) = some ("n" : Str) by decide +kernel), rfl, fun x hx => (List.not_mem_nil hx).elim⟩
  | noted hw => exact ⟨"w", (show forms.lookup ("noted" : Str) = some ("w" : Str) by decide +kernel), rfl, fun x hx => by rw [List.mem_singleton.mp hx]; exact hw⟩
  | marked hw => exact ⟨"w", (show forms.lookup ("marked" : Str) = some ("w" : Str) by decide +kernel), rfl, fun x hx => by rw [List.mem_singleton.mp hx]; exact hw⟩
  | ended hw => exact ⟨"w", (show forms.lookup ("ended" : Str) = some ("w" : Str) by decide +kernel), rfl, fun x hx => by rw [List.mem_singleton.mp hx]; exact hw⟩
  | anew hw => exact ⟨"w", (show forms.lookup ("anew" : Str) = some ("w" : Str) by decide +kernel), rfl, fun x hx => by rw [List.mem_singleton.mp hx]; exact hw⟩
/-! ### has_form of any datum -/
def codeFits (c : Nat) (d : PyData) : Bool := if c = 119 then isWord d else match d with | .int i => decide (0 ≤ i) | _ => false
def hasForm : PyData → Bool
  | .tuple (.str k :: parts) => match forms.lookup k with
    | none => false
    | some f => decide (parts.length = f.length) && (f.cps.toList.zip parts).all fun p => codeFits p.1 p.2
  | _ => false
def isOut (t : Tk) : Bool := decide (t.k ∈ (["begin", "answer", "rang", "signal"] : List Str))
def isNew (t : Tk) : Bool := decide (t.k ∈ (["asked", "set"] : List Str))
def isLast (t : Tk) : Bool := decide (t.k ∈ (["ended", "anew"] : List Str))
theorem num_iff {t : Tk} (h : TkC t) : decide (t.k ∈ (["answer", "rang", "dropped"] : List Str)) = t.n.isSome := by
  cases h <;> rfl
/-! ### the check of a history -/
def thingFits (k th : Str) : Bool := if k = "answer" then decide (th = "ask") else if k = "rang" then decide (th = "timer") else !decide (th = "gone")
def suits (t : Tk) (th : List Str) : Bool := match t.n with
  | none => true
  | some n => match th[n]? with | none => false | some x => thingFits t.k x
def enter (t : Tk) (th : List Str) : List Str := if t.k = "asked" then th ++ [("ask" : Str)] else if t.k = "set" then th ++ [("timer" : Str)] else match t.n with | none => th | some n => th.set n "gone"
/-- the place of the first fault -/
def chk : List Tk → Nat → List Str → Bool → Option Nat
  | [], _, _, _ => none
  | t :: r, i, th, ov => if ov = true ∨ decide (t.k = "begin") ≠ decide (i = 0) then some i else if suits t th = true then chk r (i + 1) (enter t th) (isLast t) else some i
def splitA (acc : List (List Tk)) (t : Tk) : List (List Tk) := if isOut t = true then acc ++ [[t]] else acc.dropLast ++ [acc.getLastD [] ++ [t]]
def split (l : List Tk) : List (List Tk) := l.foldl splitA []
def ren (t : Tk) (n : Nat) : Tk := { t with n := some n }
/-- things, left, tokens, started -/
structure Ag where
  th : List Nat
  lf : List Nat
  tk : List Tk
  st : Nat
def ageT (s : Ag) (t : Tk) : Ag := match t.n with
  | some n => { s with lf := s.lf.erase n, tk := s.tk ++ [ren t (s.th.idxOf n)] }
  | none => if isNew t = true then ⟨s.th ++ [s.st], s.lf ++ [s.st], s.tk ++ [t], s.st + 1⟩ else { s with tk := s.tk ++ [t] }
def ageTurn (turn : List Tk) (nums : List Nat) (st : Nat) : Ag := turn.foldl ageT ⟨nums, nums, [], st⟩
def numT (s : Ag) (t : Tk) : Option Ag := match t.n with
  | some n => match s.th[n]? with
    | none => none
    | some x => if x ∈ s.lf then some { s with lf := s.lf.erase x, tk := s.tk ++ [ren t x] } else none
  | none => if isNew t = true then some ⟨s.th ++ [s.st], s.lf ++ [s.st], s.tk ++ [t], s.st + 1⟩ else some { s with tk := s.tk ++ [t] }
def numTurnA : List Tk → Ag → Option Ag
  | [], s => some s
  | t :: r, s => match numT s t with | none => none | some s' => numTurnA r s'
def numTurn (turn : List Tk) (nums : List Nat) (st : Nat) : Option Ag := numTurnA turn ⟨nums, nums, [], st⟩
def ageTurns : List (List Tk) → List Nat → Nat → List (List Tk)
  | [], _, _ => []
  | t :: r, nums, st => (ageTurn t nums st).tk :: ageTurns r (ageTurn t nums st).lf (ageTurn t nums st).st
def numTurns : List (List Tk) → List Nat → Nat → Option (List (List Tk))
  | [], _, _ => some []
  | t :: r, nums, st => match numTurn t nums st with
    | none => none
    | some s => (numTurns r s.lf s.st).map (s.tk :: ·)
end Op
namespace Hq
open PySem PySem.Spec PyProof.Rows L2 Op
def ad_p_SHAPES (K : Hk.Fg) : Addr := He.ga K "SHAPES"
def ad_p_FORMS (K : Hk.Fg) : Addr := He.ga K "FORMS"
def ad_p_OUTER (K : Hk.Fg) : Addr := He.ga K "OUTER"
def ad_p_NUMBERED (K : Hk.Fg) : Addr := He.ga K "NUMBERED"
def ad_p_LAST (K : Hk.Fg) : Addr := He.ga K "LAST"
def ad_c_InputError (K : Hk.Fg) : Addr := He.ga K "InputError"
def ad_c_OpenError (K : Hk.Fg) : Addr := He.ga K "OpenError"
def ad_c_RunError (K : Hk.Fg) : Addr := He.ga K "RunError"
def ad_c_InvalidHistory (K : Hk.Fg) : Addr := He.ga K "InvalidHistory"
def ad_i_InvalidHistory (K : Hk.Fg) : Addr := He.ma K (He.ga K "InvalidHistory") "__init__"
def ad_c_InvalidArgument (K : Hk.Fg) : Addr := He.ga K "InvalidArgument"
def ad_i_InvalidArgument (K : Hk.Fg) : Addr := He.ma K (He.ga K "InvalidArgument") "__init__"
def ad_c_InvalidProgram (K : Hk.Fg) : Addr := He.ga K "InvalidProgram"
def ad_i_InvalidProgram (K : Hk.Fg) : Addr := He.ma K (He.ga K "InvalidProgram") "__init__"
def ad_g_is_integer (K : Hk.Fg) : Addr := He.ga K "is_integer"
def ad_g_is_word (K : Hk.Fg) : Addr := He.ga K "is_word"
def ad_g_are_words (K : Hk.Fg) : Addr := He.ga K "are_words"
def ad_g_is_branches (K : Hk.Fg) : Addr := He.ga K "is_branches"
def ad_g_inner_lists (K : Hk.Fg) : Addr := He.ga K "inner_lists"
def ad_g_with_lists (K : Hk.Fg) : Addr := He.ga K "with_lists"
def ad_g_copy_row (K : Hk.Fg) : Addr := He.ga K "copy_row"
def ad_g_copy_rows (K : Hk.Fg) : Addr := He.ga K "copy_rows"
def ad_g_checked_asks (K : Hk.Fg) : Addr := He.ga K "checked_asks"
def ad_g_is_box (K : Hk.Fg) : Addr := He.ga K "is_box"
def ad_g_checked_signals (K : Hk.Fg) : Addr := He.ga K "checked_signals"
def ad_g_checked_inputs (K : Hk.Fg) : Addr := He.ga K "checked_inputs"
def ad_g_has_form (K : Hk.Fg) : Addr := He.ga K "has_form"
def ad_g_is_outer (K : Hk.Fg) : Addr := He.ga K "is_outer"
def ad_g_suits_things (K : Hk.Fg) : Addr := He.ga K "suits_things"
def ad_g_enter_token (K : Hk.Fg) : Addr := He.ga K "enter_token"
def ad_g_check_tokens (K : Hk.Fg) : Addr := He.ga K "check_tokens"
def ad_g_split_turns (K : Hk.Fg) : Addr := He.ga K "split_turns"
def ad_g_check (K : Hk.Fg) : Addr := He.ga K "check"
def ad_g_cut (K : Hk.Fg) : Addr := He.ga K "cut"
def ad_g_check_program (K : Hk.Fg) : Addr := He.ga K "check_program"
def ad_g_replayed (K : Hk.Fg) : Addr := He.ga K "replayed"
def ad_g_read (K : Hk.Fg) : Addr := He.ga K "read"
def ad_g_good_turns (K : Hk.Fg) : Addr := He.ga K "good_turns"
def ad_g_resume (K : Hk.Fg) : Addr := He.ga K "resume"
def ad_g__law_bag (K : Hk.Fg) : Addr := He.ga K "_law_bag"
def ad_g__law_draw (K : Hk.Fg) : Addr := He.ga K "_law_draw"
def ad_g__law_one (K : Hk.Fg) : Addr := He.ga K "_law_one"
def ad_g__law_words (K : Hk.Fg) : Addr := He.ga K "_law_words"
def ad_g__law_word (K : Hk.Fg) : Addr := He.ga K "_law_word"
def ad_g__law_same (K : Hk.Fg) : Addr := He.ga K "_law_same"
def ad_g__law_token (K : Hk.Fg) : Addr := He.ga K "_law_token"
def ad_g__law_odd (K : Hk.Fg) : Addr := He.ga K "_law_odd"
def ad_g__law_fits (K : Hk.Fg) : Addr := He.ga K "_law_fits"
def ad_g__law_enter (K : Hk.Fg) : Addr := He.ga K "_law_enter"
def ad_g__law_fault (K : Hk.Fg) : Addr := He.ga K "_law_fault"
def ad_g__law_told (K : Hk.Fg) : Addr := He.ga K "_law_told"
def ad_g__law_history (K : Hk.Fg) : Addr := He.ga K "_law_history"
def ad_g__law_turns (K : Hk.Fg) : Addr := He.ga K "_law_turns"
def ad_g__law_no_program (K : Hk.Fg) : Addr := He.ga K "_law_no_program"
def ad_g_law (K : Hk.Fg) : Addr := He.ga K "law"
def ad_c_RowCheck (K : Hk.Fg) : Addr := He.ga K "RowCheck"
def ad_m_RowCheck___init__ (K : Hk.Fg) : Addr := He.ma K (He.ga K "RowCheck") "__init__"
def ad_m_RowCheck_check (K : Hk.Fg) : Addr := He.ma K (He.ga K "RowCheck") "check"
def ad_m_RowCheck_check_sizes (K : Hk.Fg) : Addr := He.ma K (He.ga K "RowCheck") "check_sizes"
def ad_m_RowCheck_check_list (K : Hk.Fg) : Addr := He.ma K (He.ga K "RowCheck") "check_list"
def ad_m_RowCheck_fits (K : Hk.Fg) : Addr := He.ma K (He.ga K "RowCheck") "fits"
def ad_m_RowCheck_id_fits (K : Hk.Fg) : Addr := He.ma K (He.ga K "RowCheck") "id_fits"
def ad_m_RowCheck_part_fits (K : Hk.Fg) : Addr := He.ma K (He.ga K "RowCheck") "part_fits"
def ad_m_RowCheck_collect (K : Hk.Fg) : Addr := He.ma K (He.ga K "RowCheck") "collect"
def ad_c_Program (K : Hk.Fg) : Addr := He.ga K "Program"
def ad_m_Program___init__ (K : Hk.Fg) : Addr := He.ma K (He.ga K "Program") "__init__"
def ad_p_kw (K : Hk.Fg) : Addr := Hk.kwA K (He.ma K (He.ga K "Program") "__init__")
def ad_p_go (K : Hk.Fg) : Addr := Hk.nsA K (Hk.kwA K (He.ma K (He.ga K "Program") "__init__")) "inputs"
def ad_m_Program_add_rows (K : Hk.Fg) : Addr := He.ma K (He.ga K "Program") "add_rows"
def ts0 : List Hk.Tgt := [.obj "SHAPES",
  .obj "FORMS",
  .obj "OUTER",
  .obj "NUMBERED",
  .obj "LAST",
  .cls "InputError" [],
  .cls "OpenError" [],
  .cls "RunError" [],
  .cls "InvalidHistory" ["__init__"],
  .cls "InvalidArgument" ["__init__"],
  .cls "InvalidProgram" ["__init__"],
  .fn "is_integer",
  .fn "is_word",
  .fn "are_words",
  .fn "is_branches",
  .fn "inner_lists",
  .fn "with_lists",
  .fn "copy_row",
  .fn "copy_rows",
  .fn "checked_asks"]
def ts1 : List Hk.Tgt := [.fn "is_box",
  .fn "checked_signals",
  .fn "checked_inputs",
  .fn "has_form",
  .fn "is_outer",
  .fn "suits_things",
  .fn "enter_token",
  .fn "check_tokens",
  .fn "split_turns",
  .fn "check",
  .fn "cut",
  .fn "check_program",
  .fn "replayed",
  .fn "read",
  .fn "good_turns",
  .fn "resume",
  .fn "_law_bag",
  .fn "_law_draw",
  .fn "_law_one",
  .fn "_law_words"]
def ts2 : List Hk.Tgt := [.fn "_law_word",
  .fn "_law_same",
  .fn "_law_token",
  .fn "_law_odd",
  .fn "_law_fits",
  .fn "_law_enter",
  .fn "_law_fault",
  .fn "_law_told",
  .fn "_law_history",
  .fn "_law_turns",
  .fn "_law_no_program",
  .fn "law",
  .cls "RowCheck" ["__init__", "check", "check_sizes", "check_list", "fits", "id_fits", "part_fits", "collect"],
  .cls "Program" ["__init__", "add_rows"]]
def ds0 : List Hk.Df := [⟨ad_i_InvalidHistory, "__init__", "InvalidHistory.__init__", Op.s_InvalidHistory___init__, ["__class__"]⟩,
  ⟨ad_i_InvalidArgument, "__init__", "InvalidArgument.__init__", Op.s_InvalidArgument___init__, ["__class__"]⟩,
  ⟨ad_i_InvalidProgram, "__init__", "InvalidProgram.__init__", Op.s_InvalidProgram___init__, ["__class__"]⟩,
  ⟨ad_g_is_integer, "is_integer", "is_integer", Op.s_is_integer, []⟩,
  ⟨ad_g_is_word, "is_word", "is_word", Op.s_is_word, []⟩,
  ⟨ad_g_are_words, "are_words", "are_words", Op.s_are_words, []⟩,
  ⟨ad_g_is_branches, "is_branches", "is_branches", Op.s_is_branches, []⟩,
  ⟨ad_g_inner_lists, "inner_lists", "inner_lists", Op.s_inner_lists, []⟩,
  ⟨ad_g_with_lists, "with_lists", "with_lists", Op.s_with_lists, []⟩,
  ⟨ad_g_copy_row, "copy_row", "copy_row", Op.s_copy_row, []⟩,
  ⟨ad_g_copy_rows, "copy_rows", "copy_rows", Op.s_copy_rows, []⟩,
  ⟨ad_g_checked_asks, "checked_asks", "checked_asks", Op.s_checked_asks, []⟩,
  ⟨ad_g_is_box, "is_box", "is_box", Op.s_is_box, []⟩,
  ⟨ad_g_checked_signals, "checked_signals", "checked_signals", Op.s_checked_signals, []⟩,
  ⟨ad_g_checked_inputs, "checked_inputs", "checked_inputs", Op.s_checked_inputs, []⟩,
  ⟨ad_g_has_form, "has_form", "has_form", Op.s_has_form, []⟩,
  ⟨ad_g_is_outer, "is_outer", "is_outer", Op.s_is_outer, []⟩,
  ⟨ad_g_suits_things, "suits_things", "suits_things", Op.s_suits_things, []⟩,
  ⟨ad_g_enter_token, "enter_token", "enter_token", Op.s_enter_token, []⟩,
  ⟨ad_g_check_tokens, "check_tokens", "check_tokens", Op.s_check_tokens, []⟩]
def ds1 : List Hk.Df := [⟨ad_g_split_turns, "split_turns", "split_turns", Op.s_split_turns, []⟩,
  ⟨ad_g_check, "check", "check", Op.s_check, []⟩,
  ⟨ad_g_cut, "cut", "cut", Op.s_cut, []⟩,
  ⟨ad_g_check_program, "check_program", "check_program", Op.s_check_program, []⟩,
  ⟨ad_g_replayed, "replayed", "replayed", Op.s_replayed, []⟩,
  ⟨ad_g_read, "read", "read", Op.s_read, []⟩,
  ⟨ad_g_good_turns, "good_turns", "good_turns", Op.s_good_turns, []⟩,
  ⟨ad_g_resume, "resume", "resume", Op.s_resume, []⟩,
  ⟨ad_g__law_bag, "_law_bag", "_law_bag", Op.s__law_bag, []⟩,
  ⟨ad_g__law_draw, "_law_draw", "_law_draw", Op.s__law_draw, []⟩,
  ⟨ad_g__law_one, "_law_one", "_law_one", Op.s__law_one, []⟩,
  ⟨ad_g__law_words, "_law_words", "_law_words", Op.s__law_words, []⟩,
  ⟨ad_g__law_word, "_law_word", "_law_word", Op.s__law_word, []⟩,
  ⟨ad_g__law_same, "_law_same", "_law_same", Op.s__law_same, []⟩,
  ⟨ad_g__law_token, "_law_token", "_law_token", Op.s__law_token, []⟩,
  ⟨ad_g__law_odd, "_law_odd", "_law_odd", Op.s__law_odd, []⟩,
  ⟨ad_g__law_fits, "_law_fits", "_law_fits", Op.s__law_fits, []⟩,
  ⟨ad_g__law_enter, "_law_enter", "_law_enter", Op.s__law_enter, []⟩,
  ⟨ad_g__law_fault, "_law_fault", "_law_fault", Op.s__law_fault, []⟩,
  ⟨ad_g__law_told, "_law_told", "_law_told", Op.s__law_told, []⟩]
def ds2 : List Hk.Df := [⟨ad_g__law_history, "_law_history", "_law_history", Op.s__law_history, []⟩,
  ⟨ad_g__law_turns, "_law_turns", "_law_turns", Op.s__law_turns, []⟩,
  ⟨ad_g__law_no_program, "_law_no_program", "_law_no_program", Op.s__law_no_program, []⟩,
  ⟨ad_g_law, "law", "law", Op.s_law, []⟩,
  ⟨ad_m_RowCheck___init__, "__init__", "RowCheck.__init__", Op.s_RowCheck___init__, []⟩,
  ⟨ad_m_RowCheck_check, "check", "RowCheck.check", Op.s_RowCheck_check, []⟩,
  ⟨ad_m_RowCheck_check_sizes, "check_sizes", "RowCheck.check_sizes", Op.s_RowCheck_check_sizes, []⟩,
  ⟨ad_m_RowCheck_check_list, "check_list", "RowCheck.check_list", Op.s_RowCheck_check_list, []⟩,
  ⟨ad_m_RowCheck_fits, "fits", "RowCheck.fits", Op.s_RowCheck_fits, []⟩,
  ⟨ad_m_RowCheck_id_fits, "id_fits", "RowCheck.id_fits", Op.s_RowCheck_id_fits, []⟩,
  ⟨ad_m_RowCheck_part_fits, "part_fits", "RowCheck.part_fits", Op.s_RowCheck_part_fits, []⟩,
  ⟨ad_m_RowCheck_collect, "collect", "RowCheck.collect", Op.s_RowCheck_collect, []⟩,
  ⟨ad_m_Program___init__, "__init__", "Program.__init__", Op.s_Program___init__, []⟩,
  ⟨ad_m_Program_add_rows, "add_rows", "Program.add_rows", Op.s_Program_add_rows, []⟩]
def fs0 : List (Hk.Fg → Bool) := [Hk.xfB Op.PP.main.file ad_c_InvalidHistory ad_i_InvalidHistory "InvalidHistory.__init__",
  Hk.xfB Op.PP.main.file ad_c_InvalidArgument ad_i_InvalidArgument "InvalidArgument.__init__",
  Hk.xfB Op.PP.main.file ad_c_InvalidProgram ad_i_InvalidProgram "InvalidProgram.__init__",
  Hk.fnB ad_g_is_integer "is_integer",
  Hk.fnB ad_g_is_word "is_word",
  Hk.fnB ad_g_are_words "are_words",
  Hk.fnB ad_g_is_branches "is_branches",
  Hk.fnB ad_g_inner_lists "inner_lists",
  Hk.fnB ad_g_with_lists "with_lists",
  Hk.fnB ad_g_copy_row "copy_row",
  Hk.fnB ad_g_copy_rows "copy_rows",
  Hk.fnB ad_g_checked_asks "checked_asks",
  Hk.fnB ad_g_is_box "is_box",
  Hk.fnB ad_g_checked_signals "checked_signals",
  Hk.fnB ad_g_checked_inputs "checked_inputs",
  Hk.fnB ad_g_has_form "has_form",
  Hk.fnB ad_g_is_outer "is_outer",
  Hk.fnB ad_g_suits_things "suits_things",
  Hk.fnB ad_g_enter_token "enter_token",
  Hk.fnB ad_g_check_tokens "check_tokens"]
def fs1 : List (Hk.Fg → Bool) := [Hk.fnB ad_g_split_turns "split_turns",
  Hk.fnB ad_g_check "check",
  Hk.fnB ad_g_cut "cut",
  Hk.fnB ad_g_check_program "check_program",
  Hk.fnB ad_g_replayed "replayed",
  Hk.fnB ad_g_read "read",
  Hk.fnB ad_g_good_turns "good_turns",
  Hk.fnB ad_g_resume "resume",
  Hk.fnB ad_g__law_bag "_law_bag",
  Hk.fnB ad_g__law_draw "_law_draw",
  Hk.fnB ad_g__law_one "_law_one",
  Hk.fnB ad_g__law_words "_law_words",
  Hk.fnB ad_g__law_word "_law_word",
  Hk.fnB ad_g__law_same "_law_same",
  Hk.fnB ad_g__law_token "_law_token",
  Hk.fnB ad_g__law_odd "_law_odd",
  Hk.fnB ad_g__law_fits "_law_fits",
  Hk.fnB ad_g__law_enter "_law_enter",
  Hk.fnB ad_g__law_fault "_law_fault",
  Hk.fnB ad_g__law_told "_law_told"]
def fs2 : List (Hk.Fg → Bool) := [Hk.fnB ad_g__law_history "_law_history",
  Hk.fnB ad_g__law_turns "_law_turns",
  Hk.fnB ad_g__law_no_program "_law_no_program",
  Hk.fnB ad_g_law "law",
  Hk.fnB ad_m_RowCheck___init__ "RowCheck.__init__",
  Hk.fnB ad_m_RowCheck_check "RowCheck.check",
  Hk.fnB ad_m_RowCheck_check_sizes "RowCheck.check_sizes",
  Hk.fnB ad_m_RowCheck_check_list "RowCheck.check_list",
  Hk.fnB ad_m_RowCheck_fits "RowCheck.fits",
  Hk.fnB ad_m_RowCheck_id_fits "RowCheck.id_fits",
  Hk.fnB ad_m_RowCheck_part_fits "RowCheck.part_fits",
  Hk.fnB ad_m_RowCheck_collect "RowCheck.collect",
  Hk.fnB ad_m_Program___init__ "Program.__init__",
  Hk.fnB ad_m_Program_add_rows "Program.add_rows",
  fun K => decide (PySem.W.nsIn K mainGlobals "len" = some none),
  fun K => decide (PySem.W.nsIn K mainGlobals "int" = some none),
  fun K => decide (PySem.W.nsIn K mainGlobals "bool" = some none),
  fun K => decide (PySem.W.nsIn K mainGlobals "str" = some none),
  fun K => decide (PySem.W.nsIn K mainGlobals "list" = some none),
  fun K => decide (PySem.W.nsIn K mainGlobals "tuple" = some none)]
def fs3 : List (Hk.Fg → Bool) := [fun K => decide (PySem.W.nsIn K mainGlobals "dict" = some none),
  fun K => decide (PySem.W.nsIn K mainGlobals "set" = some none),
  fun K => decide (PySem.W.nsIn K mainGlobals "range" = some none),
  fun K => decide (PySem.W.nsIn K mainGlobals "zip" = some none),
  fun K => decide (PySem.W.nsIn K mainGlobals "enumerate" = some none),
  fun K => decide (PySem.W.nsIn K mainGlobals "sorted" = some none),
  fun K => decide (PySem.W.nsIn K mainGlobals "isinstance" = some none),
  Hk.strB "LETTERS" "abcdefghijklmnopqrstuvwxyz",
  Hk.intB "MOST_ROWS" 60,
  Hk.intB "MOST_LABELS" 6,
  Hk.intB "MOST_SLOTS" 4,
  Hk.intB "MOST_GATES" 8,
  Hk.intB "MOST_EDITS" 4,
  Hk.intB "DEEPEST" 5,
  fun K => decide (PySem.W.nsIn K mainGlobals "SHAPES" = some (some (.ref (ad_p_SHAPES K)))),
  fun K => decide (PySem.W.nsIn K mainGlobals "FORMS" = some (some (.ref (ad_p_FORMS K)))),
  fun K => decide (PySem.W.nsIn K mainGlobals "OUTER" = some (some (.ref (ad_p_OUTER K)))),
  Hk.tupB ad_p_OUTER ["begin", "answer", "rang", "signal"],
  fun K => decide (PySem.W.nsIn K mainGlobals "NUMBERED" = some (some (.ref (ad_p_NUMBERED K)))),
  Hk.tupB ad_p_NUMBERED ["answer", "rang", "dropped"]]
def fs4 : List (Hk.Fg → Bool) := [fun K => decide (PySem.W.nsIn K mainGlobals "LAST" = some (some (.ref (ad_p_LAST K)))),
  Hk.tupB ad_p_LAST ["ended", "anew"],
  fun K => decide (PySem.W.nsIn K cStatics "thirdparty.any" = some none),
  fun K => decide (PySem.W.nsIn K mainGlobals "super" = some none),
  fun K => decide (PySem.W.nsIn K mainGlobals "InputError" = some (some (.ref (ad_c_InputError K)))),
  fun K => decide (PySem.W.nsIn K mainGlobals "OpenError" = some (some (.ref (ad_c_OpenError K)))),
  fun K => decide (PySem.W.nsIn K mainGlobals "RunError" = some (some (.ref (ad_c_RunError K)))),
  fun K => decide (PySem.W.nsIn K mainGlobals "InvalidHistory" = some (some (.ref (ad_c_InvalidHistory K)))),
  Hk.excB ad_c_InvalidHistory (fun K => [.ref (ad_c_InputError K), .ref (ad_c_OpenError K), .type "LookupError", .type "Exception", .type "BaseException", .type "object"]),
  fun K => decide (PySem.W.findIn K (.ref (ad_c_InvalidHistory K)) "__setattr__" = some (some (.builtin "object.__setattr__"))),
  fun K => decide (PySem.W.ks_superIn K (ad_c_InvalidHistory K) (ad_c_InvalidHistory K) "__init__" = some (some (.builtin "LookupError.__init__"))),
  fun K => decide (PySem.W.findIn K (.ref (ad_c_InvalidHistory K)) "__init__" = some (some (.ref (ad_i_InvalidHistory K)))),
  fun K => decide (PySem.W.typeIn K (.ref (ad_i_InvalidHistory K)) = some (.type "function")),
  fun K => decide (PySem.W.keepIn K (.ref (ad_c_InvalidHistory K)) = true),
  fun K => decide (PySem.W.findIn K (.ref (ad_c_InvalidHistory K)) "__getattribute__" = some (some (.builtin "BaseException.__getattribute__"))),
  fun K => decide (PySem.W.findIn K (.ref (ad_c_InvalidHistory K)) "__getattr__" = some none),
  fun K => decide (PySem.W.subIn K (.ref (ad_c_InvalidHistory K)) (.type "BaseException") = some true),
  fun K => decide (PySem.W.hasDictIn K (ad_c_InvalidHistory K) = true),
  fun K => decide (PySem.W.typeIn K (.ref (ad_c_InvalidHistory K)) = some (.type "type")),
  fun K => decide (PySem.W.isClsIn K (ad_c_InvalidHistory K) = true)]
def fs5 : List (Hk.Fg → Bool) := [fun K => decide (PySem.W.subIn K (.ref (ad_c_InvalidHistory K)) (.ref (ad_c_InvalidHistory K)) = some true),
  fun K => decide (PySem.W.findIn K (.ref (ad_c_InvalidHistory K)) "at" = some none),
  fun K => decide (PySem.W.nsIn K mainGlobals "InvalidArgument" = some (some (.ref (ad_c_InvalidArgument K)))),
  Hk.excB ad_c_InvalidArgument (fun K => [.ref (ad_c_InputError K), .ref (ad_c_OpenError K), .type "LookupError", .type "Exception", .type "BaseException", .type "object"]),
  fun K => decide (PySem.W.findIn K (.ref (ad_c_InvalidArgument K)) "__setattr__" = some (some (.builtin "object.__setattr__"))),
  fun K => decide (PySem.W.ks_superIn K (ad_c_InvalidArgument K) (ad_c_InvalidArgument K) "__init__" = some (some (.builtin "LookupError.__init__"))),
  fun K => decide (PySem.W.findIn K (.ref (ad_c_InvalidArgument K)) "__init__" = some (some (.ref (ad_i_InvalidArgument K)))),
  fun K => decide (PySem.W.typeIn K (.ref (ad_i_InvalidArgument K)) = some (.type "function")),
  fun K => decide (PySem.W.keepIn K (.ref (ad_c_InvalidArgument K)) = true),
  fun K => decide (PySem.W.findIn K (.ref (ad_c_InvalidArgument K)) "__getattribute__" = some (some (.builtin "BaseException.__getattribute__"))),
  fun K => decide (PySem.W.findIn K (.ref (ad_c_InvalidArgument K)) "__getattr__" = some none),
  fun K => decide (PySem.W.subIn K (.ref (ad_c_InvalidArgument K)) (.type "BaseException") = some true),
  fun K => decide (PySem.W.hasDictIn K (ad_c_InvalidArgument K) = true),
  fun K => decide (PySem.W.typeIn K (.ref (ad_c_InvalidArgument K)) = some (.type "type")),
  fun K => decide (PySem.W.isClsIn K (ad_c_InvalidArgument K) = true),
  fun K => decide (PySem.W.subIn K (.ref (ad_c_InvalidArgument K)) (.ref (ad_c_InvalidArgument K)) = some true),
  fun K => decide (PySem.W.findIn K (.ref (ad_c_InvalidArgument K)) "part" = some none),
  fun K => decide (PySem.W.nsIn K mainGlobals "InvalidProgram" = some (some (.ref (ad_c_InvalidProgram K)))),
  Hk.excB ad_c_InvalidProgram (fun K => [.ref (ad_c_InputError K), .ref (ad_c_OpenError K), .type "LookupError", .type "Exception", .type "BaseException", .type "object"]),
  fun K => decide (PySem.W.findIn K (.ref (ad_c_InvalidProgram K)) "__setattr__" = some (some (.builtin "object.__setattr__")))]
def fs6 : List (Hk.Fg → Bool) := [fun K => decide (PySem.W.ks_superIn K (ad_c_InvalidProgram K) (ad_c_InvalidProgram K) "__init__" = some (some (.builtin "LookupError.__init__"))),
  fun K => decide (PySem.W.findIn K (.ref (ad_c_InvalidProgram K)) "__init__" = some (some (.ref (ad_i_InvalidProgram K)))),
  fun K => decide (PySem.W.typeIn K (.ref (ad_i_InvalidProgram K)) = some (.type "function")),
  fun K => decide (PySem.W.keepIn K (.ref (ad_c_InvalidProgram K)) = true),
  fun K => decide (PySem.W.findIn K (.ref (ad_c_InvalidProgram K)) "__getattribute__" = some (some (.builtin "BaseException.__getattribute__"))),
  fun K => decide (PySem.W.findIn K (.ref (ad_c_InvalidProgram K)) "__getattr__" = some none),
  fun K => decide (PySem.W.subIn K (.ref (ad_c_InvalidProgram K)) (.type "BaseException") = some true),
  fun K => decide (PySem.W.hasDictIn K (ad_c_InvalidProgram K) = true),
  fun K => decide (PySem.W.typeIn K (.ref (ad_c_InvalidProgram K)) = some (.type "type")),
  fun K => decide (PySem.W.isClsIn K (ad_c_InvalidProgram K) = true),
  fun K => decide (PySem.W.subIn K (.ref (ad_c_InvalidProgram K)) (.ref (ad_c_InvalidProgram K)) = some true),
  fun K => decide (PySem.W.findIn K (.ref (ad_c_InvalidProgram K)) "part" = some none),
  fun K => decide (PySem.W.findIn K (.ref (ad_c_InvalidProgram K)) "path" = some none),
  fun K => decide (PySem.W.findIn K (.ref (ad_c_InvalidHistory K)) "__class__" = some (some (.builtin "object.__class__"))),
  fun K => decide (PySem.W.specialIn K (.builtin "object.__class__") "__get__" = some (some (.builtin "getset_descriptor.__get__"))),
  fun K => decide (PySem.W.takesIn K (.builtin "object.__class__") = some true),
  fun K => decide (PySem.W.mroIn K (ad_c_InvalidHistory K) (.type "object") = some true),
  fun K => decide (PySem.W.subIn K (.ref (ad_c_InvalidHistory K)) (.ref (ad_c_InvalidArgument K)) = some false),
  fun K => decide ((Value.ref (ad_c_InvalidHistory K) == Value.ref (ad_c_InvalidArgument K)) = false),
  fun K => decide (PySem.W.typeIn K (.ref (ad_c_RunError K)) = some (.type "type"))]
def fs7 : List (Hk.Fg → Bool) := [fun K => decide (PySem.W.isClsIn K (ad_c_RunError K) = true),
  fun K => decide (PySem.W.subIn K (.ref (ad_c_InvalidHistory K)) (.ref (ad_c_RunError K)) = some false),
  fun K => decide ((Value.ref (ad_c_InvalidHistory K) == Value.ref (ad_c_RunError K)) = false),
  fun K => decide (PySem.W.typeIn K (.ref (ad_c_InputError K)) = some (.type "type")),
  fun K => decide (PySem.W.isClsIn K (ad_c_InputError K) = true),
  fun K => decide (PySem.W.subIn K (.ref (ad_c_InvalidHistory K)) (.ref (ad_c_InputError K)) = some true),
  fun K => decide ((Value.ref (ad_c_InvalidHistory K) == Value.ref (ad_c_InputError K)) = false),
  fun K => decide (PySem.W.nsIn K mainGlobals "is_integer" = some (some (.ref (ad_g_is_integer K)))),
  fun K => decide (PySem.W.nsIn K mainGlobals "is_word" = some (some (.ref (ad_g_is_word K)))),
  fun K => decide (PySem.W.nsIn K mainGlobals "are_words" = some (some (.ref (ad_g_are_words K)))),
  fun K => decide (PySem.W.nsIn K mainGlobals "is_branches" = some (some (.ref (ad_g_is_branches K)))),
  fun K => decide (PySem.W.nsIn K mainGlobals "inner_lists" = some (some (.ref (ad_g_inner_lists K)))),
  fun K => decide (PySem.W.nsIn K mainGlobals "with_lists" = some (some (.ref (ad_g_with_lists K)))),
  fun K => decide (PySem.W.nsIn K mainGlobals "copy_row" = some (some (.ref (ad_g_copy_row K)))),
  fun K => decide (PySem.W.nsIn K mainGlobals "copy_rows" = some (some (.ref (ad_g_copy_rows K)))),
  fun K => decide (PySem.W.nsIn K mainGlobals "checked_asks" = some (some (.ref (ad_g_checked_asks K)))),
  fun K => decide (PySem.W.nsIn K mainGlobals "is_box" = some (some (.ref (ad_g_is_box K)))),
  fun K => decide (PySem.W.nsIn K mainGlobals "checked_signals" = some (some (.ref (ad_g_checked_signals K)))),
  fun K => decide (PySem.W.nsIn K mainGlobals "checked_inputs" = some (some (.ref (ad_g_checked_inputs K)))),
  fun K => decide (PySem.W.nsIn K mainGlobals "has_form" = some (some (.ref (ad_g_has_form K))))]
def fs8 : List (Hk.Fg → Bool) := [fun K => decide (PySem.W.nsIn K mainGlobals "is_outer" = some (some (.ref (ad_g_is_outer K)))),
  fun K => decide (PySem.W.nsIn K mainGlobals "suits_things" = some (some (.ref (ad_g_suits_things K)))),
  fun K => decide (PySem.W.nsIn K mainGlobals "enter_token" = some (some (.ref (ad_g_enter_token K)))),
  fun K => decide (PySem.W.nsIn K mainGlobals "check_tokens" = some (some (.ref (ad_g_check_tokens K)))),
  fun K => decide (PySem.W.nsIn K mainGlobals "split_turns" = some (some (.ref (ad_g_split_turns K)))),
  fun K => decide (PySem.W.nsIn K mainGlobals "check" = some (some (.ref (ad_g_check K)))),
  fun K => decide (PySem.W.nsIn K mainGlobals "cut" = some (some (.ref (ad_g_cut K)))),
  fun K => decide (PySem.W.nsIn K mainGlobals "check_program" = some (some (.ref (ad_g_check_program K)))),
  fun K => decide (PySem.W.nsIn K mainGlobals "replayed" = some (some (.ref (ad_g_replayed K)))),
  fun K => decide (PySem.W.nsIn K mainGlobals "read" = some (some (.ref (ad_g_read K)))),
  fun K => decide (PySem.W.nsIn K mainGlobals "good_turns" = some (some (.ref (ad_g_good_turns K)))),
  fun K => decide (PySem.W.nsIn K mainGlobals "resume" = some (some (.ref (ad_g_resume K)))),
  fun K => decide (PySem.W.nsIn K mainGlobals "_law_bag" = some (some (.ref (ad_g__law_bag K)))),
  fun K => decide (PySem.W.nsIn K mainGlobals "_law_draw" = some (some (.ref (ad_g__law_draw K)))),
  fun K => decide (PySem.W.nsIn K mainGlobals "_law_one" = some (some (.ref (ad_g__law_one K)))),
  fun K => decide (PySem.W.nsIn K mainGlobals "_law_words" = some (some (.ref (ad_g__law_words K)))),
  fun K => decide (PySem.W.nsIn K mainGlobals "_law_word" = some (some (.ref (ad_g__law_word K)))),
  fun K => decide (PySem.W.nsIn K mainGlobals "_law_same" = some (some (.ref (ad_g__law_same K)))),
  fun K => decide (PySem.W.nsIn K mainGlobals "_law_token" = some (some (.ref (ad_g__law_token K)))),
  fun K => decide (PySem.W.nsIn K mainGlobals "_law_odd" = some (some (.ref (ad_g__law_odd K))))]
def fs9 : List (Hk.Fg → Bool) := [fun K => decide (PySem.W.nsIn K mainGlobals "_law_fits" = some (some (.ref (ad_g__law_fits K)))),
  fun K => decide (PySem.W.nsIn K mainGlobals "_law_enter" = some (some (.ref (ad_g__law_enter K)))),
  fun K => decide (PySem.W.nsIn K mainGlobals "_law_fault" = some (some (.ref (ad_g__law_fault K)))),
  fun K => decide (PySem.W.nsIn K mainGlobals "_law_told" = some (some (.ref (ad_g__law_told K)))),
  fun K => decide (PySem.W.nsIn K mainGlobals "_law_history" = some (some (.ref (ad_g__law_history K)))),
  fun K => decide (PySem.W.nsIn K mainGlobals "_law_turns" = some (some (.ref (ad_g__law_turns K)))),
  fun K => decide (PySem.W.nsIn K mainGlobals "_law_no_program" = some (some (.ref (ad_g__law_no_program K)))),
  fun K => decide (PySem.W.nsIn K mainGlobals "law" = some (some (.ref (ad_g_law K)))),
  fun K => decide (PySem.W.nsIn K mainGlobals "RowCheck" = some (some (.ref (ad_c_RowCheck K)))),
  fun K => decide (PySem.W.plainGet K (ad_c_RowCheck K) Str.empty = true),
  fun K => decide (PySem.W.hasDictIn K (ad_c_RowCheck K) = true),
  fun K => decide (PySem.W.plainOver K (ad_c_RowCheck K) = true),
  fun K => decide (PySem.W.findIn K (.ref (ad_c_RowCheck K)) "__setattr__" = some (some (.builtin "object.__setattr__"))),
  fun K => decide (PySem.W.findIn K (.ref (ad_c_RowCheck K)) "known_asks" = some none),
  fun K => decide (PySem.W.findIn K (.ref (ad_c_RowCheck K)) "known_signals" = some none),
  fun K => decide (PySem.W.findIn K (.ref (ad_c_RowCheck K)) "with_edits" = some none),
  fun K => decide (PySem.W.findIn K (.ref (ad_c_RowCheck K)) "total" = some none),
  fun K => decide (PySem.W.findIn K (.ref (ad_c_RowCheck K)) "label_words" = some none),
  fun K => decide (PySem.W.findIn K (.ref (ad_c_RowCheck K)) "slot_words" = some none),
  fun K => decide (PySem.W.findIn K (.ref (ad_c_RowCheck K)) "gate_words" = some none)]
def fs10 : List (Hk.Fg → Bool) := [fun K => decide (PySem.W.findIn K (.ref (ad_c_RowCheck K)) "edit_words" = some none),
  fun K => decide (PySem.W.makesIn K (ad_c_RowCheck K) = true),
  fun K => decide (PySem.W.keepIn K (.ref (ad_c_RowCheck K)) = true),
  fun K => decide (PySem.W.findIn K (.ref (ad_c_RowCheck K)) "__init__" = some (some (.ref (ad_m_RowCheck___init__ K)))),
  fun K => decide (PySem.W.isFn K (.ref (ad_m_RowCheck___init__ K)) = true),
  fun K => decide (PySem.W.findIn K (.ref (ad_c_RowCheck K)) "check" = some (some (.ref (ad_m_RowCheck_check K)))),
  fun K => decide (PySem.W.isFn K (.ref (ad_m_RowCheck_check K)) = true),
  fun K => decide (PySem.W.findIn K (.ref (ad_c_RowCheck K)) "check_sizes" = some (some (.ref (ad_m_RowCheck_check_sizes K)))),
  fun K => decide (PySem.W.isFn K (.ref (ad_m_RowCheck_check_sizes K)) = true),
  fun K => decide (PySem.W.findIn K (.ref (ad_c_RowCheck K)) "check_list" = some (some (.ref (ad_m_RowCheck_check_list K)))),
  fun K => decide (PySem.W.isFn K (.ref (ad_m_RowCheck_check_list K)) = true),
  fun K => decide (PySem.W.findIn K (.ref (ad_c_RowCheck K)) "fits" = some (some (.ref (ad_m_RowCheck_fits K)))),
  fun K => decide (PySem.W.isFn K (.ref (ad_m_RowCheck_fits K)) = true),
  fun K => decide (PySem.W.findIn K (.ref (ad_c_RowCheck K)) "id_fits" = some (some (.ref (ad_m_RowCheck_id_fits K)))),
  fun K => decide (PySem.W.isFn K (.ref (ad_m_RowCheck_id_fits K)) = true),
  fun K => decide (PySem.W.findIn K (.ref (ad_c_RowCheck K)) "part_fits" = some (some (.ref (ad_m_RowCheck_part_fits K)))),
  fun K => decide (PySem.W.isFn K (.ref (ad_m_RowCheck_part_fits K)) = true),
  fun K => decide (PySem.W.findIn K (.ref (ad_c_RowCheck K)) "collect" = some (some (.ref (ad_m_RowCheck_collect K)))),
  fun K => decide (PySem.W.isFn K (.ref (ad_m_RowCheck_collect K)) = true),
  fun K => decide (PySem.W.nsIn K mainGlobals "Program" = some (some (.ref (ad_c_Program K))))]
def fs11 : List (Hk.Fg → Bool) := [fun K => decide (PySem.W.plainGet K (ad_c_Program K) Str.empty = true),
  fun K => decide (PySem.W.hasDictIn K (ad_c_Program K) = true),
  fun K => decide (PySem.W.plainOver K (ad_c_Program K) = true),
  fun K => decide (PySem.W.findIn K (.ref (ad_c_Program K)) "__setattr__" = some (some (.builtin "object.__setattr__"))),
  fun K => decide (PySem.W.findIn K (.ref (ad_c_Program K)) "ask_table" = some none),
  fun K => decide (PySem.W.findIn K (.ref (ad_c_Program K)) "signal_table" = some none),
  fun K => decide (PySem.W.findIn K (.ref (ad_c_Program K)) "input_words" = some none),
  fun K => decide (PySem.W.findIn K (.ref (ad_c_Program K)) "row_list" = some none),
  fun K => decide (PySem.W.findIn K (.ref (ad_c_Program K)) "label_names" = some none),
  fun K => decide (PySem.W.findIn K (.ref (ad_c_Program K)) "slot_names" = some none),
  fun K => decide (PySem.W.findIn K (.ref (ad_c_Program K)) "gate_names" = some none),
  fun K => decide (PySem.W.findIn K (.ref (ad_c_Program K)) "row_table" = some none),
  fun K => decide (PySem.W.findIn K (.ref (ad_c_Program K)) "list_sizes" = some none),
  fun K => decide (PySem.W.makesIn K (ad_c_Program K) = true),
  fun K => decide (PySem.W.keepIn K (.ref (ad_c_Program K)) = true),
  fun K => decide (PySem.W.findIn K (.ref (ad_c_Program K)) "__init__" = some (some (.ref (ad_m_Program___init__ K)))),
  fun K => decide (PySem.W.isFn K (.ref (ad_m_Program___init__ K)) = true),
  fun K => decide (((ad_p_kw K) == 0) = false),
  fun K => decide (PySem.W.nsIn K (ad_p_kw K) "asks" = some (some .none)),
  fun K => decide (PySem.W.nsIn K (ad_p_kw K) "signals" = some (some .none))]
def fs12 : List (Hk.Fg → Bool) := [fun K => decide (PySem.W.nsIn K (ad_p_kw K) "inputs" = some (some (.ref (ad_p_go K)))),
  Hk.tupB ad_p_go ["go"],
  fun K => decide (PySem.W.findIn K (.ref (ad_c_Program K)) "add_rows" = some (some (.ref (ad_m_Program_add_rows K)))),
  fun K => decide (PySem.W.isFn K (.ref (ad_m_Program_add_rows K)) = true),
  fun K => decide (PySem.W.findIn K (.ref (ad_c_Program K)) "__class__" = some (some (.builtin "object.__class__"))),
  fun K => decide (PySem.W.mroIn K (ad_c_Program K) (.type "object") = some true),
  fun K => decide (PySem.W.typeIn K (.ref (ad_c_Program K)) = some (.type "type")),
  fun K => decide (PySem.W.isClsIn K (ad_c_Program K) = true)]
def names0 : List PySem.Str := ["_wall",
  "__name__",
  "OpenError",
  "InputError",
  "InvalidProgram",
  "InvalidHistory",
  "InvalidArgument",
  "InvalidNote",
  "RunError",
  "Falls",
  "Breaks",
  "LETTERS",
  "MOST_ROWS",
  "MOST_LABELS",
  "MOST_SLOTS",
  "MOST_GATES",
  "MOST_EDITS",
  "DEEPEST",
  "SHAPES",
  "is_integer",
  "is_word",
  "are_words",
  "same",
  "same_items",
  "check_notes",
  "inner_lists",
  "with_lists",
  "copy_row",
  "copy_rows",
  "checked_asks"]
def names1 : List PySem.Str := ["is_box",
  "checked_signals",
  "checked_inputs",
  "RowCheck",
  "is_branches",
  "FORMS",
  "OUTER",
  "NUMBERED",
  "LAST",
  "has_form",
  "is_outer",
  "suits_things",
  "enter_token",
  "check_tokens",
  "split_turns",
  "renamed",
  "turn_by_age",
  "turn_by_number",
  "Told",
  "Replayed",
  "State",
  "standing_of",
  "MOST_DONE",
  "MOST_NOTES",
  "behind",
  "Turn",
  "do_start",
  "do_await",
  "do_first",
  "do_wait"]
def names2 : List PySem.Str := ["do_drop",
  "do_note",
  "do_put",
  "do_if",
  "do_inner",
  "do_leave",
  "do_gate",
  "do_past",
  "do_end",
  "DEEDS",
  "do_row",
  "go_on",
  "perform",
  "token_fault",
  "read_onto",
  "outer_of_state",
  "Program",
  "check_program",
  "Run",
  "check",
  "cut",
  "Replay",
  "replayed",
  "read",
  "good_turns",
  "resume",
  "_law_bag",
  "_law_draw",
  "_law_one",
  "_law_words"]
def names3 : List PySem.Str := ["_law_same",
  "_law_word",
  "_law_token",
  "_law_odd",
  "_law_fits",
  "_law_enter",
  "_law_fault",
  "_law_told",
  "_law_history",
  "_law_turns",
  "_law_no_program"]
def ask : Hk.Ask := ⟨ts0 ++ (ts1 ++ (ts2)), [fs0, fs1, fs2, fs3, fs4, fs5, fs6, fs7, fs8, fs9, fs10, fs11, fs12], ds0 ++ (ds1 ++ (ds2)), [⟨ad_p_SHAPES, shapes⟩, ⟨ad_p_FORMS, forms⟩]⟩
def names : List PySem.Str := names0 ++ (names1 ++ (names2 ++ (names3)))
abbrev R : PySem.W.OpenRow := PySem.W.OpenLaw.row PySem.Challenge.rw_openruns_k12_well_formed_histories
abbrev qv : Program := PySem.W.view R.prog [110]
set_option maxHeartbeats 0 in
theorem run_f : ∀ w : World, HandSHeadRun.RunEq R qv (Hk.hook ask) (Hk.ob ask) 9600 names (w.withFollow "special-get-raises" false) := by
  intro w os
  kernel_rfl
set_option maxHeartbeats 0 in
theorem run_t : ∀ w : World, HandSHeadRun.RunEq R qv (Hk.hook ask) (Hk.ob ask) 9600 names (w.withFollow "special-get-raises" true) := by
  intro w os
  kernel_rfl
end Hq
namespace L2
open PySem PySem.Spec PyProof.Rows
/-! ### several except clauses, each with the same name -/
/-- what the clauses wish, one after the other: slot i is the name's -/
def wManyA (K : PySem.W.Frag) (i : Nat) (Wout : WX) (D : Ends) : List (Value × (Addr → Value → Option Addr → TS)) → WX
  | [] => Wout
  | q :: r => wAs K q.1 i q.2 (wManyA K i Wout D r) D
inductive HdsA (X : Cx) (n : Str) : List ExceptHandler → List (Value × (Addr → Value → Option Addr → TS)) → Prop
  | nil : HdsA X n [] []
  | cons {x : Str} {c : Value} {ts : Addr → Value → Option Addr → TS} {b₀ : Stmt} {suite : List Stmt} {np pos' : Pos} {hds : List ExceptHandler} {l : List (Value × (Addr → Value → Option Addr → TS))} (hc : Names X x c)
      (hsu : ∀ (a : Addr) (oe : Obj) (cls : Value) (d : Option Addr) (pn : List (Addr × Obj)), Zc cls d oe → (∃ vs, oe.data = .fields vs) → PSs (X.suite a ((a, oe) :: pn)) (b₀ :: suite) (ts a cls d)) (r : HdsA X n hds l) :
      HdsA X n (.ExceptHandler (some (.Name x np)) (some n) (b₀ :: suite) pos' :: hds) ((c, ts) :: l)
theorem ps_try_manyA {X : Cx} {n : Str} {i : Nat} {body : List Stmt} {h₀ : ExceptHandler} {hds : List ExceptHandler} {l : List (Value × (Addr → Value → Option Addr → TS))} {pos : Pos} {tb : WX → TS} {Wout : WX} (hs : X.stack = X.env :: X.outer) (hf : X.env.frame = some X.env.locals) (hN : X.N.Nodup) (hi : X.N[i]? = some n) (hln : X.env.kindOf n = some .local) (tk : Takes X Wout)
    (hb : ∀ (W : WX) (pn : List (Addr × Obj)) (xe : Value → Shared → Prop), Takes (X.tr pn xe) W → PassesOwn (model X.prog X.w) X.A X.env xe → PSs (X.tr pn xe) body (tb W)) (hh : HdsA X n (h₀ :: hds) l) :
    PS X (.Try body (h₀ :: hds) [] [] pos) (fun D σ H => tb (wManyA X.K i Wout D l) D σ H) := by
  refine ⟨fun pins s σ H D I h => ?_⟩
  have ok := I.ok
  have hfr : X.A.frames = some (X.env :: X.outer) := by rw [ok.frames, hs]
  have hloc : Loc X.env.scope n := .inl hln
  refine wpAny_Try_except ?_
  have run := (hb (wManyA X.K i Wout D l) (X.pn ++ pins) (fun e s₁ => wpAny (model X.prog X.w) X.A (noteFrame e X.env) (fun _ s₂ => wpAny (model X.prog X.w) X.A (setFlight e none) (fun _ s₃ => wpAny (model X.prog X.w) X.A (handleBy e X.env (h₀ :: hds)) (SP X pins D) X.xe s₃) X.xe s₂) X.xe s₁) (fun u s' xx => ?_) PassesOwn.looking).run [] s σ H D (I.toTry _) h
  · refine wpAny_mono run (fun f s1 hsp => ?_) (fun e s1 he => he)
    cases f with
    | next => exact wpAny_execs_nil (let ⟨σ', H', J', q⟩ := hsp; ⟨σ', H', J'.ofTry ok, q⟩)
    | brk => exact (let ⟨σ', H', J', q⟩ := hsp; ⟨σ', H', J'.ofTry ok, q⟩)
    | cont => exact (let ⟨σ', H', J', q⟩ := hsp; ⟨σ', H', J'.ofTry ok, q⟩)
    | ret u => exact (let ⟨v, σ', H', J', r, q⟩ := hsp; ⟨v, σ', H', J'.ofTry ok, r, q⟩)
  obtain ⟨a, B, sI, pins', σ', H', cls, d, rfl, J', nb, up, sky, na, os, ag, w⟩ := xx
  have J : Inv X pins σ' H' sI := J'.ofTry ok
  have sky' : Sky B (X.env :: X.outer) a (Zc cls d) X.env.locals s'.heap := hs ▸ sky
  show wpAny (model X.prog X.w) X.A (noteFrame (.ref a) X.env) _ _ _
  refine Sky.land Zc.steady hfr hf sky' fun h3 fl3 up3 => ?_
  have J3 : Inv X pins σ' H' { s' with heap := h3 } := J.landed nb fl3.1 (up.trans up3) os ag
  obtain ⟨oe3, vs3, he3, hz3, hd3⟩ := fl3.there
  have nfr : a ∉ frs (X.env :: X.outer) := fun hm => by
    obtain ⟨_, o', e', hnf⟩ := fl3.2.2.1.mem hm
    rw [he3] at e'
    cases e'
    exact hnf _ hd3
  have nL : a ≠ X.env.locals := fun z => nfr (List.mem_filterMap.mpr ⟨X.env, List.mem_cons_self, by rw [hf, z]⟩)
  have nF : a ∉ X.fs := fun hm => let ⟨e, he, q⟩ := List.mem_filterMap.mp hm; nfr (List.mem_filterMap.mpr ⟨e, List.mem_cons_of_mem _ he, q⟩)
  have S3 := J3.suite he3 hd3 na nL nF
  have LT : PySem.W.Looks (model X.prog X.w) h3 (typeOf (.ref a)) cls := fun A Q E s k q => wpAny_typeOf_ref (k _ _ he3) (by rw [hz3.1]; exact q)
  suffices go : ∀ {hds' : List ExceptHandler} {l' : List (Value × (Addr → Value → Option Addr → TS))}, HdsA X n hds' l' → wManyA X.K i Wout D l' cls d σ' H' → wpAny (model X.prog X.w) X.A (handleBy (.ref a) X.env hds') (SP X pins D) X.xe { s' with heap := h3 } from go hh w
  intro hds' l' hk
  induction hk with
  | nil =>
    intro w
    refine wpAny_handleBy_nil ?_
    obtain ⟨_, _, _, oe, vs, T, oT, _, he, _, hd, h1, _⟩ := id fl3
    unfold PySem.passOn
    refine wpAny_bind (wpAny_field he hd h1 ?_)
    rw [if_neg (show ¬ ((Value.ref T == Value.none) = true) from by simp)]
    have fin : wpAny (model X.prog X.w) X.A (setFlight (.ref a) X.env.frame) (fun _ s4 => wpAny (model X.prog X.w) X.A (throw (.ref a) : Sem Flow) (SP X pins D) X.xe s4) X.xe { s' with heap := h3 } := by
      rw [hf]
      exact HandSPX.setFlight_upZ fl3 fun h4 hh4 up4 => wpAny_throw (tk _ _ ⟨a, B, sI, pins, σ', H', cls, d, rfl, J, nb, (up.trans up3).trans up4, .inr (.inr (hs ▸ hh4)), na, os, ag, w⟩)
    first
      | exact wpAny_bind (wpAny_pure (wpAny_bind fin))
      | exact wpAny_bind fin
  | @cons x c ts b₀ suite np pos' hds2 l2 hc hsu r ih =>
    intro w
    obtain ⟨b, hb1, hyes, hno⟩ := w
    refine wpAny_handleBy_cons (codeAny_handlers_test ?_) (by intro q; cases q)
    have LM := PySem.W.exm_one (M := model X.prog X.w) (J3.kIn) LT hb1
    have test : ∀ {Q : Value → Shared → Prop} {E : Value → Shared → Prop}, Q c { s' with heap := h3 } → wpAny (model X.prog X.w) (X.A.mark (some (.ref a))) (eval (.Name x np) X.env) Q E { s' with heap := h3 } := fun {Q E} q => by
      obtain ⟨hg, hdbg, hm⟩ := hc
      rcases hm with hm | ⟨hm, hv, hnn⟩
      · exact ld_glob (X := X.suite a ((a, oe3) :: (X.pn ++ pins))) S3 hg hm q hdbg
      · exact ld_blt (X := X.suite a ((a, oe3) :: (X.pn ++ pins))) S3 hg hm hv q hnn hdbg
    refine test (LM.here ?_)
    cases b with
    | false =>
      show wpAny _ X.A (handleBy (.ref a) X.env hds2) _ _ _
      exact ih (hno rfl)
    | true =>
      refine codeAny_handlers_suite_as (HandSPX.lands_againZ fl3 fun h4 fl4 up4 => ?_)
      have J4 : Inv X pins σ' H' { s' with heap := h4 } := J.landed nb fl4.1 ((up.trans up3).trans up4) os ag
      obtain ⟨oe4, vs4, he4, hz4, hd4⟩ := fl4.there
      have S4 := J4.suite he4 hd4 na nL nF
      refine store_ok (X := X.suite a ((a, oe4) :: (X.pn ++ pins))) (v := .ref a) S4 hN hi hloc rfl (fun s5 S5 => ?_) (.inr hln)
      refine wpAny_mono ((hsu a oe4 cls d (X.pn ++ pins) hz4 ⟨_, hd4⟩).run [] s5 _ H' _ S5 (hyes rfl a na)) (fun f s6 hsp => ?_) (fun _ _ z => False.elim z)
      have fin : ∀ {σ6 : St} {H6 : Hp} {Q : Shared → Prop}, Inv (X.suite a ((a, oe4) :: (X.pn ++ pins))) [] σ6 H6 s6 → (∀ s7, Inv X pins (σ6.set i none) H6 s7 → Q s7) → wpAny (model X.prog X.w) X.A (do bindName X.env n .none; unbindBehindTheSuite X.env n pos') (fun _ s7 => Q s7) X.xe s6 := fun S6 hq => gone_ok (S6.unsuite ok) hN hi hln hq
      cases f with
      | next => exact (let ⟨σ6, H6, S6, q6⟩ := hsp; fin S6 fun s7 J7 => ⟨_, _, J7, q6⟩)
      | brk => exact (let ⟨σ6, H6, S6, q6⟩ := hsp; fin S6 fun s7 J7 => ⟨_, _, J7, q6⟩)
      | cont => exact (let ⟨σ6, H6, S6, q6⟩ := hsp; fin S6 fun s7 J7 => ⟨_, _, J7, q6⟩)
      | ret u => exact (let ⟨v6, σ6, H6, S6, r6, q6⟩ := hsp; fin S6 fun s7 J7 => ⟨_, _, _, J7, r6, q6⟩)
end L2
set_option pp.maxSteps 900
namespace Op
open PySem L2 PyProof.Rows
def sOut : List Str := ["begin", "answer", "rang", "signal"]
def sNum : List Str := ["answer", "rang", "dropped"]
def sLast : List Str := ["ended", "anew"]
/-- the names of the module histories -/
structure TxtH (P : Program) (w : World) (K : PySem.W.Frag) (mg : Str → Option Value) (pF pO pN pL CH CA : Addr) : Prop extends Txt mg where
  g_FORMS : mg "FORMS" = some (.ref pF)
  w_FORMS : WTab K w pF (forms.map fun p => (p.1, .str p.2))
  g_OUTER : mg "OUTER" = some (.ref pO)
  g_NUMBERED : mg "NUMBERED" = some (.ref pN)
  g_LAST : mg "LAST" = some (.ref pL)
  s_OUTER : ∀ H, SqT K H pO (sOut.map V.str)
  s_NUMBERED : ∀ H, SqT K H pN (sNum.map V.str)
  s_LAST : ∀ H, SqT K H pL (sLast.map V.str)
  g_InvalidHistory : mg "InvalidHistory" = some (.ref CH)
  k_InvalidHistory : PySem.W.keepIn K (.ref CH) = true
  mk_InvalidHistory : XMk P w K CH 1 [] (fun vs _ => [("at", vs.headD .non)])
  r_InvalidHistory : ∀ (M : Model) (h : Heap), K.In h → PySem.W.Looks M h (isSubtype (.ref CH) (.type "BaseException")) true ∧ PySem.W.Looks M h (typeOf (.ref CH)) (.type "type")
  g_InvalidArgument : mg "InvalidArgument" = some (.ref CA)
  k_InvalidArgument : PySem.W.keepIn K (.ref CA) = true
  mk_InvalidArgument : XMk P w K CA 1 [] (fun vs _ => [("part", vs.headD .non)])
  r_InvalidArgument : ∀ (M : Model) (h : Heap), K.In h → PySem.W.Looks M h (isSubtype (.ref CA) (.type "BaseException")) true ∧ PySem.W.Looks M h (typeOf (.ref CA)) (.type "type")
theorem dp_strsV {K : PySem.W.Frag} {H : Hp} : ∀ {zs : List Str} {vs : List V}, DpAll K H vs (zs.map PyData.str) → vs = zs.map V.str
  | [], _, .nil => rfl
  | z :: r, _, .cons (.str _) h => by rw [dp_strsV h]; rfl
theorem strs_dp {K : PySem.W.Frag} {H : Hp} : ∀ zs : List Str, DpAll K H (zs.map V.str) (zs.map PyData.str)
  | [] => .nil
  | z :: r => .cons (.str z) (strs_dp r)
/-- the value of a token -/
theorem tk_at {K : PySem.W.Frag} {H : Hp} {v : V} {t : Tk} (h : Dp K H v t.d) : ∃ a, v = .ref a ∧ SqT K H a t.vs := by
  obtain ⟨k, n, ws⟩ := t
  unfold Tk.d Tk.parts at h
  cases h with
  | @tup a xs _ hs ha =>
  refine ⟨a, rfl, ?_⟩
  cases ha with
  | cons h1 h2 =>
  cases h1 with
  | str k =>
  cases n with
  | none =>
    have := dp_strsV h2
    subst this
    exact hs
  | some i =>
    cases h2 with
    | cons h3 h4 =>
    cases h3 with
    | int j =>
    have := dp_strsV h4
    subst this
    exact hs
theorem tk_dp {K : PySem.W.Frag} {H : Hp} {a : Addr} {t : Tk} (h : SqT K H a t.vs) : Dp K H (.ref a) t.d := by
  obtain ⟨k, n, ws⟩ := t
  refine .tup h (.cons (.str k) ?_)
  cases n with
  | none => exact strs_dp ws
  | some i => exact .cons (.int i) (strs_dp ws)
theorem inV_st (z : Str) : ∀ zs : List Str, inV (.str z) (zs.map V.str) = decide (z ∈ zs)
  | [] => rfl
  | x :: r => by
    have ih := inV_st z r
    unfold inV at ih ⊢
    rw [List.map_cons, List.any_cons, ih]
    by_cases e : x = z
    · subst e
      rw [show eqV (.str x) (.str x) = true by simp [eqV], decide_eq_true List.mem_cons_self]
      rfl
    · rw [show eqV (.str x) (.str z) = false by simp [eqV, e], Bool.false_or]
      exact decide_eq_decide.mpr ⟨List.mem_cons_of_mem _, fun h => by
        rcases List.mem_cons.mp h with h | h
        · exact absurd h.symm e
        · exact h⟩
theorem flat_strs (zs : List Str) : (zs.map V.str).all flatV = true := List.all_eq_true.mpr fun v hv => by
  obtain ⟨z, _, rfl⟩ := List.mem_map.mp hv
  rfl
section
variable {P : Program} {w : World} {K : PySem.W.Frag} {mg : Str → Option Value} {base : Heap} {pF pO pN pL CH CA : Addr}
def spIsOut (K : PySem.W.Frag) : Sp := fun vs H Q _ => ∃ (v : V) (t : Tk), vs = [v] ∧ Dp K H v t.d ∧ Q (.bl (isOut t)) H
theorem sc_is_outer : FnScope ["token"] ["token"] (defScope s_is_outer) := ⟨rfl, rfl, rfl, by decide +kernel, rfl, by decide +kernel, by decide +kernel⟩
theorem ok_is_outer {f : Addr} {fd : FuncData} (F : Fun K "is_outer" "is_outer" s_is_outer f fd) (T : TxtH P w K mg pF pO pN pL CH CA) : FnOk P w K mg base CX0 1 f fd ["token"] (spIsOut K) := by
  refine F.ok sc_is_outer (fun vs H Q E h => ?_) (fun cdv A outer s H vs Q E hr h => ?_)
  · obtain ⟨v, t, rfl, _⟩ := h
    rfl
  · obtain ⟨v, t, rfl, hd, k⟩ := h
    obtain ⟨a, rfl, hq⟩ := tk_at hd
    refine ⟨_, (pss_one (ps_ret (pe_cmpR op_in_seq (pe_ix ix_tup (pv 0) pe_int (fun _ _ => rfl)) (pe_gref rfl T.g_OUTER) (by rfl)))), ?_⟩
    refine ⟨_, rfl, a, _, 0, _, rfl, rfl, hq, atI_zero _ _, pO, _, rfl, .inr (T.s_OUTER _), rfl, flat_strs _, ?_⟩
    rw [inV_st]
    exact k
/-- a token and the things that are known -/
def spSuits (K : PySem.W.Frag) : Sp := fun vs H Q _ => ∃ (v : V) (t : Tk) (l : Addr) (th : List Str), vs = [v, .ref l] ∧ Dp K H v t.d ∧ Okt t ∧ H l = some (.lst (th.map V.str)) ∧ th.length ≤ 100000 ∧ Q (.bl (suits t th)) H
theorem sc_suits_things : FnScope ["token", "things", "thing"] ["token", "things"] (defScope s_suits_things) := ⟨rfl, rfl, rfl, by decide +kernel, rfl, by decide +kernel, by decide +kernel⟩
theorem ok_suits {f : Addr} {fd : FuncData} (F : Fun K "suits_things" "suits_things" s_suits_things f fd) (T : TxtH P w K mg pF pO pN pL CH CA) : FnOk P w K mg base CX0 1 f fd ["token", "things"] (spSuits K) := by
  refine F.ok sc_suits_things (fun vs H Q E h => ?_) (fun cdv A outer s H vs Q E hr h => ?_)
  · obtain ⟨v, t, l, th, rfl, _⟩ := h
    rfl
  · obtain ⟨v, t, l, th, rfl, hd, ok, hl, htl, k⟩ := h
    obtain ⟨a, rfl, hq⟩ := tk_at hd
    have hn := num_iff ok.c
    refine ⟨_, (pss_cons (ps_if (pt_cmpR op_notIn_seq (pe_ix ix_tup (pv 0) pe_int (fun _ _ => rfl)) (pe_gref rfl T.g_NUMBERED) (by rfl)) (pss_one (ps_ret pe_bl)) pss_nil)
      (pss_cons (ps_if (pt_cmpR op_ge (pe_ix ix_tup (pv 0) pe_int (fun _ _ => rfl)) (pe_callB call_len_seq (by rfl) T.b_len (by decide +kernel) (pa_cons (pv 1) pa_nil)) (nomark _)) (pss_one (ps_ret pe_bl)) pss_nil)
      (pss_cons (ps_set (i := 2) sc_suits_things.nd rfl (.inl rfl) (pe_ix ix_list (pv 1) (pe_ix ix_tup (pv 0) pe_int (fun _ _ => rfl)) (fun _ _ => rfl)))
      (pss_cons (ps_if (pt_cmpR op_eq (pe_ix ix_tup (pv 0) pe_int (fun _ _ => rfl)) pe_str (nomark _)) (pss_one (ps_ret (pe_cmpR op_eq (pv 2) pe_str (nomark _)))) pss_nil)
      (pss_cons (ps_if (pt_cmpR op_eq (pe_ix ix_tup (pv 0) pe_int (fun _ _ => rfl)) pe_str (nomark _)) (pss_one (ps_ret (pe_cmpR op_eq (pv 2) pe_str (nomark _)))) pss_nil)
      (pss_one (ps_ret (pe_cmpR op_ne (pv 2) pe_str (nomark _))))))))), ?_⟩
    refine ⟨_, rfl, a, _, 0, _, rfl, rfl, hq, atI_zero _ _, pN, _, rfl, .inr (T.s_NUMBERED _), rfl, flat_strs _, _, rfl, ?_⟩
    rw [inV_st, show decide (t.k ∈ sNum) = t.n.isSome from hn]
    cases hc : t.n with
    | none =>
      refine ifT rfl ?_
      have : suits t th = true := by unfold suits; rw [hc]
      rw [this] at k
      exact k
    | some n =>
      refine ifF rfl ?_
      have hq1 : SqT K H a (.str t.k :: .int (n : Int) :: t.ws.map V.str) := by
        have : t.vs = .str t.k :: .int (n : Int) :: t.ws.map V.str := by unfold Tk.vs; rw [hc]; rfl
        rw [← this]
        exact hq
      refine ⟨_, rfl, a, _, 1, _, rfl, rfl, hq1, atI_one _ _ _, _, rfl, l, _, rfl, .inl (.inl (.inl hl)), _, _, rfl, rfl, _, rfl, ?_⟩
      rw [List.length_map]
      by_cases hnl : n < th.length
      · have hx : th[n]? = some th[n] := List.getElem?_eq_getElem hnl
        have e : suits t th = thingFits t.k th[n] := by unfold suits; rw [hc]; dsimp only; rw [hx]
        rw [e] at k
        generalize th[n] = x at hx k
        unfold thingFits at k
        refine ifF (decide_eq_false (by omega)) ?_
        refine ⟨_, rfl, _, rfl, a, _, 1, _, rfl, rfl, hq1, atI_one _ _ _, l, _, _, .str x, rfl, rfl, .inl (.inl hl), atI_nat (by rw [List.getElem?_map, hx]; rfl), ?_⟩
        refine ⟨_, rfl, a, _, 0, _, rfl, rfl, hq1, atI_zero _ _, rfl, _, rfl, ?_⟩
        rw [dec_strV]
        by_cases e1 : t.k = "answer"
        · rw [if_pos e1] at k
          refine ifT (decide_eq_true e1) ⟨_, rfl, rfl, ?_⟩
          rw [dec_strV]
          exact k
        · rw [if_neg e1] at k
          refine ifF (decide_eq_false e1) ⟨_, rfl, a, _, 0, _, rfl, rfl, hq1, atI_zero _ _, rfl, _, rfl, ?_⟩
          rw [dec_strV]
          by_cases e2 : t.k = "rang"
          · rw [if_pos e2] at k
            refine ifT (decide_eq_true e2) ⟨_, rfl, rfl, ?_⟩
            rw [dec_strV]
            exact k
          · rw [if_neg e2] at k
            refine ifF (decide_eq_false e2) ⟨_, rfl, rfl, ?_⟩
            rw [dec_strV]
            exact k
      · have hx : th[n]? = none := List.getElem?_eq_none (by omega)
        have e : suits t th = false := by unfold suits; rw [hc]; dsimp only; rw [hx]
        rw [e] at k
        exact ifT (decide_eq_true (by omega)) k
theorem numQ {K : PySem.W.Frag} {H : Hp} {a : Addr} {t : Tk} {n : Nat} (h : SqT K H a t.vs) (hc : t.n = some n) : SqT K H a (.str t.k :: .int (n : Int) :: t.ws.map V.str) := by
  have : t.vs = .str t.k :: .int (n : Int) :: t.ws.map V.str := by unfold Tk.vs; rw [hc]; rfl
  rw [← this]
  exact h
def spEnter (K : PySem.W.Frag) : Sp := fun vs H Q _ => ∃ (v : V) (t : Tk) (l : Addr) (th : List Str), vs = [v, .ref l] ∧ Dp K H v t.d ∧ Okt t ∧ H l = some (.lst (th.map V.str)) ∧ th.length < 100000 ∧ (∀ n, t.n = some n → n < th.length) ∧ Q .non (upd H l (.lst ((enter t th).map V.str)))
theorem sc_enter_token : FnScope ["token", "things"] ["token", "things"] (defScope s_enter_token) := ⟨rfl, rfl, rfl, by decide +kernel, rfl, by decide +kernel, by decide +kernel⟩
theorem ok_enter {f : Addr} {fd : FuncData} (F : Fun K "enter_token" "enter_token" s_enter_token f fd) (T : TxtH P w K mg pF pO pN pL CH CA) : FnOk P w K mg base CX0 1 f fd ["token", "things"] (spEnter K) := by
  refine F.ok sc_enter_token (fun vs H Q E h => ?_) (fun cdv A outer s H vs Q E hr h => ?_)
  · obtain ⟨v, t, l, th, rfl, _⟩ := h
    rfl
  · obtain ⟨v, t, l, th, rfl, hd, ok, hl, htl, hin, k⟩ := h
    obtain ⟨a, rfl, hq⟩ := tk_at hd
    have hn := num_iff ok.c
    have same : ∀ zs : List Str, zs = th → upd H l (.lst (zs.map V.str)) = H := fun zs e => by
      rw [e]
      funext b
      by_cases q : b = l
      · rw [q, upd_same, hl]
      · rw [L2.upd_ne q]
    unfold enter at k
    refine ⟨_, (pss_one (ps_if (pt_cmpR op_eq (pe_ix ix_tup (pv 0) pe_int (fun _ _ => rfl)) pe_str (nomark _)) (pss_one (ps_expr (pe_bm PySem.F.plainAttrs_list PySem.F.slot_list_append PySem.F.type_list_append mt_append (pv 1) (pa_cons pe_str pa_nil)))) (pss_one (ps_if (pt_cmpR op_eq (pe_ix ix_tup (pv 0) pe_int (fun _ _ => rfl)) pe_str (nomark _)) (pss_one (ps_expr (pe_bm PySem.F.plainAttrs_list PySem.F.slot_list_append PySem.F.type_list_append mt_append (pv 1) (pa_cons pe_str pa_nil)))) (pss_one (ps_if (pt_cmpR op_in_seq (pe_ix ix_tup (pv 0) pe_int (fun _ _ => rfl)) (pe_gref rfl T.g_NUMBERED) (by rfl)) (pss_one (ps_asg pe_str (pg_sub (pv 1) (pe_ix ix_tup (pv 0) pe_int (fun _ _ => rfl)) set_list))) pss_nil)))))), ?_⟩
    refine ⟨_, rfl, a, _, 0, _, rfl, rfl, hq, atI_zero _ _, rfl, _, rfl, ?_⟩
    rw [dec_strV]
    by_cases e1 : t.k = "asked"
    · rw [if_pos e1, List.map_append] at k
      exact ifT (decide_eq_true e1) ⟨_, rfl, .inl ⟨rfl, _, .inl (.inl hl)⟩, l, _, _, rfl, rfl, hl, lt_sz (by rw [List.length_map]; exact htl), k⟩
    rw [if_neg e1] at k
    refine ifF (decide_eq_false e1) ⟨_, rfl, a, _, 0, _, rfl, rfl, hq, atI_zero _ _, rfl, _, rfl, ?_⟩
    rw [dec_strV]
    by_cases e2 : t.k = "set"
    · rw [if_pos e2, List.map_append] at k
      exact ifT (decide_eq_true e2) ⟨_, rfl, .inl ⟨rfl, _, .inl (.inl hl)⟩, l, _, _, rfl, rfl, hl, lt_sz (by rw [List.length_map]; exact htl), k⟩
    rw [if_neg e2] at k
    refine ifF (decide_eq_false e2) ⟨_, rfl, a, _, 0, _, rfl, rfl, hq, atI_zero _ _, pN, _, rfl, .inr (T.s_NUMBERED _), rfl, flat_strs _, _, rfl, ?_⟩
    rw [inV_st, show decide (t.k ∈ sNum) = t.n.isSome from hn]
    cases hc : t.n with
    | none =>
      rw [hc, same _ rfl] at k
      exact ifF rfl k
    | some n =>
      rw [hc] at k
      refine ifT rfl ⟨_, rfl, _, rfl, a, _, 1, _, rfl, rfl, numQ hq hc, atI_one _ _ _, l, _, (n : Int), n, rfl, rfl, hl, ixN_nat (by rw [List.length_map]; exact hin n hc), ?_⟩
      rw [List.map_set] at k
      exact k
def spRen (K : PySem.W.Frag) : Sp := fun vs H Q _ => ∃ (v : V) (t : Tk) (n : Nat), vs = [v, .int (n : Int)] ∧ Dp K H v t.d ∧ Okt t ∧ t.n.isSome = true ∧ ∀ v' H', Same H H' → Dp K H' v' (ren t n).d → Q v' H'
theorem sc_renamed : FnScope ["token", "number"] ["token", "number"] (defScope s_renamed) := ⟨rfl, rfl, rfl, by decide +kernel, rfl, by decide +kernel, by decide +kernel⟩
theorem ok_renamed {f : Addr} {fd : FuncData} (F : Fun K "renamed" "renamed" s_renamed f fd) : FnOk P w K mg base CX0 1 f fd ["token", "number"] (spRen K) := by
  refine F.ok sc_renamed (fun vs H Q E h => ?_) (fun cdv A outer s H vs Q E hr h => ?_)
  · obtain ⟨v, t, n, rfl, _⟩ := h
    rfl
  · obtain ⟨v, t, n, rfl, hd, ok, hs, k⟩ := h
    obtain ⟨a, rfl, hq⟩ := tk_at hd
    have hc := ok.c
    refine ⟨_, (pss_cons (ps_if (pt_cmpR op_eq (pe_ix ix_tup (pv 0) pe_int (fun _ _ => rfl)) pe_str (nomark _)) (pss_one (ps_ret (pe_tup (pa_cons pe_str (pa_cons (pv 1) (pa_cons (pe_ix ix_tup (pv 0) pe_int (fun _ _ => rfl)) pa_nil)))))) pss_nil)
      (pss_one (ps_ret (pe_tup (pa_cons (pe_ix ix_tup (pv 0) pe_int (fun _ _ => rfl)) (pa_cons (pv 1) pa_nil)))))), ?_⟩
    refine ⟨_, rfl, a, _, 0, _, rfl, rfl, hq, atI_zero _ _, rfl, _, rfl, ?_⟩
    rw [dec_strV]
    cases hc with
    | @answer m w hw =>
      refine ifT rfl ⟨_, rfl, _, rfl, a, _, 2, _, rfl, rfl, hq, rfl, sz_lit (by show 3 ≤ 100000; decide), fun q hq' => ?_⟩
      exact k _ _ (Same.new hq') (tk_dp (t := ren ⟨"answer", some m, [w]⟩ n) (.inl (.inl upd_same)))
    | @rang m =>
      refine ifF (show decide (("rang" : Str) = "answer") = false by decide +kernel) ⟨_, rfl, a, _, 0, _, rfl, rfl, hq, atI_zero _ _, _, rfl, sz2 _ _, fun q hq' => ?_⟩
      exact k _ _ (Same.new hq') (tk_dp (t := ren ⟨"rang", some m, []⟩ n) (.inl (.inl upd_same)))
    | @dropped m =>
      refine ifF (show decide (("dropped" : Str) = "answer") = false by decide +kernel) ⟨_, rfl, a, _, 0, _, rfl, rfl, hq, atI_zero _ _, _, rfl, sz2 _ _, fun q hq' => ?_⟩
      exact k _ _ (Same.new hq') (tk_dp (t := ren ⟨"dropped", some m, []⟩ n) (.inl (.inl upd_same)))
    | _ => cases hs
end
end Op
set_option pp.maxSteps 500
namespace Op
open PySem L2 PyProof.Rows
theorem forms_look (x : Str) : (forms.map fun p => (p.1, V.str p.2)).lookup x = (forms.lookup x).map V.str := by
  generalize forms = l
  induction l with
  | nil => rfl
  | cons p r ih =>
    obtain ⟨a, b⟩ := p
    simp only [List.map_cons, List.lookup_cons]
    cases x == a with
    | true => rfl
    | false => exact ih
theorem cut1T (v : V) (r : List V) : cutV (v :: r) (some 1) none = r := by
  unfold cutV
  rw [HT.sIx_none, show (1 : Int) = ((1 : Nat) : Int) from rfl, HT.sIx_nat, List.length_cons, show min 1 (r.length + 1) = 1 by omega]
  show r.take (r.length + 1 - 1) = r
  rw [List.take_of_length_le (by omega)]
theorem cut1nT (v : V) (r : List V) : ¬ (HT.sIx (v :: r).length 0 (some 1) = 0 ∧ HT.sIx (v :: r).length (v :: r).length none = (v :: r).length) := by
  rw [show (1 : Int) = ((1 : Nat) : Int) from rfl, HT.sIx_nat, List.length_cons]
  omega
theorem forms_ok {k f : Str} (h : forms.lookup k = some f) : f.length ≤ 4 ∧ ∀ c ∈ f.cps.toList, c = 119 ∨ c = 110 := by
  have key : ∀ (l : List (Str × Str)) (kind sh : Str), l.all (fun p => decide (p.2.length ≤ 4) && p.2.cps.toList.all fun c => decide (c = 119 ∨ c = 110)) = true → l.lookup kind = some sh → sh.length ≤ 4 ∧ ∀ c ∈ sh.cps.toList, c = 119 ∨ c = 110 := by
    intro l
    induction l with
    | nil => intro kind sh _ h; cases h
    | cons p r ih =>
      intro kind sh ha h
      obtain ⟨a, b⟩ := p
      obtain ⟨h1, h2⟩ := Bool.and_eq_true_iff.mp ha
      rw [List.lookup_cons] at h
      cases q : kind == a with
      | true =>
        rw [q] at h
        obtain rfl := Option.some.inj h
        obtain ⟨h3, h4⟩ := Bool.and_eq_true_iff.mp h1
        exact ⟨of_decide_eq_true h3, fun c hc => of_decide_eq_true (List.all_eq_true.mp h4 c hc)⟩
      | false =>
        rw [q] at h
        exact ih kind sh h2 h
  exact key forms k f (by decide +kernel) h
/-- the parts of a tuple are not too long -/
def Short (d : PyData) : Prop := ∀ k ps, d = .tuple (k :: ps) → ∀ x, PyData.str x ∈ ps → x.length ≤ 100000
theorem parts_of : ∀ {cs : List Nat} {ds : List PyData}, cs.length = ds.length → (∀ c ∈ cs, c = 119 ∨ c = 110) → (cs.zip ds).all (fun p => codeFits p.1 p.2) = true → ∀ (nw : cs = [119] ∨ cs = [110, 119] ∨ cs = [110] ∨ cs = [119, 119] ∨ cs = []), ∃ (n : Option Nat) (ws : List Str), ds = (n.toList.map fun n : Nat => PyData.int (n : Int)) ++ ws.map .str ∧ cs = (n.toList.map fun _ => 110) ++ ws.map (fun _ => 119) ∧ ∀ w ∈ ws, isWordS w = true := by
  have word : ∀ d, codeFits 119 d = true → ∃ w, d = .str w ∧ isWordS w = true := fun d h => by
    unfold codeFits at h
    rw [if_pos rfl] at h
    cases d with
    | str w => exact ⟨w, rfl, h⟩
    | _ => cases h
  have num : ∀ d, codeFits 110 d = true → ∃ n : Nat, d = .int (n : Int) := fun d h => by
    unfold codeFits at h
    rw [if_neg (by decide)] at h
    cases d with
    | int i => exact ⟨i.toNat, by have := of_decide_eq_true h; congr 1; omega⟩
    | _ => cases h
  intro cs ds hl _ ha nw
  rcases nw with rfl | rfl | rfl | rfl | rfl
  · obtain ⟨d, rfl⟩ := List.length_eq_one_iff.mp hl.symm
    simp only [List.zip_cons_cons, List.zip_nil_left, List.all_cons, List.all_nil, Bool.and_true] at ha
    obtain ⟨w, rfl, hw⟩ := word d ha
    exact ⟨none, [w], rfl, rfl, fun x hx => by rw [List.mem_singleton.mp hx]; exact hw⟩
  · match ds, hl with
    | [d, e], _ =>
    simp only [List.zip_cons_cons, List.zip_nil_left, List.all_cons, List.all_nil, Bool.and_true, Bool.and_eq_true] at ha
    obtain ⟨n, rfl⟩ := num d ha.1
    obtain ⟨w, rfl, hw⟩ := word e ha.2
    exact ⟨some n, [w], rfl, rfl, fun x hx => by rw [List.mem_singleton.mp hx]; exact hw⟩
  · obtain ⟨d, rfl⟩ := List.length_eq_one_iff.mp hl.symm
    simp only [List.zip_cons_cons, List.zip_nil_left, List.all_cons, List.all_nil, Bool.and_true] at ha
    obtain ⟨n, rfl⟩ := num d ha
    exact ⟨some n, [], rfl, rfl, fun x hx => (List.not_mem_nil hx).elim⟩
  · match ds, hl with
    | [d, e], _ =>
    simp only [List.zip_cons_cons, List.zip_nil_left, List.all_cons, List.all_nil, Bool.and_true, Bool.and_eq_true] at ha
    obtain ⟨v, rfl, hv⟩ := word d ha.1
    obtain ⟨w, rfl, hw⟩ := word e ha.2
    refine ⟨none, [v, w], rfl, rfl, fun x hx => ?_⟩
    rcases List.mem_cons.mp hx with rfl | hx
    · exact hv
    · rw [List.mem_singleton.mp hx]; exact hw
  · obtain rfl : ds = [] := List.length_eq_zero_iff.mp hl.symm
    exact ⟨none, [], rfl, rfl, fun x hx => (List.not_mem_nil hx).elim⟩
theorem sig_forms {k f : Str} (h : forms.lookup k = some f) : f.cps.toList = [119] ∨ f.cps.toList = [110, 119] ∨ f.cps.toList = [110] ∨ f.cps.toList = [119, 119] ∨ f.cps.toList = [] := by
  have hm := look_mem h
  have key : forms.all (fun p => decide (p.2.cps.toList = [119] ∨ p.2.cps.toList = [110, 119] ∨ p.2.cps.toList = [110] ∨ p.2.cps.toList = [119, 119] ∨ p.2.cps.toList = [])) = true := by decide +kernel
  exact of_decide_eq_true (List.all_eq_true.mp key _ hm)
theorem hform {k f : Str} {parts : List PyData} (h : forms.lookup k = some f) (hl : parts.length = f.length) (ha : (f.cps.toList.zip parts).all (fun p => codeFits p.1 p.2) = true) : hasForm (.tuple (.str k :: parts)) = true := by
  unfold hasForm
  dsimp only
  rw [h]
  dsimp only
  rw [decide_eq_true hl, ha]
  rfl
theorem fit_w {w : Str} (h : isWordS w = true) : codeFits 119 (.str w) = true := by
  unfold codeFits
  rw [if_pos rfl]
  exact h
theorem fit_n (n : Nat) : codeFits 110 (.int (n : Int)) = true := by
  unfold codeFits
  rw [if_neg (by decide)]
  exact decide_eq_true (by omega)
theorem hform_w {k w : Str} (h : forms.lookup k = some "w") (hw : isWordS w = true) : hasForm (Tk.d ⟨k, none, [w]⟩) = true :=
  hform h rfl (by show (codeFits 119 (.str w) && true) = true; rw [fit_w hw]; rfl)
theorem hform_n {k : Str} {n : Nat} (h : forms.lookup k = some "n") : hasForm (Tk.d ⟨k, some n, []⟩) = true :=
  hform h rfl (by show (codeFits 110 (.int (n : Int)) && true) = true; rw [fit_n]; rfl)
/-- what has a form is a token -/
theorem hasForm_iff (d : PyData) : hasForm d = true ↔ ∃ t, Okt t ∧ d = t.d := by
  constructor
  · intro h
    unfold hasForm at h
    split at h
    · rename_i k parts
      split at h
      · cases h
      · rename_i f hf
        obtain ⟨h1, h2⟩ := Bool.and_eq_true_iff.mp h
        have h1 := of_decide_eq_true h1
        obtain ⟨n, ws, h3, h4, h5⟩ := parts_of (cs := f.cps.toList) (ds := parts) (h1.symm) (forms_ok hf).2 h2 (sig_forms hf)
        exact ⟨⟨k, n, ws⟩, ⟨f, hf, h4, h5⟩, by unfold Tk.d Tk.parts; rw [← h3]⟩
    · cases h
  · rintro ⟨t, ok, rfl⟩
    cases ok.c with
    | begin hw => exact hform_w (by decide +kernel) hw
    | answer hw => exact hform (show forms.lookup ("answer" : Str) = some ("nw" : Str) by decide +kernel) rfl (by show (codeFits 110 _ && (codeFits 119 _ && true)) = true; rw [fit_n, fit_w hw]; rfl)
    | rang => exact hform_n (by decide +kernel)
    | signal ha hb => exact hform (show forms.lookup ("signal" : Str) = some ("ww" : Str) by decide +kernel) rfl (by show (codeFits 119 _ && (codeFits 119 _ && true)) = true; rw [fit_w ha, fit_w hb]; rfl)
    | asked hw => exact hform_w (by decide +kernel) hw
    | set => exact hform (show forms.lookup ("set" : Str) = some ("" : Str) by decide +kernel) rfl rfl
    | dropped => exact hform_n (by decide +kernel)
    | noted hw => exact hform_w (by decide +kernel) hw
    | marked hw => exact hform_w (by decide +kernel) hw
    | ended hw => exact hform_w (by decide +kernel) hw
    | anew hw => exact hform_w (by decide +kernel) hw
section
variable {P : Program} {w : World} {K : PySem.W.Frag} {mg : Str → Option Value} {base : Heap} {pF pO pN pL CH CA : Addr}
def spForm (K : PySem.W.Frag) : Sp := fun vs H Q _ => ∃ (v : V) (d : PyData), vs = [v] ∧ Dp K H v d ∧ Short d ∧ ∀ H', Same H H' → Q (.bl (hasForm d)) H'
theorem sc_has_form : FnScope ["token", "code", "part"] ["token"] (defScope s_has_form) := ⟨rfl, rfl, rfl, by decide +kernel, rfl, by decide +kernel, by decide +kernel⟩
theorem ok_has_form {f : Addr} {fd : FuncData} (F : Fun K "has_form" "has_form" s_has_form f fd) (T : TxtH P w K mg pF pO pN pL CH CA) (c_is_word : Cal P w K mg base CX0 1 "is_word" ["value"] (spWord K)) (c_is_integer : Cal P w K mg base CX0 1 "is_integer" ["value"] (spInt K)) : FnOk P w K mg base CX0 2 f fd ["token"] (spForm K) := by
  refine F.ok sc_has_form (fun vs H Q E h => ?_) (fun cdv A outer s H vs Q E hr h => ?_)
  · obtain ⟨v, d, rfl, _⟩ := h
    rfl
  · obtain ⟨v, d, rfl, hd, hsh, k⟩ := h
    refine ⟨_, (pss_cons (ps_if (PW.pt (pw_or (pt_not (pt_val (pe_callB call_isi (by rfl) T.b_isinstance (by decide +kernel) (pa_cons (pv 0) (pa_cons (pe_bltn (v := .ty "tuple") (by rfl) T.b_tuple (by decide +kernel) rfl) pa_nil))))) (pw_or (pt_cmpR op_eq (pe_callB call_len_seq (by rfl) T.b_len (by decide +kernel) (pa_cons (pv 0) pa_nil)) pe_int (nomark _)) (pw_or1 (pt_not (pt_val (pe_callB call_isi (by rfl) T.b_isinstance (by decide +kernel) (pa_cons (pe_ix ix_tup (pv 0) pe_int (fun _ _ => rfl)) (pa_cons (pe_bltn (v := .ty "str") (by rfl) T.b_str (by decide +kernel) rfl) pa_nil))))))))) (pss_one (ps_ret pe_bl)) pss_nil)
      (pss_cons (ps_if (PW.pt (pw_or (pt_cmpR op_notIn_wtab (pe_ix ix_tup (pv 0) pe_int (fun _ _ => rfl)) (pe_gref rfl T.g_FORMS) (by rfl)) (pw_or1 (pt_cmpR op_ne (pe_callB call_len_seq (by rfl) T.b_len (by decide +kernel) (pa_cons (pv 0) pa_nil)) (pe_op op_add pe_int (pe_callB call_len_str (by rfl) T.b_len (by decide +kernel) (pa_cons (pe_ix ix_wtab (pe_gref rfl T.g_FORMS) (pe_ix ix_tup (pv 0) pe_int (fun _ _ => rfl)) (fun _ _ => rfl)) pa_nil))) (nomark _))))) (pss_one (ps_ret pe_bl)) pss_nil)
      (pss_cons (ps_for PassesOwn.never rfl (pi_zipS (by rfl) T.b_zip (pa_cons (pe_ix ix_wtab (pe_gref rfl T.g_FORMS) (pe_ix ix_tup (pv 0) pe_int (fun _ _ => rfl)) (fun _ _ => rfl)) (pa_cons (pe_slice sl_tupA (pv 0) (po_some pe_int) po_none) pa_nil))) (pg_tup rfl (pgs_cons (pg_name (i := 1) sc_has_form.nd rfl (.inl rfl)) (pgs_cons (pg_name (i := 2) sc_has_form.nd rfl (.inl rfl)) pgs_nil))) (pss_cons (ps_if (PW.pt (pw_and (pt_cmpR op_eq (pv 1) pe_str (nomark _)) (pw_and1 (pt_not (pt_val (pe_cal c_is_word (hr.mono (by omega)) rfl pass0 (pa_cons (pv 2) pa_nil))))))) (pss_one (ps_ret pe_bl)) pss_nil)
      (pss_one (ps_if (PW.pt (pw_and (pt_cmpR op_eq (pv 1) pe_str (nomark _)) (pw_and1 (PW.pt (pw_or (pt_not (pt_val (pe_cal c_is_integer (hr.mono (by omega)) rfl pass0 (pa_cons (pv 2) pa_nil)))) (pw_or1 (pt_cmpR op_lt (pv 2) pe_int (nomark _)))))))) (pss_one (ps_ret pe_bl)) pss_nil))))
      (pss_one (ps_ret pe_bl))))), ?_⟩
    refine ⟨_, rfl, v, _, _, _, _, rfl, .ty _, ty_dp hd, kit_tuple d, _, rfl, ?_⟩
    cases hd with
    | @tup t xs ds hq ha =>
      refine ifF rfl ⟨_, rfl, t, xs, rfl, .inr hq, rfl, _, rfl, ?_⟩
      cases ha with
      | nil => exact ifT rfl (ifT rfl (k _ (Same.refl _)))
      | @cons v0 vr d0 dr h0 hr0 =>
      refine ifF (decide_eq_false (by intro z; injection z with z; rw [List.length_cons] at z; omega)) ?_
      refine ⟨_, rfl, t, _, 0, _, rfl, rfl, hq, atI_zero _ _, v0, _, _, _, _, rfl, .ty _, ty_dp h0, kit_str d0, _, rfl, ?_⟩
      cases h0 with
      | str kind =>
        refine ifF rfl ?_
        refine ⟨_, rfl, t, _, 0, _, rfl, rfl, hq, atI_zero _ _, pF, kind, _, rfl, rfl, T.w_FORMS, _, rfl, ?_⟩
        rw [forms_look]
        unfold hasForm at k
        dsimp only at k
        cases hf : forms.lookup kind with
        | none =>
          rw [hf] at k
          exact ifT rfl (ifT rfl (k _ (Same.refl _)))
        | some sh =>
        rw [hf] at k
        dsimp only at k
        have hsl := (forms_ok hf).1
        have hvl := hr0.len
        refine ifF rfl ⟨_, rfl, t, _, rfl, .inr hq, _, rfl, t, _, 0, _, rfl, rfl, hq, atI_zero _ _, pF, kind, _, .str sh, rfl, rfl, T.w_FORMS, by rw [forms_look, hf]; rfl, sh, rfl, sz_lit (by omega), _, _, rfl, rfl, rfl, _, rfl, ?_⟩
        have el : decide (V.int ((V.str kind :: vr).length : Nat) = V.int (1 + (sh.length : Nat))) = decide (dr.length = sh.length) := by
          rw [Bool.eq_iff_iff, decide_eq_true_iff, decide_eq_true_iff, List.length_cons]
          constructor
          · intro z; injection z with z; omega
          · intro z; congr 1; omega
        rw [el]
        by_cases e3 : ¬ dr.length = sh.length
        · rw [decide_eq_false e3, Bool.false_and] at k
          rw [decide_eq_false e3]
          exact ifT rfl (k _ (Same.refl _))
        have e3 : dr.length = sh.length := Decidable.byContradiction e3
        rw [decide_eq_true e3, Bool.true_and] at k
        rw [decide_eq_true e3]
        refine ifF rfl ⟨_, rfl, t, _, 0, _, rfl, rfl, hq, atI_zero _ _, pF, kind, _, .str sh, rfl, rfl, T.w_FORMS, by rw [forms_look, hf]; rfl, _, rfl, 1, rfl, t, _, rfl, hq, fun z => absurd z (cut1nT _ _), fun _ p hp => ?_⟩
        rw [cut1T]
        have sm : Same H (upd H p (.tup vr)) := Same.new hp
        refine ⟨sh, p, vr, rfl, .inl (.inl upd_same), ?_⟩
        have hlen : sh.cps.size = dr.length := e3.symm
        refine for_zipS (by omega) (fun i σ H' => (∃ y1 y2 : Option V, σ = [some (.ref t), y1, y2]) ∧ Same H H' ∧ SqT K H' p vr ∧ ((sh.cps.toList.zip dr).take i).all (fun p => codeFits p.1 p.2) = true) ⟨⟨_, _, rfl⟩, sm, .inl (.inl upd_same), rfl⟩ (fun i σ H' q => q.2.2.1) ?_ ?_
        · rintro i ch y T0 σ H' h1 h2 ⟨⟨y1, y2, rfl⟩, s1, hp1, hall⟩ hT0
          obtain ⟨d, h3, hdy⟩ := hr0.get h2
          have sm1 : Same H' (upd H' T0 (.tup [.str ⟨#[ch]⟩, y])) := Same.new hT0
          have hz : (sh.cps.toList.zip dr)[i]? = some (ch, d) := by
            rw [List.getElem?_zip_eq_some]
            exact ⟨by rw [Array.getElem?_toList]; exact h1, h3⟩
          refine ⟨T0, _, rfl, .inl (.inl upd_same), rfl, _, _, rfl, _, _, rfl, rfl, ?_⟩
          have s2 := s1.trans sm1
          have hp2 := hp1.mono sm1
          revert s2 hp2
          generalize upd H' T0 (.tup [.str ⟨#[ch]⟩, y]) = H2
          intro s2 hp2
          have hdy2 := hdy.mono s2
          have hch := (forms_ok hf).2 ch (by rw [Array.mem_toList_iff]; exact Array.mem_of_getElem? h1)
          have go : ∀ b, codeFits ch d = b → (if b = true then ((sh.cps.toList.zip dr).take (i + 1)).all (fun p => codeFits p.1 p.2) = true else (sh.cps.toList.zip dr).all (fun p => codeFits p.1 p.2) = false) := fun b hb => by
            cases b with
            | true =>
              rw [if_pos rfl, TS.take_one hz, List.all_append, hall]
              simp [hb]
            | false =>
              rw [if_neg Bool.false_ne_true]
              refine Bool.eq_false_iff.mpr fun z => ?_
              have := List.all_eq_true.mp z (ch, d) (List.mem_of_getElem? hz)
              dsimp only at this
              rw [hb] at this
              cases this
          refine ⟨_, rfl, rfl, _, rfl, ?_⟩
          rcases hch with rfl | rfl
          · refine ifT (by decide +kernel) ⟨_, rfl, y, d, rfl, hdy2, fun x e => hsh _ _ rfl x (e ▸ List.mem_of_getElem? h3), _, rfl, ?_⟩
            have g := go _ (show codeFits 119 d = isWord d by unfold codeFits; rw [if_pos rfl])
            revert g
            cases isWord d with
            | true =>
              intro g
              rw [if_pos rfl] at g
              exact ifF rfl ⟨_, rfl, rfl, _, rfl, ifF (by decide +kernel) ⟨⟨_, _, rfl⟩, s2, hp2, g⟩⟩
            | false =>
              intro g
              rw [if_neg Bool.false_ne_true] at g
              rw [g] at k
              exact ifT rfl (k _ s2)
          · refine ifF (by decide +kernel) ⟨_, rfl, rfl, _, rfl, ifT (by decide +kernel) ⟨_, rfl, y, d, rfl, hdy2, _, rfl, ?_⟩⟩
            have yes : isInt d = false ∨ (∃ n : Int, d = .int n ∧ n < 0) → Q (.bl false) H2 := fun h => by
              have g := go false (by
                unfold codeFits
                rw [if_neg (by decide)]
                rcases h with h | ⟨n, rfl, h⟩
                · cases d <;> first | rfl | cases h
                · exact decide_eq_false (by omega))
              rw [if_neg Bool.false_ne_true] at g
              rw [g] at k
              exact k _ s2
            cases hdy2 with
            | int n =>
              refine ifF rfl ⟨_, rfl, _, _, rfl, rfl, _, rfl, ?_⟩
              by_cases hn : n < 0
              · exact ifT (decide_eq_true hn) (yes (.inr ⟨n, rfl, hn⟩))
              · have g := go true (by unfold codeFits; rw [if_neg (by decide)]; exact decide_eq_true (by omega))
                rw [if_pos rfl] at g
                exact ifF (decide_eq_false hn) ⟨⟨_, _, rfl⟩, s2, hp2, g⟩
            | _ => exact ifT rfl (ifT rfl (yes (.inl rfl)))
        · rintro σ H' ⟨⟨y1, y2, rfl⟩, s1, _, hall⟩
          rw [List.take_of_length_le (by rw [List.length_zip, Array.length_toList]; omega)] at hall
          rw [hall] at k
          exact k _ s1
      | _ => exact ifT rfl (k _ (Same.refl _))
    | _ => exact ifT rfl (ifT rfl (k _ (Same.refl _)))
end
end Op
set_option pp.maxSteps 500
namespace Op
open PySem L2 PyProof.Rows
theorem sqt_updL {K : PySem.W.Frag} {H : Hp} {a D : Addr} {xs ys : List V} {o : HO} (h : SqT K H a xs) (hD : H D = some (.lst ys)) : SqT K (upd H D o) a xs := by
  rcases h with (h | ⟨u, h⟩) | h
  · exact .inl (.inl (by rw [L2.upd_ne fun q => by rw [q, hD] at h; cases h]; exact h))
  · exact .inl (.inr ⟨u, by rw [L2.upd_ne fun q => by rw [q, hD] at h; cases h]; exact h⟩)
  · exact .inr h
/-- tokens at a list of values -/
def Tks (K : PySem.W.Frag) (H : Hp) (vs : List V) (ts : List Tk) : Prop := DpAll K H vs (ts.map Tk.d)
theorem Tks.mono {K : PySem.W.Frag} {H H' : Hp} {vs : List V} {ts : List Tk} (h : Tks K H vs ts) (s : Same H H') : Tks K H' vs ts := DpAll.mono s h
theorem tk_updL {K : PySem.W.Frag} {H : Hp} {D : Addr} {ys : List V} {o : HO} {v : V} {t : Tk} (h : Dp K H v t.d) (hD : H D = some (.lst ys)) : Dp K (upd H D o) v t.d := by
  obtain ⟨a, rfl, hq⟩ := tk_at h
  exact tk_dp (sqt_updL hq hD)
theorem Tks.updL {K : PySem.W.Frag} {H : Hp} {D : Addr} {ys : List V} {o : HO} (hD : H D = some (.lst ys)) : ∀ {vs : List V} {ts : List Tk}, Tks K H vs ts → Tks K (upd H D o) vs ts
  | _, [], .nil => .nil
  | _, t :: r, .cons h1 h2 => .cons (tk_updL h1 hD) (Tks.updL hD (ts := r) h2)
theorem Tks.app {K : PySem.W.Frag} {H : Hp} : ∀ {vs us : List V} {ts rs : List Tk}, Tks K H vs ts → Tks K H us rs → Tks K H (vs ++ us) (ts ++ rs)
  | _, _, [], _, .nil, h => h
  | _, _, t :: r, _, .cons h1 h2, h => .cons h1 (Tks.app (ts := r) h2 h)
theorem Tks.one {K : PySem.W.Frag} {H : Hp} {v : V} {t : Tk} (h : Dp K H v t.d) : Tks K H [v] [t] := .cons h .nil
theorem Tks.len {K : PySem.W.Frag} {H : Hp} {vs : List V} {ts : List Tk} (h : Tks K H vs ts) : vs.length = ts.length := by
  have := DpAll.len h
  rw [List.length_map] at this
  exact this
theorem Tks.get {K : PySem.W.Frag} {H : Hp} {vs : List V} {ts : List Tk} {i : Nat} {v : V} (h : Tks K H vs ts) (hv : vs[i]? = some v) : ∃ t, ts[i]? = some t ∧ Dp K H v t.d := by
  obtain ⟨d, h1, h2⟩ := DpAll.get h hv
  rw [List.getElem?_map] at h1
  cases q : ts[i]? with
  | none => rw [q] at h1; cases h1
  | some t =>
    rw [q] at h1
    obtain rfl := Option.some.inj h1
    exact ⟨t, rfl, h2⟩
/-- turns at a list -/
def TR (K : PySem.W.Frag) (H : Hp) (q : Addr) (tss : List (List Tk)) : Prop := ∃ ps : List Addr, H q = some (.lst (ps.map V.ref)) ∧ ps.length = tss.length ∧ ∀ (i : Nat) (p : Addr) (ts : List Tk), ps[i]? = some p → tss[i]? = some ts → ∃ vs, H p = some (.lst vs) ∧ Tks K H vs ts
theorem TR.mono {K : PySem.W.Frag} {H H' : Hp} {q : Addr} {tss : List (List Tk)} (h : TR K H q tss) (s : Same H H') : TR K H' q tss := by
  obtain ⟨ps, h1, h2, h3⟩ := h
  refine ⟨ps, s _ _ h1, h2, fun i p ts e1 e2 => ?_⟩
  obtain ⟨vs, h4, h5⟩ := h3 i p ts e1 e2
  exact ⟨vs, s _ _ h4, h5.mono s⟩
/-- new turns at a new list -/
def TT (K : PySem.W.Frag) (H0 H : Hp) (q : Addr) (tss : List (List Tk)) : Prop := ∃ ps : List Addr, H q = some (.lst (ps.map V.ref)) ∧ H0 q = none ∧ ps.Nodup ∧ q ∉ ps ∧ (∀ p ∈ ps, H0 p = none) ∧ ps.length = tss.length ∧
  ∀ (i : Nat) (p : Addr) (ts : List Tk), ps[i]? = some p → tss[i]? = some ts → ∃ vs, H p = some (.lst vs) ∧ Tks K H vs ts
theorem TT.r {K : PySem.W.Frag} {H0 H : Hp} {q : Addr} {tss : List (List Tk)} (h : TT K H0 H q tss) : TR K H q tss :=
  let ⟨ps, h1, _, _, _, _, h2, h3⟩ := h
  ⟨ps, h1, h2, h3⟩
theorem Same.updN {H H' : Hp} {a : Addr} {o : HO} (s : Same H H') (h : H a = none) : Same H (upd H' a o) := fun b u e => by
  rw [L2.upd_ne (ne_of_none e h)]
  exact s b u e
theorem TT.nil {K : PySem.W.Frag} {H0 H : Hp} {q : Addr} (h : H q = some (.lst [])) (h0 : H0 q = none) : TT K H0 H q [] :=
  ⟨[], h, h0, List.nodup_nil, List.not_mem_nil, fun p hp => (List.not_mem_nil hp).elim, rfl, fun i p ts e => by cases e⟩
/-- a new turn of its own behind the turns -/
theorem TT.push {K : PySem.W.Frag} {H0 H : Hp} {q p : Addr} {tss : List (List Tk)} {ps : List Addr} {vs : List V} {ts : List Tk} (h : TT K H0 H q tss) (hq : H q = some (.lst (ps.map V.ref))) (hp : H p = some (.lst vs)) (hn : p ∉ ps) (hpq : p ≠ q) (h0 : H0 p = none) (ht : Tks K H vs ts) :
    TT K H0 (upd H q (.lst (ps.map V.ref ++ [.ref p]))) q (tss ++ [ts]) := by
  obtain ⟨ps', h1, h2, h3, h4, h5, h6, h7⟩ := h
  obtain rfl : ps' = ps := by
    rw [hq] at h1
    injection h1 with h1
    injection h1 with h1
    exact (List.map_inj_right (fun a b e => by injection e)).mp h1.symm
  refine ⟨ps' ++ [p], by rw [upd_same, List.map_append]; rfl, h2, List.nodup_append.mpr ⟨h3, List.pairwise_singleton _ _, fun a ha b hb => by rw [List.mem_singleton.mp hb]; exact fun e => hn (e ▸ ha)⟩, fun z => ?_, fun b hb => ?_, by rw [List.length_append, List.length_append, h6]; rfl, fun i b us e1 e2 => ?_⟩
  · rcases List.mem_append.mp z with z | z
    · exact h4 z
    · exact hpq (List.mem_singleton.mp z).symm
  · rcases List.mem_append.mp hb with z | z
    · exact h5 b z
    · rw [List.mem_singleton.mp z]; exact h0
  · by_cases hi : i < ps'.length
    · rw [List.getElem?_append_left hi] at e1
      rw [List.getElem?_append_left (by omega)] at e2
      obtain ⟨ws, h8, h9⟩ := h7 i b us e1 e2
      have hb : b ≠ q := fun e => h4 (e ▸ List.mem_of_getElem? e1)
      exact ⟨ws, by rw [L2.upd_ne hb]; exact h8, h9.updL hq⟩
    · rw [List.getElem?_append_right (by omega)] at e1
      rw [List.getElem?_append_right (by omega)] at e2
      obtain ⟨z1, z2⟩ : b = p ∧ us = ts := by
        rw [← h6] at e2
        cases hz : i - ps'.length with
        | zero =>
          rw [hz] at e1 e2
          exact ⟨(Option.some.inj e1).symm, (Option.some.inj e2).symm⟩
        | succ n => rw [hz] at e1; cases e1
      subst z1 z2
      exact ⟨vs, by rw [L2.upd_ne hpq]; exact hp, ht.updL hq⟩
/-- a token behind the last turn -/
theorem TT.last {K : PySem.W.Frag} {H0 H : Hp} {q p : Addr} {tss : List (List Tk)} {ps : List Addr} {v : V} {t : Tk} (h : TT K H0 H q tss) (hq : H q = some (.lst (ps.map V.ref))) (hp : ps.getLast? = some p) (ht : Dp K H v t.d) :
    ∃ vs, H p = some (.lst vs) ∧ H0 p = none ∧ Tks K H vs (tss.getLastD []) ∧ TT K H0 (upd H p (.lst (vs ++ [v]))) q (tss.dropLast ++ [tss.getLastD [] ++ [t]]) := by
  obtain ⟨ps', h1, h2, h3, h4, h5, h6, h7⟩ := h
  obtain rfl : ps' = ps := by
    rw [hq] at h1
    injection h1 with h1
    injection h1 with h1
    exact (List.map_inj_right (fun a b e => by injection e)).mp h1.symm
  rw [List.getLast?_eq_getElem?] at hp
  have hpl : ps'.length - 1 < ps'.length := (List.getElem?_eq_some_iff.mp hp).1
  have hx : tss[ps'.length - 1]? = some (tss.getLastD []) := by
    rw [h6, List.getLastD_eq_getLast?, List.getLast?_eq_getElem?, List.getElem?_eq_getElem (by omega)]
    rfl
  obtain ⟨vs, h8, h9⟩ := h7 _ _ _ hp hx
  have hmem := List.mem_of_getElem? hp
  have hpq : p ≠ q := fun e => h4 (e ▸ hmem)
  refine ⟨vs, h8, h5 p hmem, h9, ps', by rw [L2.upd_ne (Ne.symm hpq)]; exact hq, h2, h3, h4, h5, by rw [List.length_append, List.length_dropLast, List.length_singleton]; omega, fun i b us e1 e2 => ?_⟩
  by_cases hi : i = ps'.length - 1
  · subst hi
    obtain rfl : p = b := Option.some.inj (hp.symm.trans e1)
    rw [List.getElem?_append_right (by rw [List.length_dropLast]; omega), List.length_dropLast, show ps'.length - 1 - (tss.length - 1) = 0 by omega] at e2
    obtain rfl := Option.some.inj e2
    exact ⟨_, upd_same, Tks.app (h9.updL h8) (Tks.one (tk_updL ht h8))⟩
  · have hil : i < ps'.length := (List.getElem?_eq_some_iff.mp e1).1
    rw [List.getElem?_append_left (by rw [List.length_dropLast]; omega), List.getElem?_dropLast, if_pos (by omega)] at e2
    obtain ⟨ws, h10, h11⟩ := h7 i b us e1 e2
    have hb : b ≠ p := fun e => hi ((List.getElem?_inj hil h3).mp (by rw [e1, hp, e]))
    exact ⟨ws, by rw [L2.upd_ne hb]; exact h10, h11.updL h8⟩
theorem atI_last {α : Type} {xs : List α} {v : α} (h : xs.getLast? = some v) : atI xs (-1) = some v := by
  rw [List.getLast?_eq_getElem?] at h
  have hl := (List.getElem?_eq_some_iff.mp h).1
  unfold atI
  have e : ixN xs.length (-1) = some (xs.length - 1) := by
    unfold ixN
    rw [if_neg (by decide), if_pos (by omega)]
    congr 1
    omega
  rw [e]
  exact h
theorem split_ne : ∀ {ts : List Tk}, ts ≠ [] → (∀ t, ts[0]? = some t → isOut t = true) → split ts ≠ [] := by
  have key : ∀ (ts : List Tk) (acc : List (List Tk)), acc ≠ [] → ts.foldl splitA acc ≠ [] := by
    intro ts
    induction ts with
    | nil => exact fun acc h => h
    | cons t r ih =>
      intro acc h
      refine ih _ ?_
      unfold splitA
      split
      · exact List.append_ne_nil_of_right_ne_nil _ (List.cons_ne_nil _ _)
      · exact List.append_ne_nil_of_right_ne_nil _ (List.cons_ne_nil _ _)
  intro ts h h0
  cases ts with
  | nil => exact absurd rfl h
  | cons t r =>
    refine key r _ ?_
    unfold splitA
    rw [if_pos (h0 t rfl)]
    exact List.append_ne_nil_of_right_ne_nil _ (List.cons_ne_nil _ _)
theorem split_len : ∀ (ts : List Tk) (acc : List (List Tk)), (ts.foldl splitA acc).length ≤ acc.length + ts.length
  | [], acc => Nat.le_refl _
  | t :: r, acc => by
    have ih := split_len r (splitA acc t)
    have : (splitA acc t).length ≤ acc.length + 1 := by
      unfold splitA
      split
      · rw [List.length_append]; exact Nat.le_refl _
      · rw [List.length_append, List.length_dropLast, List.length_singleton]; omega
    rw [List.foldl_cons, List.length_cons]
    omega
theorem flat_last {acc : List (List Tk)} (h : acc ≠ []) (t : Tk) : (acc.dropLast ++ [acc.getLastD [] ++ [t]]).flatten = acc.flatten ++ [t] := by
  have e : acc = acc.dropLast ++ [acc.getLastD []] := by
    rw [List.getLastD_eq_getLast?, List.getLast?_eq_some_getLast h]
    exact (List.dropLast_concat_getLast h).symm
  conv => rhs; rw [e]
  rw [List.flatten_append, List.flatten_append, List.flatten_singleton, List.flatten_singleton, List.append_assoc]
theorem split_flatA : ∀ (ts : List Tk) (acc : List (List Tk)), acc ≠ [] → (ts.foldl splitA acc).flatten = acc.flatten ++ ts
  | [], acc, _ => (List.append_nil _).symm
  | t :: r, acc, h => by
    have h2 : splitA acc t ≠ [] := by
      unfold splitA
      split <;> exact List.append_ne_nil_of_right_ne_nil _ (List.cons_ne_nil _ _)
    rw [List.foldl_cons, split_flatA r _ h2]
    have : (splitA acc t).flatten = acc.flatten ++ [t] := by
      unfold splitA
      split
      · rw [List.flatten_append, List.flatten_singleton]
      · exact flat_last h t
    rw [this, List.append_assoc]
    rfl
theorem split_flat {ts : List Tk} (h0 : ∀ t, ts[0]? = some t → isOut t = true) : (split ts).flatten = ts := by
  cases ts with
  | nil => rfl
  | cons t r =>
    have e : splitA [] t = [[t]] := by unfold splitA; rw [if_pos (h0 t rfl)]; rfl
    show (r.foldl splitA (splitA [] t)).flatten = _
    rw [e, split_flatA r _ (List.cons_ne_nil _ _)]
    rfl
section
variable {P : Program} {w : World} {K : PySem.W.Frag} {mg : Str → Option Value} {base : Heap} {pF pO pN pL CH CA : Addr}
def spSplit (K : PySem.W.Frag) : Sp := fun vs H Q _ => ∃ (l : Addr) (us : List V) (ts : List Tk), vs = [.ref l] ∧ H l = some (.lst us) ∧ Tks K H us ts ∧ ts.length ≤ 1000 ∧ (∀ t, ts[0]? = some t → isOut t = true) ∧ ∀ q H', Same H H' → TT K H H' q (split ts) → Q (.ref q) H'
theorem sc_split_turns : FnScope ["history", "turns", "token"] ["history"] (defScope s_split_turns) := ⟨rfl, rfl, rfl, by decide +kernel, rfl, by decide +kernel, by decide +kernel⟩
theorem ok_split {f : Addr} {fd : FuncData} (F : Fun K "split_turns" "split_turns" s_split_turns f fd) (T : TxtH P w K mg pF pO pN pL CH CA) (c_is_outer : Cal P w K mg base CX0 1 "is_outer" ["token"] (spIsOut K)) : FnOk P w K mg base CX0 2 f fd ["history"] (spSplit K) := by
  refine F.ok sc_split_turns (fun vs H Q E h => ?_) (fun cdv A outer s H vs Q E hr h => ?_)
  · obtain ⟨l, us, ts, rfl, _⟩ := h
    rfl
  · obtain ⟨l, us, ts, rfl, hl, ht, hn, h0, k⟩ := h
    have hul := ht.len
    refine ⟨_, (pss_cons (ps_set (i := 1) sc_split_turns.nd rfl (.inl rfl) (pe_lst pa_nil))
      (pss_cons (ps_for PassesOwn.never rfl (pi_list (pv 0)) (pg_name (i := 2) sc_split_turns.nd rfl (.inl rfl)) (pss_one (ps_if (pt_val (pe_cal c_is_outer (hr.mono (by omega)) rfl pass0 (pa_cons (pv 2) pa_nil))) (pss_one (ps_expr (pe_bm PySem.F.plainAttrs_list PySem.F.slot_list_append PySem.F.type_list_append mt_append (pv 1) (pa_cons (pe_lst (pa_cons (pv 2) pa_nil)) pa_nil)))) (pss_one (ps_expr (pe_bm PySem.F.plainAttrs_list PySem.F.slot_list_append PySem.F.type_list_append mt_append (pe_ix ix_list (pv 1) (pe_un un_neg pe_int) (fun _ _ => rfl)) (pa_cons (pv 2) pa_nil)))))))
      (pss_one (ps_ret (pv 1))))), ?_⟩
    refine ⟨sz_lit (by show 0 ≤ 100000; decide), fun q hq => ?_⟩
    have s1 : Same H (upd H q (.lst [])) := Same.new hq
    have q1 : upd H q (.lst []) q = some (.lst []) := upd_same
    revert s1 q1
    generalize upd H q (.lst []) = H1
    intro s1 q1
    refine ⟨_, rfl, l, rfl, ⟨_, .inl (.inl (s1 _ _ hl))⟩, ?_⟩
    refine for_it (walk_list (xs := us)) (fun i σ H' => (∃ y2 : Option V, σ = [some (.ref l), some (.ref q), y2]) ∧ Same H H' ∧ TT K H H' q (split (ts.take i))) ⟨⟨_, rfl⟩, s1, TT.nil q1 hq⟩ (fun i σ H' _ z => .inl (.inl (z.2.1 _ _ hl))) ?_ ?_
    · rintro i x σ H'' H' hi ⟨⟨y2, rfl⟩, s2, t2⟩ ⟨rfl, hx⟩
      obtain ⟨t, h1, hd⟩ := ht.get hx
      have hst : split (ts.take (i + 1)) = splitA (split (ts.take i)) t := by
        unfold split
        rw [TS.take_one h1, List.foldl_append]
        rfl
      refine ⟨_, rfl, _, t, rfl, hd.mono s2, _, rfl, ?_⟩
      by_cases ho : isOut t = true
      · rw [ho]
        obtain ⟨ps, p1, p2, p3, p4, p5, p6, p7⟩ := id t2
        refine ifT rfl ⟨_, rfl, .inl ⟨rfl, _, .inl (.inl p1)⟩, _, rfl, sz1 _, fun p hp => ?_⟩
        have sp : Same H' (upd H' p (.lst [x])) := Same.new hp
        have hpq : p ≠ q := fun e => by rw [e, p1] at hp; cases hp
        have hp0 : H p = none := by
          cases z : H p with
          | none => rfl
          | some o => rw [s2 _ _ z] at hp; cases hp
        have hpn : p ∉ ps := fun hm => by
          obtain ⟨j, hj⟩ := List.getElem?_of_mem hm
          have hjl := (List.getElem?_eq_some_iff.mp hj).1
          obtain ⟨ws, h3, _⟩ := p7 j p _ hj (List.getElem?_eq_getElem (by omega))
          rw [h3] at hp
          cases hp
        have t3 : TT K H (upd H' p (.lst [x])) q (split (ts.take i)) := ⟨ps, sp _ _ p1, p2, p3, p4, p5, p6, fun j b us e1 e2 => by
          obtain ⟨ws, h3, h4⟩ := p7 j b us e1 e2
          exact ⟨ws, sp _ _ h3, h4.mono sp⟩⟩
        refine ⟨q, _, _, rfl, rfl, sp _ _ p1, lt_sz ?_, ⟨_, rfl⟩, Same.updN (s2.trans sp) hq, ?_⟩
        · have := split_len (ts.take i) []
          rw [List.length_take] at this
          have e : (split (ts.take i)).length ≤ 0 + min i ts.length := this
          rw [List.length_map]
          omega
        · rw [hst, show splitA (split (ts.take i)) t = split (ts.take i) ++ [[t]] by unfold splitA; rw [if_pos ho]]
          exact t3.push (sp _ _ p1) upd_same hpn hpq hp0 (Tks.one (hd.mono (s2.trans sp)))
      · have hi0 : i ≠ 0 := fun e => ho (h0 t (e ▸ h1))
        rw [Bool.eq_false_iff.mpr ho]
        obtain ⟨ps, p1, p2, p3, p4, p5, p6, p7⟩ := id t2
        have hne : split (ts.take i) ≠ [] := split_ne (fun e => by
          have := congrArg List.length e
          rw [List.length_take, List.length_nil] at this
          omega) fun t' e => h0 t' (by rw [List.getElem?_take, if_pos (by omega)] at e; exact e)
        obtain ⟨p, hp⟩ : ∃ p, ps.getLast? = some p := by
          cases z : ps.getLast? with
          | some p => exact ⟨p, rfl⟩
          | none =>
            rw [List.getLast?_eq_none_iff] at z
            rw [z] at p6
            exact absurd (List.length_eq_zero_iff.mp p6.symm) hne
        obtain ⟨ws, w1, w2, w3, w4⟩ := t2.last p1 hp (hd.mono s2)
        refine ifF rfl ⟨_, rfl, 1, rfl, q, _, -1, _, rfl, rfl, .inl (.inl p1), atI_last (by rw [List.getLast?_map, hp]; rfl), ?_⟩
        refine ⟨.inl ⟨rfl, _, .inl (.inl w1)⟩, _, rfl, p, _, _, rfl, rfl, w1, lt_sz ?_, ⟨_, rfl⟩, Same.updN s2 w2, ?_⟩
        · have e1 : (split (ts.take i)).flatten = ts.take i := split_flat fun t' e => h0 t' (by rw [List.getElem?_take, if_pos (by omega)] at e; exact e)
          have e2 : (split (ts.take i)).getLastD [] ∈ split (ts.take i) := by
            rw [List.getLastD_eq_getLast?, List.getLast?_eq_some_getLast hne]
            exact List.getLast_mem hne
          have e3 := (List.sublist_flatten_of_mem e2).length_le
          rw [e1, List.length_take] at e3
          rw [w3.len]
          omega
        · rw [hst, show splitA (split (ts.take i)) t = (split (ts.take i)).dropLast ++ [(split (ts.take i)).getLastD [] ++ [t]] by unfold splitA; rw [if_neg ho]]
          exact w4
    · rintro σ H' ⟨⟨y2, rfl⟩, s2, t2⟩
      rw [List.take_of_length_le (by omega)] at t2
      exact ⟨_, rfl, k _ _ s2 t2⟩
end
end Op
set_option pp.maxSteps 500
namespace Op
open PySem L2 PyProof.Rows
/-! ### histories of any data -/
def DT (d : PyData) : Option Tk → Prop
  | some t => Okt t ∧ d = t.d
  | none => hasForm d = false
theorem dt_of (d : PyData) : ∃ o, DT d o := by
  by_cases h : hasForm d = true
  · obtain ⟨t, h1, h2⟩ := (hasForm_iff d).mp h
    exact ⟨some t, h1, h2⟩
  · exact ⟨none, Bool.eq_false_iff.mpr h⟩
theorem DT.form {d : PyData} {o : Option Tk} (h : DT d o) : hasForm d = o.isSome := by
  cases o with
  | none => exact h
  | some t => exact (hasForm_iff d).mpr ⟨t, h.1, h.2⟩
inductive DTs : List PyData → List (Option Tk) → Prop
  | nil : DTs [] []
  | cons {d : PyData} {o : Option Tk} {ds : List PyData} {os : List (Option Tk)} : DT d o → DTs ds os → DTs (d :: ds) (o :: os)
theorem dts_of : ∀ ds : List PyData, ∃ os, DTs ds os
  | [] => ⟨[], .nil⟩
  | d :: r => let ⟨o, h⟩ := dt_of d; let ⟨os, g⟩ := dts_of r; ⟨o :: os, .cons h g⟩
theorem DTs.len {ds : List PyData} {os : List (Option Tk)} (h : DTs ds os) : ds.length = os.length := by
  induction h with
  | nil => rfl
  | cons _ _ ih => exact congrArg Nat.succ ih
theorem DTs.get {ds : List PyData} {os : List (Option Tk)} {i : Nat} {d : PyData} (h : DTs ds os) (hd : ds[i]? = some d) : ∃ o, os[i]? = some o ∧ DT d o := by
  induction h generalizing i with
  | nil => cases hd
  | cons h1 _ ih =>
    cases i with
    | zero =>
      obtain rfl := Option.some.inj hd
      exact ⟨_, rfl, h1⟩
    | succ i => exact ih hd
/-- the place of the first fault -/
def chkO : List (Option Tk) → Nat → List Str → Bool → Option Nat
  | [], _, _, _ => none
  | none :: _, i, _, _ => some i
  | some t :: r, i, th, ov => if ov = true ∨ decide (t.k = "begin") ≠ decide (i = 0) then some i else if suits t th = true then chkO r (i + 1) (enter t th) (isLast t) else some i
def chkOH (os : List (Option Tk)) : Option Nat := if os = [] then some 0 else chkO os 0 [] false
/-- the first fault of a history -/
def chkH (ts : List Tk) : Option Nat := if ts = [] then some 0 else chk ts 0 [] false
theorem chkO_none : ∀ {os : List (Option Tk)} {i : Nat} {th : List Str} {ov : Bool}, chkO os i th ov = none → ∃ ts : List Tk, os = ts.map some ∧ chk ts i th ov = none
  | [], _, _, _, _ => ⟨[], rfl, rfl⟩
  | none :: _, _, _, _, h => by cases h
  | some t :: r, i, th, ov, h => by
    unfold chkO at h
    split at h
    · cases h
    · rename_i h1
      split at h
      · rename_i h2
        obtain ⟨ts, e1, e2⟩ := chkO_none h
        refine ⟨t :: ts, by rw [e1]; rfl, ?_⟩
        unfold chk
        rw [if_neg h1, if_pos h2]
        exact e2
      · cases h
theorem chkO_some : ∀ (ts : List Tk) (i : Nat) (th : List Str) (ov : Bool), chkO (ts.map some) i th ov = chk ts i th ov
  | [], _, _, _ => rfl
  | t :: r, i, th, ov => by
    show chkO (some t :: r.map some) i th ov = _
    unfold chkO chk
    rw [chkO_some r]
theorem DTs.tks : ∀ {ds : List PyData} {ts : List Tk}, DTs ds (ts.map some) → ds = ts.map Tk.d ∧ ∀ t ∈ ts, Okt t
  | [], [], _ => ⟨rfl, fun t ht => (List.not_mem_nil ht).elim⟩
  | [], _ :: _, h => by cases h
  | _ :: _, [], h => by cases h
  | d :: ds, t :: ts, .cons h g => by
    obtain ⟨h1, h2⟩ := h
    obtain ⟨g1, g2⟩ := DTs.tks (ts := ts) g
    refine ⟨by rw [h2, g1]; rfl, fun x hx => ?_⟩
    rcases List.mem_cons.mp hx with rfl | hx
    · exact h1
    · exact g2 x hx
theorem drop_one {α : Type} : ∀ {l : List α} {i : Nat} {x : α}, l[i]? = some x → l.drop i = x :: l.drop (i + 1)
  | [], _, _, h => by cases h
  | a :: r, 0, x, h => by rw [Option.some.inj h]; rfl
  | a :: r, i + 1, x, h => by
    have := drop_one (l := r) (i := i) h
    exact this
theorem enter_len (t : Tk) (th : List Str) : (enter t th).length ≤ th.length + 1 := by
  unfold enter
  split
  · rw [List.length_append]; exact Nat.le_refl _
  · split
    · rw [List.length_append]; exact Nat.le_refl _
    · split
      · exact Nat.le_succ _
      · rw [List.length_set]; exact Nat.le_succ _
theorem okt_short {t : Tk} (h : Okt t) : Short t.d := by
  intro k ps e x hx
  obtain ⟨_, _, _, hw⟩ := h
  unfold Tk.d at e
  injection e with e
  injection e with _ e
  rw [← e] at hx
  unfold Tk.parts at hx
  rcases List.mem_append.mp hx with hx | hx
  · obtain ⟨n, _, e⟩ := List.mem_map.mp hx
    cases e
  · obtain ⟨z, hz, e⟩ := List.mem_map.mp hx
    injection e with e
    subst e
    have h1 := (Bool.and_eq_true_iff.mp (hw z hz)).1
    have h2 := of_decide_eq_true h1
    omega
theorem new_of {H H' : Hp} {a : Addr} (s : Same H H') (h : H' a = none) : H a = none := by
  cases z : H a with
  | none => rfl
  | some o => rw [s _ _ z] at h; cases h
theorem chk_out {ts : List Tk} (h : chkH ts = none) : ∀ t, ts[0]? = some t → isOut t = true := by
  intro t ht
  cases ts with
  | nil => cases ht
  | cons a r =>
    obtain rfl := Option.some.inj ht
    unfold chkH at h
    rw [if_neg (List.cons_ne_nil _ _)] at h
    unfold chk at h
    by_cases hb : a.k = "begin"
    · unfold isOut
      rw [hb]
      decide +kernel
    · rw [if_pos (.inr (by rw [decide_eq_false hb]; decide))] at h
      cases h
/-! ### what is handed to check -/
def isListD : PyData → Bool
  | .list _ => true
  | _ => false
/-- no list -/
def NL (K : PySem.W.Frag) (H : Hp) (v : V) : Prop := (∃ d, Dp K H v d ∧ isListD d = false) ∨ ∃ p o, v = .ref p ∧ H p = some (.dK o)
/-- a value, and what check finds: the tokens, or the number of the fault -/
def JH (K : PySem.W.Frag) (H : Hp) (v : V) (r : Except Int (List Tk)) : Prop :=
  (∃ (l : Addr) (us : List V) (ds : List PyData) (os : List (Option Tk)), v = .ref l ∧ H l = some (.lst us) ∧ DpAll K H us ds ∧ (∀ d ∈ ds, Short d) ∧ DTs ds os ∧ ds.length ≤ 1000 ∧ ((∃ i : Nat, chkOH os = some i ∧ r = .error (i : Int)) ∨ ∃ ts : List Tk, os = ts.map some ∧ chkH ts = none ∧ r = .ok ts)) ∨ (NL K H v ∧ r = .error (-1))
theorem NL.mono {K : PySem.W.Frag} {H H' : Hp} {v : V} (h : NL K H v) (s : Same H H') : NL K H' v := by
  rcases h with ⟨d, h1, h2⟩ | ⟨p, o, h1, h2⟩
  · exact .inl ⟨d, h1.mono s, h2⟩
  · exact .inr ⟨p, o, h1, s _ _ h2⟩
theorem JH.mono {K : PySem.W.Frag} {H H' : Hp} {v : V} {r : Except Int (List Tk)} (h : JH K H v r) (s : Same H H') : JH K H' v r := by
  rcases h with ⟨l, us, ds, os, h1, h2, h3, h4⟩ | ⟨h1, h2⟩
  · exact .inl ⟨l, us, ds, os, h1, s _ _ h2, DpAll.mono s h3, h4⟩
  · exact .inr ⟨h1.mono s, h2⟩
def XAt (H : Hp) (d : Addr) (i : Int) : Prop := H d = some (.xd [("at", .int i)])
end Op
set_option pp.maxSteps 500
namespace Op
open PySem L2 PyProof.Rows
section
variable {P : Program} {w : World} {K : PySem.W.Frag} {mg : Str → Option Value} {base : Heap} {pF pO pN pL CH CA : Addr}
def spCheckJ (K : PySem.W.Frag) (CH : Addr) : Sp := fun vs H Q X => ∃ (v : V) (r : Except Int (List Tk)), vs = [v] ∧ JH K H v r ∧ (∀ ts, r = .ok ts → ∀ H', Same H H' → Q .non H') ∧ (∀ i, r = .error i → ∀ H' d, Same H H' → XAt H' d i → X (.ref CH) (some d) H')
theorem sc_check_tokens : FnScope ["history", "things", "is_over", "at", "token"] ["history"] (defScope s_check_tokens) := ⟨rfl, rfl, rfl, by decide +kernel, rfl, by decide +kernel, by decide +kernel⟩
theorem ok_check_tokens {f : Addr} {fd : FuncData} (F : Fun K "check_tokens" "check_tokens" s_check_tokens f fd) (T : TxtH P w K mg pF pO pN pL CH CA) (c_has_form : Cal P w K mg base CX0 2 "has_form" ["token"] (spForm K)) (c_suits_things : Cal P w K mg base CX0 1 "suits_things" ["token", "things"] (spSuits K)) (c_enter_token : Cal P w K mg base CX0 1 "enter_token" ["token", "things"] (spEnter K)) :
    FnOk P w K mg base (L2.CX P w) 3 f fd ["history"] (spCheckJ K CH) := by
  refine F.okX sc_check_tokens (fun vs H Q E h => ?_) (fun cdv A outer s H vs Q E hr h => ?_)
  · obtain ⟨v, r, rfl, _⟩ := h
    rfl
  · obtain ⟨v, r, rfl, h, k1, k2⟩ := h
    refine ⟨_, (pss_cons (ps_if (pt_not (pt_val (pe_callB call_isi (by rfl) T.b_isinstance (by decide +kernel) (pa_cons (pv 0) (pa_cons (pe_bltn (v := .ty "list") (by rfl) T.b_list (by decide +kernel) rfl) pa_nil))))) (pss_one (ps_raise rfl (takes_of rfl rfl rfl rfl) (pmk_x T.mk_InvalidHistory hr rfl T.g_InvalidHistory T.k_InvalidHistory T.r_InvalidHistory (pa_cons (pe_un un_neg pe_int) pa_nil)))) pss_nil)
      (pss_cons (ps_if (pt_cmpR op_eq (pe_callB call_len_seq (by rfl) T.b_len (by decide +kernel) (pa_cons (pv 0) pa_nil)) pe_int (nomark _)) (pss_one (ps_raise rfl (takes_of rfl rfl rfl rfl) (pmk_x T.mk_InvalidHistory hr rfl T.g_InvalidHistory T.k_InvalidHistory T.r_InvalidHistory (pa_cons pe_int pa_nil)))) pss_nil)
      (pss_cons (ps_set (i := 1) sc_check_tokens.nd rfl (.inl rfl) (pe_lst pa_nil))
      (pss_cons (ps_set (i := 2) sc_check_tokens.nd rfl (.inl rfl) pe_bl)
      (pss_one (ps_for (passes_of rfl) rfl (pi_enum (by rfl) T.b_enumerate (pa_cons (pv 0) pa_nil)) (pg_tup rfl (pgs_cons (pg_name (i := 3) sc_check_tokens.nd rfl (.inl rfl)) (pgs_cons (pg_name (i := 4) sc_check_tokens.nd rfl (.inl rfl)) pgs_nil))) (pss_cons (ps_if (PW.pt (pw_or (pt_val (pv 2)) (pw_or (pt_not (pt_val (pe_cal c_has_form (hr.mono (by omega)) rfl pass0 (pa_cons (pv 4) pa_nil)))) (pw_or1 (pt_cmpR op_ne (pe_cmpR op_eq (pe_ix ix_tup (pv 4) pe_int (fun _ _ => rfl)) pe_str (nomark _)) (pe_cmpR op_eq (pv 3) pe_int (nomark _)) (nomark _)))))) (pss_one (ps_raise rfl (takes_of rfl rfl rfl rfl) (pmk_x T.mk_InvalidHistory hr rfl T.g_InvalidHistory T.k_InvalidHistory T.r_InvalidHistory (pa_cons (pv 3) pa_nil)))) pss_nil)
      (pss_cons (ps_if (pt_not (pt_val (pe_cal c_suits_things (hr.mono (by omega)) rfl pass0 (pa_cons (pv 4) (pa_cons (pv 1) pa_nil))))) (pss_one (ps_raise rfl (takes_of rfl rfl rfl rfl) (pmk_x T.mk_InvalidHistory hr rfl T.g_InvalidHistory T.k_InvalidHistory T.r_InvalidHistory (pa_cons (pv 3) pa_nil)))) pss_nil)
      (pss_cons (ps_expr (pe_cal c_enter_token (hr.mono (by omega)) rfl pass0 (pa_cons (pv 4) (pa_cons (pv 1) pa_nil))))
      (pss_one (ps_set (i := 2) sc_check_tokens.nd rfl (.inl rfl) (pe_cmpR op_in_seq (pe_ix ix_tup (pv 4) pe_int (fun _ _ => rfl)) (pe_gref rfl T.g_LAST) (by rfl))))))))))))), ?_⟩
    rcases h with ⟨l, us, ds, os, rfl, hl, ht, hsh, hdt, hn, hj⟩ | ⟨hnl, hr'⟩
    · have hul := ht.len
      have hol := hdt.len
      refine ⟨_, rfl, .ref l, _, _, _, _, rfl, .ty _, ty_dp (.lst (.inl (.inl hl)) ht), kit_list _, _, rfl, ifF rfl ?_⟩
      refine ⟨_, rfl, l, us, rfl, .inl (.inl (.inl hl)), rfl, _, rfl, ?_⟩
      have K1 : chkOH os = none → ∀ H', Same H H' → Q .non H' := fun h => by
        rcases hj with ⟨i, e1, _⟩ | ⟨ts, _, _, e⟩
        · rw [h] at e1; cases e1
        · exact k1 ts e
      have K2 : ∀ i : Nat, chkOH os = some i → ∀ H' d, Same H H' → XAt H' d (i : Int) → E (.ref CH) (some d) H' := fun i h => by
        rcases hj with ⟨j, e1, e⟩ | ⟨ts, e1, e2, _⟩
        · rw [h] at e1
          obtain rfl := Option.some.inj e1
          exact k2 _ e
        · exfalso
          subst e1
          unfold chkOH at h
          unfold chkH at e2
          by_cases hts : ts = []
          · rw [if_pos hts] at e2; cases e2
          · rw [if_neg hts] at e2
            rw [if_neg (fun e => hts (List.map_eq_nil_iff.mp e)), chkO_some, e2] at h
            cases h
      by_cases hos : os = []
      · subst hos
        obtain rfl : us = [] := List.length_eq_zero_iff.mp (hul.trans hol)
        exact ifT rfl ⟨rfl, fun d hd => K2 0 (if_pos rfl) _ d (Same.new hd) upd_same⟩
      have hc0 : chkOH os = chkO os 0 [] false := if_neg hos
      rw [hc0] at K1 K2
      have hus : 0 < us.length := by
        rw [hul, hol]
        exact List.length_pos_iff.mpr hos
      refine ifF (decide_eq_false (by intro z; injection z with z; omega)) ⟨sz_lit (by show 0 ≤ 100000; decide), fun q hq => ?_⟩
      have s1 : Same H (upd H q (.lst [])) := Same.new hq
      have c1 : upd H q (.lst []) q = some (.lst []) := upd_same
      revert s1 c1
      generalize upd H q (.lst []) = H1
      intro s1 c1
      refine ⟨_, rfl, l, us, rfl, .inl (.inl (s1 _ _ hl)), ?_⟩
      refine for_it walk_enum (fun i σ H' => ∃ (th : List Str) (ov : Bool) (y3 y4 : Option V), σ = [some (.ref l), some (.ref q), some (.bl ov), y3, y4] ∧ Same H H' ∧ H' q = some (.lst (th.map V.str)) ∧ chkO os 0 [] false = chkO (os.drop i) i th ov ∧ th.length ≤ i) ⟨[], false, _, _, rfl, s1, c1, rfl, Nat.le_refl _⟩ (fun i σ H' _ ⟨_, _, _, _, _, z, _⟩ => .inl (.inl (z _ _ hl))) ?_ ?_
      · rintro i v σ H1 H2 hi ⟨th, ov, y3, y4, rfl, s2, h2, h3, h4⟩ ⟨T0, x0, y, rfl, hT0, rfl, hx0, hy⟩
        obtain rfl : x0 = .int (i : Nat) := (Option.some.inj hx0).symm
        obtain ⟨dd, hd1, hd⟩ := ht.get hy
        obtain ⟨o, ho1, hdo⟩ := hdt.get hd1
        rw [drop_one ho1] at h3
        have hshd := hsh dd (List.mem_of_getElem? hd1)
        refine ⟨T0, _, rfl, .inl (.inl upd_same), rfl, _, _, rfl, _, _, rfl, rfl, ?_⟩
        have sm : Same H1 (upd H1 T0 (.tup [.int (i : Nat), y])) := Same.new hT0
        have s3 := s2.trans sm
        have g2 := sm _ _ h2
        revert s3 g2
        generalize upd H1 T0 (.tup [.int (i : Nat), y]) = H3
        intro s3 g2
        have bad : chkO (o :: os.drop (i + 1)) i th ov = some i → chkO os 0 [] false = some i := fun h => h3.trans h
        refine ⟨_, rfl, _, rfl, ?_⟩
        cases ov with
        | true =>
          refine ifT rfl (ifT rfl ⟨_, rfl, rfl, fun d hd => K2 i (bad ?_) _ d (s3.trans (Same.new hd)) upd_same⟩)
          cases o with
          | none => rfl
          | some t => unfold chkO; exact if_pos (.inl rfl)
        | false =>
        refine ifF rfl ⟨_, rfl, y, dd, rfl, hd.mono s3, hshd, fun H4 s4 => ⟨_, rfl, ?_⟩⟩
        rw [hdo.form]
        have s5 := s3.trans s4
        have g3 := s4 _ _ g2
        cases o with
        | none => exact ifT rfl (ifT rfl ⟨_, rfl, rfl, fun d hd => K2 i (bad rfl) _ d (s5.trans (Same.new hd)) upd_same⟩)
        | some t =>
        obtain ⟨hkt, rfl⟩ := hdo
        have d3 := hd.mono s5
        obtain ⟨a, rfl, ha⟩ := tk_at d3
        refine ifF rfl ⟨_, rfl, a, _, 0, _, rfl, rfl, ha, atI_zero _ _, rfl, _, rfl, rfl, rfl, _, rfl, ?_⟩
        rw [dec_strV, show decide (V.int (i : Nat) = V.int 0) = decide (i = 0) from decide_eq_decide.mpr ⟨fun h => by injection h with h; omega, fun h => by rw [h]; rfl⟩]
        by_cases hb : decide (t.k = "begin") ≠ decide (i = 0)
        · exact ifT (by simpa using hb) ⟨_, rfl, rfl, fun d hd => K2 i (bad (by unfold chkO; exact if_pos (.inr hb))) _ d (s5.trans (Same.new hd)) upd_same⟩
        refine ifF (by simpa using hb) ?_
        refine ⟨_, rfl, _, rfl, _, t, q, th, rfl, d3, hkt, g3, by omega, _, rfl, ?_⟩
        have hbn : ¬ (false = true ∨ decide (t.k = "begin") ≠ decide (i = 0)) := fun h => h.elim (fun h => by cases h) hb
        by_cases hs : suits t th = true
        · rw [hs]
          have hin : ∀ n, t.n = some n → n < th.length := fun n hn => by
            unfold suits at hs
            rw [hn] at hs
            dsimp only at hs
            cases z : th[n]? with
            | none => rw [z] at hs; cases hs
            | some x => exact (List.getElem?_eq_some_iff.mp z).1
          refine ifF rfl ⟨_, rfl, _, rfl, _, t, q, th, rfl, d3, hkt, g3, by omega, hin, ?_⟩
          refine ⟨_, rfl, a, _, 0, _, rfl, rfl, sqt_updL ha g3, atI_zero _ _, pL, _, rfl, .inr (T.s_LAST _), rfl, flat_strs _, ?_⟩
          have e1 : inV (.str t.k) (sLast.map V.str) = isLast t := inV_st t.k sLast
          rw [e1]
          have h5 := enter_len t th
          refine ⟨enter t th, isLast t, some (.int (i : Nat)), some (.ref a), rfl, Same.updN s5 hq, upd_same, ?_, by omega⟩
          rw [h3]
          conv => lhs; unfold chkO
          rw [if_neg hbn, if_pos hs]
        · have hs' := Bool.eq_false_iff.mpr hs
          rw [hs']
          exact ifT rfl ⟨_, rfl, rfl, fun d hd => K2 i (bad (by unfold chkO; rw [if_neg hbn, if_neg hs])) _ d (s5.trans (Same.new hd)) upd_same⟩
      · rintro σ H' ⟨th, ov, y3, y4, rfl, s2, h2, h3, h4⟩
        rw [List.drop_of_length_le (by omega)] at h3
        exact K1 h3 _ s2
    · rcases hnl with ⟨d, hd, hl⟩ | ⟨p, o, rfl, hp⟩
      · refine ⟨_, rfl, v, _, _, _, _, rfl, .ty _, ty_dp hd, kit_list d, _, rfl, ?_⟩
        have e : isList d = false := by cases d <;> first | rfl | cases hl
        rw [e]
        exact ifT rfl ⟨_, rfl, rfl, fun d hd => k2 _ hr' _ d (Same.new hd) upd_same⟩
      · exact ⟨_, rfl, .ref p, _, _, _, _, rfl, .ty _, TyX.base (.dK hp), kit_ty (show kitB "dict" "list" = some false by decide +kernel), _, rfl, ifT rfl ⟨_, rfl, rfl, fun d hd => k2 _ hr' _ d (Same.new hd) upd_same⟩⟩
end
end Op
namespace HN2
open PySem PySem.Spec PyProof.Rows
section
variable {M : Model} {prog : Program} {w : World} {A : Around} {E : Value → Shared → Prop} {s : Shared} {K : PySem.W.Frag} {x y C f : Addr} {ox : Obj} {od : Option Obj}
theorem sub_list : PySem.W.subIn K (.type "list") (.ref C) = some false := by
  have e : fastBuiltinMro "list" = some [.type "list", .type "object"] := by decide +kernel
  show (fastBuiltinMro "list").map (·.contains (.ref C)) = some false
  rw [e]
  first
    | rfl
    | simp
theorem first_list : PySem.W.notFirst K C (.type "list") = true := by
  unfold PySem.W.notFirst
  rw [sub_list]
  simp
theorem ifBound_objNe {args : List Value} {Q : Option Value → Shared → Prop} (X : K.In s.heap) (I : PySem.W.InstAt s.heap x ox C od) (hs : PySem.W.findIn K (.ref C) "__ne__" = some (some (.builtin "object.__ne__")))
    (h : wpAny M A (call (.builtin "object.__ne__") (.ref x :: args)) (fun v => Q (some v)) E s) : wpAny M A (callSpecialIfBound? (.ref x) "__ne__" args) Q E s := by
  simp only [callSpecialIfBound?, bindSpecialIfBound?]
  refine wpAny_holding (wpAny_bind (wpAny_bind (wpAny_bind (I.type.here ((PySem.W.looks_findIn X hs).here ?_)))))
  refine wpAny_bind (wpAny_askSetting (wpAny_ite ?_))
  have fin : wpAny M A (call (.builtin "object.__ne__") ([.ref x] ++ args) >>= fun v => pure (some v)) Q E s := wpAny_bind (wpAny_mono h (fun v s' h' => wpAny_pure h') fun _ _ h' => h')
  split
  · exact wpAny_bind (wpAny_of_eq (F.cmp_object.ne.bind _) (wpAny_pure (by exact fin)))
  · exact wpAny_tryCatch (wpAny_bind (wpAny_of_eq (F.cmp_object.ne.bind _) (wpAny_pure (by exact fin))))
theorem entry_ne {Q : Fin → Shared → Prop} (hu : A.units < cLine) (X : K.In s.heap) (I : PySem.W.InstAt s.heap x ox C od) (hs : PySem.W.findIn K (.ref C) "__eq__" = some (some (.ref f))) (hf : PySem.W.isFn K (.ref f) = true)
    (h : wpAny (model prog w) A (call (.ref f) [.ref x, .ref y]) (fun v s' => ∃ r, v = .bool r ∧ Q (.done (.ret (.bool (!r)))) s') E s) : wpAny (model prog w) A (Builtin.«object.__ne__» ⟨[.ref x, .ref y], []⟩) Q E s := by
  unfold Builtin.«object.__ne__»
  repeat (first
    | with_reducible refine wpAny_cRoomFor hu ?_
    | (refine wpAny_bind (m := callSpecialIfBound? (.ref x) (Str.ofString "__eq__") [.ref y])
        (PySem.W.ifBound_K X I hs hf (wpAny_mono h (fun r s' hr => by
          obtain ⟨b, rfl, hq⟩ := hr
          repeat (first | exact hq | exact wpAny_pure hq | exact wpAny_truthy_bool hq | (refine wpAny_bind (m := truthy (.bool _)) (wpAny_truthy_bool ?_)) | wp_step)) fun _ _ e => e)))
    | wp_step)
theorem call_objNe {Q : Value → Shared → Prop} (hu : A.in1.units < cLine) (X : K.In s.heap) (I : PySem.W.InstAt s.heap x ox C od) (hm : PySem.W.mroIn K C (.type "object") = some true) (hs : PySem.W.findIn K (.ref C) "__eq__" = some (some (.ref f))) (hf : PySem.W.isFn K (.ref f) = true)
    (h : wpAny (model prog w) A.in1 (call (.ref f) [.ref x, .ref y]) (fun v s' => ∃ r, v = .bool r ∧ Q (.bool (!r)) s') E s) :
    wpAny (model prog w) A (call (.builtin "object.__ne__") [.ref x, .ref y]) Q E s :=
  wpAny_call (codeAny_call_builtin F.cmp_object.ne.plain F.cmpEntry_ne (PySem.W.check_slot F.cmpKind_ne F.cmpSplit_ne (I.type.andThen (PySem.W.looks_mroIn X hm)) (F.cmpArgs_ne _ _) (entry_ne hu X I hs hf h)))
theorem rc_ne {Q : Value → Shared → Prop} (hu : A.units + 1 < cLine) (X : K.In s.heap) (I : PySem.W.InstAt s.heap x ox C od) (hm : PySem.W.mroIn K C (.type "object") = some true) (hs : PySem.W.findIn K (.ref C) "__eq__" = some (some (.ref f))) (hn : PySem.W.findIn K (.ref C) "__ne__" = some (some (.builtin "object.__ne__"))) (hf : PySem.W.isFn K (.ref f) = true)
    (hb : PySem.W.Looks (model prog w) s.heap (typeOf (.ref y)) (.ref C))
    (h : wpAny (model prog w) A.in1 (call (.ref f) [.ref x, .ref y]) (fun v s' => ∃ r, v = .bool r ∧ Q (.bool (!r)) s') E s) : wpAny (model prog w) A (richCompare .NotEq (.ref x) (.ref y)) Q E s := by
  have one : wpAny (model prog w) A (tryCompare (.ref x) "__ne__" (.ref y)) (fun r s' => ∃ v, r = some v ∧ Q v s') E s := by
    unfold tryCompare
    refine wpAny_bind (ifBound_objNe X I hn (call_objNe hu X I hm hs hf (wpAny_mono h (fun v s' hv => ?_) fun _ _ e => e)))
    obtain ⟨r, rfl, q⟩ := hv
    exact ⟨r, rfl, wpAny_pure ⟨_, rfl, q⟩⟩
  unfold richCompare
  simp only [oneThing_ref]
  refine wpAny_holding (wpAny_bind (wpAny_cRoomFor (by omega) ?_))
  refine wpAny_bind (I.type.here (wpAny_bind (hb.here ?_)))
  split
  · rename_i q
    simp at q
  · refine wpAny_bind (wpAny_pure ?_)
    simp only [Bool.false_eq_true, if_false]
    refine wpAny_bind (wpAny_mono one (fun r s' z => ?_) fun _ _ e => e)
    obtain ⟨v, rfl, hq⟩ := z
    exact wpAny_pure hq
end
end HN2
namespace L2
open PySem PySem.Spec PyProof.Rows
/-- a class with an == of its own -/
structure OwnEq (P : Program) (w : World) (K : PySem.W.Frag) (mg : Str → Option Value) (base : Heap) (k : Nat) (C : Addr) (sp : Sp) : Prop where
  ex : ∃ (f : Addr) (fd : FuncData), PySem.W.findIn K (.ref C) "__eq__" = some (some (.ref f)) ∧ PySem.W.isFn K (.ref f) = true ∧ Binds K fd ["self", "other"] [] ∧ FnOk P w K mg base CX0 k f fd ["self", "other"] sp
  mro : PySem.W.mroIn K C (.type "object") = some true
  ne : PySem.W.findIn K (.ref C) "__ne__" = some (some (.builtin "object.__ne__"))
section
variable {X : Cx} {n : Nat} {sp : Sp} {C : Addr}
theorem own_call {f : Addr} {fd : FuncData} {ps : List Str} (F : FnOk X.prog X.w X.K X.mg X.base CX0 n f fd ps sp) (hb : Binds X.K fd ps []) {A : Around} (sb : Sub X n A) {pins : List (Addr × Obj)} {σ : St} {H : Hp} {s : Shared} (I : Inv X pins σ H s) {a b : Addr} {Q : Bool → Hp → Prop} {E : XK}
    (hsp : sp [.ref a, .ref b] H (fun v H' => ∃ r, v = .bl r ∧ Q r H') E) : wpAny (model X.prog X.w) A (call (.ref f) [.ref a, .ref b]) (fun v s' => ∃ r H', v = .bool r ∧ Inv X pins σ H' s' ∧ Q r H') X.xe s := by
  have e0 : Env0 X.prog X.w X.K X.mg X.base A X.stack s H := by
    have e := I.env0
    exact ⟨by rw [sb.fr]; exact e.frames, e.mod, e.bs, e.bsz, e.funs, e.frf, e.hok, e.bare⟩
  have hl := F.len _ _ _ _ hsp
  have r2 : Vals [V.ref a, V.ref b] [Value.ref a, Value.ref b] := .cons rfl (.cons rfl .nil)
  refine wpAny_call (codeAny_mono (F.run A X.stack s H ⟨[.ref a, .ref b], []⟩ [.ref a, .ref b] [.ref a, .ref b] _ E sb.room e0 (by
    have := hb s [.ref a, .ref b] I.kIn (by simpa using hl)
    simpa using this) r2 hsp) fun r s' hq => ?_)
  cases r with
  | error e => exact pass0 (X := X) pins σ H s e s' I hq
  | ok fl =>
    cases fl with
    | ret w =>
      obtain ⟨z, H', I', rz, ⟨r, ez, q⟩⟩ := I.after hq
      subst ez
      cases rz
      exact ⟨r, H', rfl, I', q⟩
    | next => exact False.elim hq
    | brk => exact False.elim hq
    | cont => exact False.elim hq
/-- o == y, y of the same class or a list -/
def rOwnEq (K : PySem.W.Frag) (C : Addr) (sp : Sp) : R2 := fun x y H Q => ∃ a dx fs b, x = .ref a ∧ y = .ref b ∧ H a = some (.ins C dx fs) ∧ ((∃ dy gs, H b = some (.ins C dy gs)) ∨ ∃ xs, H b = some (.lst xs)) ∧ sp [.ref a, .ref b] H (fun v H' => ∃ r, v = .bl r ∧ Q (.bl r) H') (fun _ _ _ => False)
def rOwnNe (C : Addr) (sp : Sp) : R2 := fun x y H Q => ∃ a dx fs b dy gs, x = .ref a ∧ y = .ref b ∧ H a = some (.ins C dx fs) ∧ H b = some (.ins C dy gs) ∧ sp [.ref a, .ref b] H (fun v H' => ∃ r, v = .bl r ∧ Q (.bl (!r)) H') (fun _ _ _ => False)
theorem op_ownEq (O : OwnEq X.prog X.w X.K X.mg X.base n C sp) (hr : Room n X.A) : OpR X (compareOp .Eq) (rOwnEq X.K C sp) := by
  intro pins s σ H x y v u Q I rx ry h
  obtain ⟨a, dx, fs, b, rfl, rfl, ha, hb, hsp⟩ := h
  obtain ⟨⟨f, fd, h1, h2, h3, h4⟩, _, _⟩ := O
  cases rx
  cases ry
  obtain ⟨mA, J, _⟩ := ins_get I.hok ha
  obtain ⟨od, J, _⟩ := J.look
  obtain ⟨m, hF⟩ := I.fr
  have hty : ∃ tb, PySem.W.Looks (model X.prog X.w) s.heap (typeOf (.ref b)) tb ∧ PySem.W.notFirst X.K C tb = true := by
    rcases hb with ⟨dy, gs, hb⟩ | ⟨xs, hb⟩
    · obtain ⟨mB, J', _⟩ := ins_get I.hok hb
      obtain ⟨od', J', _⟩ := J'.look
      exact ⟨_, J'.type, by simp [PySem.W.notFirst]⟩
    · obtain ⟨_, its, k, _, e⟩ := I.hok b _ hb
      exact ⟨.type "list", (PySem.W.Looks.ld e).andThen .now, HN2.first_list⟩
  obtain ⟨tb, L, nf⟩ := hty
  show wpAny (model X.prog X.w) X.A (richCompare .Eq (.ref a) (.ref b)) (EP X pins σ Q) X.xe s
  refine PySem.W.cmp_K (op := .Eq) hr.units0 hF I.ok.mod.kin J L nf h1 h2 ?_
  refine wpAny_mono (own_call h4 h3 (A := X.A) ⟨hr, rfl⟩ I hsp) (fun r s' z => ?_) fun _ _ x => x
  obtain ⟨r, H', rfl, I', q⟩ := z
  exact ⟨.bl r, H', I', rfl, q⟩
theorem op_ownNe (O : OwnEq X.prog X.w X.K X.mg X.base n C sp) (hr : Room (n + 1) X.A) : OpR X (compareOp .NotEq) (rOwnNe C sp) := by
  intro pins s σ H x y v u Q I rx ry h
  obtain ⟨a, dx, fs, b, dy, gs, rfl, rfl, ha, hb, hsp⟩ := h
  obtain ⟨⟨f, fd, h1, h2, h3, h4⟩, hm, hn⟩ := O
  cases rx
  cases ry
  obtain ⟨mA, J, _⟩ := ins_get I.hok ha
  obtain ⟨od, J, _⟩ := J.look
  obtain ⟨mB, J', _⟩ := ins_get I.hok hb
  obtain ⟨od', J', _⟩ := J'.look
  show wpAny (model X.prog X.w) X.A (richCompare .NotEq (.ref a) (.ref b)) (EP X pins σ Q) X.xe s
  refine HN2.rc_ne (by have := hr.units; omega) I.kIn J hm h1 hn h2 J'.type ?_
  refine wpAny_mono (own_call h4 h3 (A := X.A.in1) (Sub.in1 ⟨hr, rfl⟩) I hsp) (fun r s' z => ?_) fun _ _ x => x
  obtain ⟨r, H', rfl, I', q⟩ := z
  exact ⟨r, rfl, .bl (!r), H', I', rfl, q⟩
end
/-- a class by its name, made with keywords; what is left out is filled in -/
def KcalG (P : Program) (w : World) (K : PySem.W.Frag) (mg : Str → Option Value) (base : Heap) (CX : CXT) (k : Nat) (x : Str) (C : Addr) (ps : List Str) (n : Nat) (ks : List Str) (gV : List V → List V → List V) (sp : Sp) : Prop :=
  ∃ (f : Addr) (fd : FuncData) (g : List Value → List Value → List Value), Mk K C f ∧ mg x = some (.ref C) ∧ KBn K fd ps (n + 1) ks g gV ∧ FnOk P w K mg base CX k f fd ps sp
theorem pe_kcalG {X : Cx} {CX : CXT} {k n : Nat} {x : Str} {C : Addr} {ps ks : List Str} {gV : List V → List V → List V} {sp : Sp} {E : XK} {p pos : Pos} {e : Expr} {es : List Expr} {kws : List Keyword} {t tk : TA} (c : KcalG X.prog X.w X.K X.mg X.base CX k x C ps n ks gV sp) (hr : Room (k + 1) X.A) (hg : Gl X x) (hx : Passes CX X E) (ha : PA X (e :: es) t) (hkw : PK X kws tk)
    (hall : (backToKw pos (keywordEach kws X.env)).all (·.1.isSome) = true := by rfl) (hks : (backToKw pos (keywordEach kws X.env)).filterMap (·.1) = ks := by rfl) (hdb : (x == ("__debug__" : Str)) = false := by decide)
    (he : starEach (e :: es) X.env = (false, eval e X.env) :: starEach es X.env := by rfl) (hpl : ((backTo pos (starEach (e :: es) X.env)).any (·.1) || (backToKw pos (keywordEach kws X.env)).any (·.1.isNone)) = false := by rfl) :
    PE X (.Call (.Name x p) (e :: es) kws pos) (tMakeK C n ks.length sp gV E t tk) := by
  obtain ⟨f, fd, g, h1, h2, h3, h4⟩ := c
  exact pe_makeK h1 h4 hr hg h2 h3 hx ha hkw hall hks hdb he hpl
end L2
set_option pp.maxSteps 500
namespace Op
open PySem L2 PyProof.Rows
/-! ### isinstance(.., Program) -/
structure PgI (K : PySem.W.Frag) (C : Addr) : Prop where
  cls : Cls K C
  ha : PySem.W.findIn K (.ref C) "__class__" = some (some (.builtin "object.__class__"))
  hn : PySem.W.specialIn K (.builtin "object.__class__") "__get__" = some (some (.builtin "getset_descriptor.__get__"))
  ht : PySem.W.takesIn K (.builtin "object.__class__") = some true
  hm : PySem.W.mroIn K C (.type "object") = some true
  ic : PySem.W.isClsIn K C = true
  ty : PySem.W.typeIn K (.ref C) = some (.type "type")
theorem kit_self {K : PySem.W.Frag} {C : Addr} : PySem.W.kitOne K (.ref C) (.ref C) = some true := by
  unfold PySem.W.kitOne
  rw [if_pos (by simp)]
theorem sub_ty {K : PySem.W.Frag} {C : Addr} {n : String} {l : List String} (h : fastBuiltinMro n = some (l.map Value.type)) : PySem.W.subIn K (.type n) (.ref C) = some false := by
  show (fastBuiltinMro n).map (·.contains (.ref C)) = some false
  rw [h]
  show some ((l.map Value.type).contains (.ref C)) = some false
  congr 1
  clear h
  induction l with
  | nil => rfl
  | cons a r ih =>
    rw [List.map_cons, List.contains_cons, ih]
    rfl
theorem kit_of {K : PySem.W.Frag} {C : Addr} (pi : PgI K C) {n : String} {l : List String} (h : fastBuiltinMro n = some (l.map Value.type)) : PySem.W.kitOne K (.type n) (.ref C) = some false := by
  unfold PySem.W.kitOne
  rw [if_neg (by simp)]
  unfold PySem.W.kitCls
  have hi' : (PySem.W.clsIn K C).isSome = true := pi.ic
  simp [pi.ty, hi', sub_ty h]
theorem kit_pg {K : PySem.W.Frag} {C : Addr} (pi : PgI K C) (d : PyData) : PySem.W.kitOne K (.type (tyN d)) (.ref C) = some false := by
  cases d with
  | none => exact kit_of (n := "NoneType") pi (l := ["NoneType", "object"]) (by decide +kernel)
  | bool b => exact kit_of (n := "bool") pi (l := ["bool", "int", "object"]) (by decide +kernel)
  | int b => exact kit_of (n := "int") pi (l := ["int", "object"]) (by decide +kernel)
  | str b => exact kit_of (n := "str") pi (l := ["str", "object"]) (by decide +kernel)
  | list b => exact kit_of (n := "list") pi (l := ["list", "object"]) (by decide +kernel)
  | tuple b => exact kit_of (n := "tuple") pi (l := ["tuple", "object"]) (by decide +kernel)
  | dict b => exact kit_of (n := "dict") pi (l := ["dict", "object"]) (by decide +kernel)
def IsP (H : Hp) (C : Addr) (px : V) : Prop := ∃ x dx fs, px = .ref x ∧ H x = some (.ins C dx fs)
def NoP (K : PySem.W.Frag) (H : Hp) (px : V) : Prop := (∃ d, Dp K H px d) ∨ ∃ p o, px = .ref p ∧ H p = some (.dK o)
theorem IsP.mono {H H' : Hp} {C : Addr} {px : V} (h : IsP H C px) (s : Same H H') : IsP H' C px := let ⟨x, dx, fs, h1, h2⟩ := h; ⟨x, dx, fs, h1, s _ _ h2⟩
theorem NoP.mono {K : PySem.W.Frag} {H H' : Hp} {px : V} (h : NoP K H px) (s : Same H H') : NoP K H' px := by
  rcases h with ⟨d, h⟩ | ⟨p, o, h1, h2⟩
  · exact .inl ⟨d, h.mono s⟩
  · exact .inr ⟨p, o, h1, s _ _ h2⟩
def XArg (H : Hp) (d : Addr) (part : Str) : Prop := H d = some (.xd [("part", .str part)])
structure TxtK (P : Program) (w : World) (K : PySem.W.Frag) (mg : Str → Option Value) (pF pO pN pL CH CA C : Addr) : Prop extends TxtH P w K mg pF pO pN pL CH CA where
  g_Program : mg "Program" = some (.ref C)
  pi : PgI K C
section
variable {P : Program} {w : World} {K : PySem.W.Frag} {mg : Str → Option Value} {base : Heap} {pF pO pN pL CH CA C : Addr}
/-- check -/
def spLen (K : PySem.W.Frag) (CH : Addr) : Sp := fun vs H Q X => ∃ (v : V) (r : Except Int (List Tk)), vs = [v] ∧ JH K H v r ∧ (∀ ts, r = .ok ts → ∀ H', Same H H' → Q (.int (((split ts).length : Nat) : Int)) H') ∧ (∀ i, r = .error i → ∀ H' d, Same H H' → XAt H' d i → X (.ref CH) (some d) H')
/-- cut -/
def spCut (K : PySem.W.Frag) (CH : Addr) : Sp := fun vs H Q X => ∃ (v : V) (r : Except Int (List Tk)), vs = [v] ∧ JH K H v r ∧ (∀ ts, r = .ok ts → ∀ q H', Same H H' → TT K H H' q (split ts) → Q (.ref q) H') ∧ (∀ i, r = .error i → ∀ H' d, Same H H' → XAt H' d i → X (.ref CH) (some d) H')
theorem JH.ok {H : Hp} {v : V} {ts : List Tk} (h : JH K H v (.ok ts)) : ∃ l us, v = .ref l ∧ H l = some (.lst us) ∧ Tks K H us ts ∧ (∀ t ∈ ts, Okt t) ∧ ts.length ≤ 1000 ∧ chkH ts = none := by
  rcases h with ⟨l, us, ds, os, rfl, h2, h3, h4, h5, h6, h7⟩ | ⟨_, h⟩
  · rcases h7 with ⟨i, _, h⟩ | ⟨ts', e1, e2, e3⟩
    · cases h
    · injection e3 with e3
      subst e3
      subst e1
      obtain ⟨g1, g2⟩ := h5.tks
      subst g1
      exact ⟨l, us, rfl, h2, h3, g2, by rw [List.length_map] at h6; exact h6, e2⟩
  · cases h
theorem sc_check : FnScope ["history"] ["history"] (defScope s_check) := ⟨rfl, rfl, rfl, by decide +kernel, rfl, by decide +kernel, by decide +kernel⟩
theorem ok_hcheck {f : Addr} {fd : FuncData} (F : Fun K "check" "check" s_check f fd) (T : Txt mg) (c_check_tokens : Cal P w K mg base (L2.CX P w) 3 "check_tokens" ["history"] (spCheckJ K CH)) (c_split_turns : Cal P w K mg base CX0 2 "split_turns" ["history"] (spSplit K)) : FnOk P w K mg base (L2.CX P w) 4 f fd ["history"] (spLen K CH) := by
  refine F.okX sc_check (fun vs H Q E h => ?_) (fun cdv A outer s H vs Q E hr h => ?_)
  · obtain ⟨v, r, rfl, _⟩ := h
    rfl
  · obtain ⟨v, r, rfl, hj, k1, k2⟩ := h
    refine ⟨_, (pss_cons (ps_expr (pe_cal c_check_tokens (hr.mono (by omega)) rfl (passes_call (takes_of rfl rfl rfl rfl) (fun _ _ _ _ h => h)) (pa_cons (pv 0) pa_nil)))
      (pss_one (ps_ret (pe_callB call_len_seq (by rfl) T.b_len (by decide +kernel) (pa_cons (pe_cal c_split_turns (hr.mono (by omega)) rfl pass0 (pa_cons (pv 0) pa_nil)) pa_nil))))), ?_⟩
    refine ⟨_, rfl, v, r, rfl, hj, fun ts e H1 s1 => ?_, k2⟩
    subst e
    obtain ⟨l, us, rfl, h1, h2, h3, h4, h5⟩ := hj.ok
    refine ⟨_, rfl, l, us, ts, rfl, s1 _ _ h1, h2.mono s1, h4, chk_out h5, fun q H2 s2 t2 => ?_⟩
    obtain ⟨ps, p1, p2, _⟩ := t2.r
    refine ⟨q, _, rfl, .inl (.inl (.inl p1)), ?_⟩
    rw [List.length_map, p2]
    exact k1 ts rfl _ (s1.trans s2)
theorem sc_cut : FnScope ["history"] ["history"] (defScope s_cut) := ⟨rfl, rfl, rfl, by decide +kernel, rfl, by decide +kernel, by decide +kernel⟩
theorem ok_cut {f : Addr} {fd : FuncData} (F : Fun K "cut" "cut" s_cut f fd) (c_check_tokens : Cal P w K mg base (L2.CX P w) 3 "check_tokens" ["history"] (spCheckJ K CH)) (c_split_turns : Cal P w K mg base CX0 2 "split_turns" ["history"] (spSplit K)) : FnOk P w K mg base (L2.CX P w) 4 f fd ["history"] (spCut K CH) := by
  refine F.okX sc_cut (fun vs H Q E h => ?_) (fun cdv A outer s H vs Q E hr h => ?_)
  · obtain ⟨v, r, rfl, _⟩ := h
    rfl
  · obtain ⟨v, r, rfl, hj, k1, k2⟩ := h
    refine ⟨_, (pss_cons (ps_expr (pe_cal c_check_tokens (hr.mono (by omega)) rfl (passes_call (takes_of rfl rfl rfl rfl) (fun _ _ _ _ h => h)) (pa_cons (pv 0) pa_nil)))
      (pss_one (ps_ret (pe_cal c_split_turns (hr.mono (by omega)) rfl pass0 (pa_cons (pv 0) pa_nil))))), ?_⟩
    refine ⟨_, rfl, v, r, rfl, hj, fun ts e H1 s1 => ?_, k2⟩
    subst e
    obtain ⟨l, us, rfl, h1, h2, h3, h4, h5⟩ := hj.ok
    refine ⟨_, rfl, l, us, ts, rfl, s1 _ _ h1, h2.mono s1, h4, chk_out h5, fun q H2 s2 t2 => k1 ts rfl q H2 (s1.trans s2) ?_⟩
    obtain ⟨ps, g1, g2, g3, g4, g5, g6⟩ := t2
    exact ⟨ps, g1, new_of s1 g2, g3, g4, fun p hp => new_of s1 (g5 p hp), g6⟩
def spCkP (K : PySem.W.Frag) (CA C : Addr) : Sp := fun vs H Q X => ∃ (px : V) (z : Str), vs = [px, .str z] ∧ ((IsP H C px ∧ Q .non H) ∨ (NoP K H px ∧ ∀ H' d, Same H H' → XArg H' d z → X (.ref CA) (some d) H'))
theorem sc_check_program : FnScope ["value", "part"] ["value", "part"] (defScope s_check_program) := ⟨rfl, rfl, rfl, by decide +kernel, rfl, by decide +kernel, by decide +kernel⟩
theorem ok_check_program {f : Addr} {fd : FuncData} (F : Fun K "check_program" "check_program" s_check_program f fd) (T : TxtK P w K mg pF pO pN pL CH CA C) : FnOk P w K mg base (L2.CX P w) 1 f fd ["value", "part"] (spCkP K CA C) := by
  refine F.okX sc_check_program (fun vs H Q E h => ?_) (fun cdv A outer s H vs Q E hr h => ?_)
  · obtain ⟨px, z, rfl, _⟩ := h
    rfl
  · obtain ⟨px, z, rfl, h⟩ := h
    refine ⟨_, (pss_one (ps_if (pt_not (pt_val (pe_callB call_isi (by rfl) T.b_isinstance (by decide +kernel) (pa_cons (L2.pv 0) (pa_cons (pe_gref rfl T.g_Program) pa_nil))))) (pss_one (ps_raise rfl (takes_of rfl rfl rfl rfl) (pmk_x T.mk_InvalidArgument hr rfl T.g_InvalidArgument T.k_InvalidArgument T.r_InvalidArgument (pa_cons (L2.pv 1) pa_nil)))) pss_nil)), ?_⟩
    rcases h with ⟨⟨x, dx, fs, rfl, hx⟩, k⟩ | ⟨⟨d, hd⟩ | ⟨p, o, rfl, hp⟩, k⟩
    · exact ⟨_, rfl, .ref x, .ref C, .ref C, .ref C, true, rfl, .own C, .base (.ins hx T.pi.cls T.pi.ha T.pi.hn T.pi.ht T.pi.hm), kit_self, _, rfl, ifF rfl k⟩
    · exact ⟨_, rfl, px, .ref C, _, .ref C, false, rfl, .own C, ty_dp hd, kit_pg T.pi d, _, rfl, ifT rfl ⟨_, rfl, rfl, fun d hd => k _ d (Same.new hd) upd_same⟩⟩
    · exact ⟨_, rfl, .ref p, .ref C, _, .ref C, false, rfl, .own C, TyX.base (.dK hp), kit_of T.pi (l := ["dict", "object"]) (by decide +kernel), _, rfl, ifT rfl ⟨_, rfl, rfl, fun d hd => k _ d (Same.new hd) upd_same⟩⟩
/-- read, good_turns, resume where they refuse -/
def spRep (K : PySem.W.Frag) (CH CA C : Addr) : Sp := fun vs H _ X => ∃ (px v : V), vs = [px, v] ∧ ((IsP H C px ∧ ∃ i, JH K H v (.error i) ∧ ∀ H' d, Same H H' → XAt H' d i → X (.ref CH) (some d) H') ∨ (NoP K H px ∧ ∀ H' d, Same H H' → XArg H' d "program" → X (.ref CA) (some d) H'))
theorem sc_replayed : FnScope ["program", "history"] ["program", "history"] (defScope s_replayed) := ⟨rfl, rfl, rfl, by decide +kernel, rfl, by decide +kernel, by decide +kernel⟩
theorem ok_replayed {f : Addr} {fd : FuncData} (F : Fun K "replayed" "replayed" s_replayed f fd) (c_check_program : Cal P w K mg base (L2.CX P w) 1 "check_program" ["value", "part"] (spCkP K CA C)) (c_check_tokens : Cal P w K mg base (L2.CX P w) 3 "check_tokens" ["history"] (spCheckJ K CH)) : FnOk P w K mg base (L2.CX P w) 4 f fd ["program", "history"] (spRep K CH CA C) := by
  refine F.okX sc_replayed (fun vs H Q E h => ?_) (fun cdv A outer s H vs Q E hr h => ?_)
  · obtain ⟨px, v, rfl, _⟩ := h
    rfl
  · obtain ⟨px, v, rfl, h⟩ := h
    refine ⟨_, (pss_cons (ps_expr (pe_cal c_check_program (hr.mono (by omega)) rfl (passes_call (takes_of rfl rfl rfl rfl) (fun _ _ _ _ h => h)) (pa_cons (L2.pv 0) (pa_cons pe_str pa_nil))))
      (pss_cons (ps_expr (pe_cal c_check_tokens (hr.mono (by omega)) rfl (passes_call (takes_of rfl rfl rfl rfl) (fun _ _ _ _ h => h)) (pa_cons (L2.pv 1) pa_nil)))
      pss_never)), ?_⟩
    rcases h with ⟨hp, i, hj, k⟩ | ⟨hp, k⟩
    · exact ⟨_, rfl, px, _, rfl, .inl ⟨hp, _, rfl, v, _, rfl, hj, fun ts e => (by cases e), fun j e H' d s' hx => (by injection e with e; subst e; exact k H' d s' hx)⟩⟩
    · exact ⟨_, rfl, px, _, rfl, .inr ⟨hp, k⟩⟩
theorem sc_read : FnScope ["program", "history", "told"] ["program", "history"] (defScope s_read) := ⟨rfl, rfl, rfl, by decide +kernel, rfl, by decide +kernel, by decide +kernel⟩
theorem ok_read {f : Addr} {fd : FuncData} (F : Fun K "read" "read" s_read f fd) (c_replayed : Cal P w K mg base (L2.CX P w) 4 "replayed" ["program", "history"] (spRep K CH CA C)) : FnOk P w K mg base (L2.CX P w) 5 f fd ["program", "history"] (spRep K CH CA C) := by
  refine F.okX sc_read (fun vs H Q E h => ?_) (fun cdv A outer s H vs Q E hr h => ?_)
  · obtain ⟨px, v, rfl, _⟩ := h
    rfl
  · obtain ⟨px, v, rfl, h⟩ := h
    refine ⟨_, (pss_cons (ps_set (i := 2) sc_read.nd rfl (.inl rfl) (pe_cal c_replayed (hr.mono (by omega)) rfl (passes_call (takes_of rfl rfl rfl rfl) (fun _ _ _ _ h => h)) (pa_cons (L2.pv 0) (pa_cons (L2.pv 1) pa_nil)))) pss_never), ?_⟩
    exact ⟨_, rfl, _, rfl, px, v, rfl, h⟩
theorem sc_good_turns : FnScope ["program", "history"] ["program", "history"] (defScope s_good_turns) := ⟨rfl, rfl, rfl, by decide +kernel, rfl, by decide +kernel, by decide +kernel⟩
theorem ok_good_turns {f : Addr} {fd : FuncData} (F : Fun K "good_turns" "good_turns" s_good_turns f fd) (c_replayed : Cal P w K mg base (L2.CX P w) 4 "replayed" ["program", "history"] (spRep K CH CA C)) : FnOk P w K mg base (L2.CX P w) 5 f fd ["program", "history"] (spRep K CH CA C) := by
  refine F.okX sc_good_turns (fun vs H Q E h => ?_) (fun cdv A outer s H vs Q E hr h => ?_)
  · obtain ⟨px, v, rfl, _⟩ := h
    rfl
  · obtain ⟨px, v, rfl, h⟩ := h
    refine ⟨_, (pss_one (ps_ret (pe_fld (pe_cal c_replayed (hr.mono (by omega)) rfl (passes_call (takes_of rfl rfl rfl rfl) (fun _ _ _ _ h => h)) (pa_cons (pv 0) (pa_cons (pv 1) pa_nil))) rfl))), ?_⟩
    exact ⟨_, rfl, _, rfl, px, v, rfl, h⟩
theorem sc_resume : FnScope ["program", "history", "told"] ["program", "history"] (defScope s_resume) := ⟨rfl, rfl, rfl, by decide +kernel, rfl, by decide +kernel, by decide +kernel⟩
theorem ok_resume {f : Addr} {fd : FuncData} (F : Fun K "resume" "resume" s_resume f fd) (c_replayed : Cal P w K mg base (L2.CX P w) 4 "replayed" ["program", "history"] (spRep K CH CA C)) : FnOk P w K mg base (L2.CX P w) 5 f fd ["program", "history"] (spRep K CH CA C) := by
  refine F.okX sc_resume (fun vs H Q E h => ?_) (fun cdv A outer s H vs Q E hr h => ?_)
  · obtain ⟨px, v, rfl, _⟩ := h
    rfl
  · obtain ⟨px, v, rfl, h⟩ := h
    refine ⟨_, (pss_cons (ps_set (i := 2) sc_resume.nd rfl (.inl rfl) (pe_cal c_replayed (hr.mono (by omega)) rfl (passes_call (takes_of rfl rfl rfl rfl) (fun _ _ _ _ h => h)) (pa_cons (L2.pv 0) (pa_cons (L2.pv 1) pa_nil)))) pss_never), ?_⟩
    exact ⟨_, rfl, _, rfl, px, v, rfl, h⟩
end
end Op
set_option pp.maxSteps 500
namespace L2
open PySem PySem.Spec PyProof.Rows
/-- what a callee may let out is taken, whatever the names hold -/
theorem passes_len {X : Cx} {W : WX} {E : XK} (tk : Takes X W) (hW : ∀ cls d σ H, σ.length = X.N.length → E cls d H → W cls d σ H) : Passes (L2.CX X.prog X.w) X E :=
  fun _ σ _ _ e s' I c => tk e s' (XE.of_call I (fun cls d H' h => hW cls d σ H' I.len h) c)
/-- pe_fld, the fragment by name -/
theorem pe_fldK {X : Cx} {K : PySem.W.Frag} {e : Expr} {ta : TE} {f : Str} {pos : Pos} (hK : X.K = K) (he : PE X e ta) (hb : attributeBase e f X.env (eval e X.env) = eval e X.env) : PE X (.Attribute e f pos) (tFld K ta f) := by
  subst hK
  exact pe_fld he hb
end L2
namespace Op
open PySem L2 PyProof.Rows
/-- turns as a datum -/
def tssD (tss : List (List Tk)) : PyData := .list (tss.map fun ts => .list (ts.map Tk.d))
theorem TR.dp {K : PySem.W.Frag} {H : Hp} {q : Addr} {tss : List (List Tk)} (h : TR K H q tss) : Dp K H (.ref q) (tssD tss) := by
  obtain ⟨ps, h1, h2, h3⟩ := h
  refine .lst (.inl (.inl h1)) ?_
  clear h1
  induction ps generalizing tss with
  | nil =>
    cases tss with
    | nil => exact .nil
    | cons _ _ => cases h2
  | cons p r ih =>
    cases tss with
    | nil => cases h2
    | cons ts tr =>
      obtain ⟨vs, e1, e2⟩ := h3 0 p ts rfl rfl
      exact .cons (.lst (.inl (.inl e1)) e2) (ih (tss := tr) (Nat.succ.inj h2) fun i p ts a b => h3 (i + 1) p ts a b)
theorem go_words : areWords 3 (.tuple [.str "go"]) = true := by decide +kernel
theorem chk_nil : checkAll ⟨[], [], false⟩ (.list []) = .ok chk0 := by first | rfl | kernel_rfl
section
variable {K : PySem.W.Frag} {C CI : Addr}
/-- Program([]) -/
theorem made0 {H : Hp} {x dx : Addr} {iv rv : V} {Q : VK} {E : XK} (hx : H x = none) (hdx : H dx = none) (hne : dx ≠ x) (hiv : Dp K H iv (.tuple [.str "go"])) (hrv : Dp K H rv (.list []))
    (k : ∀ H', Same H H' → IsP H' C (.ref x) → Q .non H') :
    spProg K C CI [.ref x, rv, .non, .non, iv] (upd (upd H dx (.own x)) x (.ins C dx [])) Q E := by
  have s4 : Same H (upd (upd H dx (.own x)) x (.ins C dx [])) := (Same.new hdx).trans (Same.new (by rw [L2.upd_ne hne.symm]; exact hx))
  have x4 : upd (upd H dx (.own x)) x (.ins C dx []) x = some (.ins C dx []) := upd_same
  revert s4 x4
  generalize upd (upd H dx (.own x)) x (.ins C dx []) = H4
  intro s4 x4
  refine ⟨x, dx, rv, .non, .non, iv, .none, .none, .tuple [.str "go"], .list [], rfl, x4, rfl, rfl, trivial, trivial, hiv.mono s4, .inl (hrv.mono s4), by decide +kernel, by decide +kernel, ?_, fun part path he => ?_⟩
  · intro ka' ks' ds' c' e1 e2 _ e3 e4 H' A kva kvs ls ss gs b ex eC p1 s1 p2 s2 q1 q2 q3 q4 q5 q6 q7 q8 po
    have := cut_all _ _ po.ob
    rw [ex, eC] at this
    exact k H' (fun c o hc => b c o (s4 c o hc) fun e => by rw [e, hx] at hc; cases hc) ⟨x, A.dx, _, rfl, this⟩
  · exfalso
    have h1 : okTab (areWords 4) 6 .none = some [] := rfl
    have h2 : okTab isBox 3 .none = some [] := rfl
    unfold progCheck at he
    rw [h1] at he
    dsimp only at he
    rw [h2] at he
    dsimp only at he
    rw [if_pos go_words] at he
    have h3 : checkAll ⟨([] : List (Str × PyData)).map (·.1), ([] : List (Str × PyData)).map (·.1), false⟩ (.list []) = .ok chk0 := chk_nil
    rw [h3] at he
    cases he
end
def refI (i : Int) : PyData := .tuple [.str "refused", .int i]
def toldJ (kn : Nat) : Except Int (List Tk) → PyData
  | .error i => refI i
  | .ok ts => .tuple [.str "told", if kn = 0 then .int (((split ts).length : Nat) : Int) else tssD (split ts)]
structure TxtL (P : Program) (w : World) (K : PySem.W.Frag) (mg : Str → Option Value) (pF pO pN pL CH CA C CR CN : Addr) : Prop extends TxtK P w K mg pF pO pN pL CH CA C where
  g_RunError : mg "RunError" = some (.ref CR)
  g_InputError : mg "InputError" = some (.ref CN)
  k1 : PySem.W.kitOne K (.ref CH) (.ref CA) = some false
  k2 : PySem.W.kitOne K (.ref CH) (.ref CR) = some false
  k3 : PySem.W.kitOne K (.ref CH) (.ref CN) = some true
  xh : XAsk K CH
  xf : XfC K CH
  n1 : PySem.W.findIn K (.ref CH) "at" = some none
  hex : PySem.W.exmOne K (.ref CH) (.ref CH) = some true
  xfa : XfC K CA
  n1a : PySem.W.findIn K (.ref CA) "part" = some none
  hexa : PySem.W.exmOne K (.ref CA) (.ref CA) = some true
theorem set3 {σ : L2.St} {v : V} (h : σ.length = 4) : (σ.set 3 (some v))[3]? = some (some v) := by
  rw [List.getElem?_set_self (by omega)]
section
variable {P : Program} {w : World} {K : PySem.W.Frag} {mg : Str → Option Value} {base : Heap} {pF pO pN pL CH CA C CR CN CI pI : Addr}
def spLTold (K : PySem.W.Frag) : Sp := fun vs H Q _ => ∃ (kn : Nat) (v : V) (r : Except Int (List Tk)), vs = [.int (kn : Int), v] ∧ kn ≤ 4 ∧ JH K H v r ∧ (∀ ts, r = .ok ts → kn ≤ 1) ∧ ∀ v' H', Same H H' → Dp K H' v' (toldJ kn r) → Q v' H'
theorem sc__law_told : FnScope ["_law_which", "_law_history_here", "_law_program", "e"] ["_law_which", "_law_history_here"] (defScope s__law_told) := ⟨rfl, rfl, rfl, by decide +kernel, rfl, by decide +kernel, by decide +kernel⟩
theorem ok_ltold {f : Addr} {fd : FuncData} (F : Fun K "_law_told" "_law_told" s__law_told f fd) (T : TxtL P w K mg pF pO pN pL CH CA C CR CN) (hgo : ∀ H, SqT K H pI [.str "go"])
    (k_Program0 : KcalG P w K mg base (L2.CX P w) 13 "Program" C ["self", "rows", "asks", "signals", "inputs"] 1 [] (fun vs _ => vs ++ [.non, .non, .ref pI]) (spProg K C CI))
    (c_check : Cal P w K mg base (L2.CX P w) 4 "check" ["history"] (spLen K CH)) (c_cut : Cal P w K mg base (L2.CX P w) 4 "cut" ["history"] (spCut K CH)) (c_read : Cal P w K mg base (L2.CX P w) 5 "read" ["program", "history"] (spRep K CH CA C)) (c_good_turns : Cal P w K mg base (L2.CX P w) 5 "good_turns" ["program", "history"] (spRep K CH CA C)) (c_resume : Cal P w K mg base (L2.CX P w) 5 "resume" ["program", "history"] (spRep K CH CA C)) :
    FnOk P w K mg base CX0 15 f fd ["_law_which", "_law_history_here"] (spLTold K) := by
  refine F.ok sc__law_told (fun vs H Q E h => ?_) (fun cdv A outer s H vs Q E hr h => ?_)
  · obtain ⟨kn, v, r, rfl, _⟩ := h
    rfl
  · obtain ⟨kn, v, r, rfl, hkn, hj, hok, k⟩ := h
    refine ⟨_, (pss_cons (ps_set (i := 2) sc__law_told.nd rfl (.inl rfl) (pe_kcalG k_Program0 (hr.mono (by omega)) rfl (passes_call takes0 (fun _ _ _ _ h => h)) (pa_cons (pe_lst pa_nil) pa_nil) pk_nil))
      (pss_one (ps_try_as (i := 3) rfl rfl sc__law_told.nd rfl rfl ⟨rfl, by decide, .inl T.g_InvalidHistory⟩ takes0
        (fun W pn xe tk own => pss_cons (ps_if (pt_cmpR op_eq (pv 0) pe_int (nomark _)) (pss_one (ps_ret (pe_tup (pa_cons pe_str (pa_cons (pe_cal c_check (hr.mono (by omega)) rfl (passes_len (E := fun cls d H => ∀ σ : L2.St, σ.length = 4 → W cls d σ H) tk (fun _ _ σ _ hl h => h σ hl)) (pa_cons (pv 1) pa_nil)) pa_nil))))) pss_nil)
          (pss_cons (ps_if (pt_cmpR op_eq (pv 0) pe_int (nomark _)) (pss_one (ps_ret (pe_tup (pa_cons pe_str (pa_cons (pe_cal c_cut (hr.mono (by omega)) rfl (passes_len (E := fun cls d H => ∀ σ : L2.St, σ.length = 4 → W cls d σ H) tk (fun _ _ σ _ hl h => h σ hl)) (pa_cons (pv 1) pa_nil)) pa_nil))))) pss_nil)
          (pss_cons (ps_if (pt_cmpR op_eq (pv 0) pe_int (nomark _)) (pss_one (ps_ret (pe_tup (pa_cons pe_str (pa_cons (pe_ix (r := rIxT K) ix_tup (pe_cal c_read (hr.mono (by omega)) rfl (passes_len (E := fun cls d H => ∀ σ : L2.St, σ.length = 4 → W cls d σ H) tk (fun _ _ σ _ hl h => h σ hl)) (pa_cons (pv 2) (pa_cons (pv 1) pa_nil))) pe_int (fun _ _ => rfl)) pa_nil))))) pss_nil)
          (pss_cons (ps_if (pt_cmpR op_eq (pv 0) pe_int (nomark _)) (pss_one (ps_ret (pe_tup (pa_cons pe_str (pa_cons (pe_cmpR op_ge (pe_cal c_good_turns (hr.mono (by omega)) rfl (passes_len (E := fun cls d H => ∀ σ : L2.St, σ.length = 4 → W cls d σ H) tk (fun _ _ σ _ hl h => h σ hl)) (pa_cons (pv 2) (pa_cons (pv 1) pa_nil))) pe_int (nomark _)) pa_nil))))) pss_nil)
          (pss_one (ps_ret (pe_tup (pa_cons pe_str (pa_cons (pe_fldK (K := K) rfl (pe_cal c_resume (hr.mono (by omega)) rfl (passes_len (E := fun cls d H => ∀ σ : L2.St, σ.length = 4 → W cls d σ H) tk (fun _ _ σ _ hl h => h σ hl)) (pa_cons (pv 2) (pa_cons (pv 1) pa_nil))) rfl) pa_nil)))))))))
        (fun a oe cls d pn hz hf => pss_cons (ps_if (PW.pt (pw_or (pt_val (pe_callB (call_isEd T.xh hz hf) (by rfl) T.b_isinstance (by decide +kernel) (pa_cons (pv 3) (pa_cons (pe_gref rfl T.g_InvalidArgument) pa_nil)))) (pw_or (pt_val (pe_callB (call_isEd T.xh hz hf) (by rfl) T.b_isinstance (by decide +kernel) (pa_cons (pv 3) (pa_cons (pe_gref rfl T.g_RunError) pa_nil)))) (pw_or1 (pt_not (pt_val (pe_callB (call_isEd T.xh hz hf) (by rfl) T.b_isinstance (by decide +kernel) (pa_cons (pv 3) (pa_cons (pe_gref rfl T.g_InputError) pa_nil))))))))) (pss_one (ps_ret (pe_tup (pa_cons pe_str (pa_cons pe_str pa_nil))))) pss_nil)
          (pss_one (ps_ret (pe_tup (pa_cons pe_str (pa_cons (pe_xf T.xf T.n1 hz hf (pv 3)) pa_nil))))))))), ?_⟩
    refine ⟨sz_lit (by decide), fun e he => ?_⟩
    have s1 := Same.new (o := .lst []) he
    have v1 := at_new (o := .lst []) he
    revert s1 v1
    generalize upd H e _ = H1
    intro s1 v1
    refine ⟨rfl, rfl, fun x dx hx hdx hne => ?_⟩
    refine made0 hx hdx hne (.tup (hgo _) (.cons (.str _) .nil)) (.lst (.inl (.inl v1)) .nil) fun H2 s2 ip => ⟨rfl, ?_⟩
    have s12 := s1.trans s2
    have hj2 := hj.mono s12
    clear hx hdx hne dx v1 s2 s1
    have finI : ∀ i, r = .error i → ∀ q H3, Same H H3 → H3 q = none → Q (.ref q) (upd H3 q (.tup [.str "refused", .int i])) := fun i e q H3 s3 hq => by
      refine k _ _ (s3.trans (Same.new hq)) ?_
      rw [e]
      exact .tup (.inl (.inl upd_same)) (.cons (.str _) (.cons (.int _) .nil))
    have err : 2 ≤ kn → ∃ i, r = .error i := fun h => by
      cases r with
      | error i => exact ⟨i, rfl⟩
      | ok ts => have := hok ts rfl; omega
    refine ⟨_, rfl, rfl, _, rfl, ?_⟩
    by_cases e0 : kn = 0
    · refine ifT (decide_eq_true (by rw [e0]; rfl)) ⟨_, rfl, v, r, rfl, hj2, fun ts e H3 s3 => ⟨sz2 _ _, fun q hq => ?_⟩, fun i e H3 d s3 hx σ hl => ⟨true, T.hex, fun _ a hfree => ⟨.ref a, set3 hl, _, _, _, d, _, rfl, .own _, rfl, rfl, hx, T.k1, _, rfl, ifF rfl ⟨.ref a, set3 hl, _, _, _, d, _, rfl, .own _, rfl, rfl, hx, T.k2, _, rfl, ifF rfl ⟨.ref a, set3 hl, _, _, _, d, _, rfl, .own _, rfl, rfl, hx, T.k3, _, rfl, ifF rfl ⟨.ref a, set3 hl, rfl, rfl, d, _, _, rfl, hx, rfl, sz2 _ _, fun q hq => finI i e q _ (s12.trans s3) hq⟩⟩⟩⟩, nofun⟩⟩
      refine k _ _ ((s12.trans s3).trans (Same.new hq)) ?_
      rw [e, show toldJ kn (.ok ts) = .tuple [.str "told", .int (((split ts).length : Nat) : Int)] by unfold toldJ; dsimp only; rw [if_pos e0]]
      exact .tup (.inl (.inl upd_same)) (.cons (.str _) (.cons (.int _) .nil))
    refine ifF (decide_eq_false (by intro z; injection z with z; omega)) ⟨_, rfl, rfl, _, rfl, ?_⟩
    by_cases e1 : kn = 1
    · refine ifT (decide_eq_true (by rw [e1]; rfl)) ⟨_, rfl, v, r, rfl, hj2, fun ts e q3 H3 s3 t3 => ⟨sz2 _ _, fun q hq => ?_⟩, fun i e H3 d s3 hx σ hl => ⟨true, T.hex, fun _ a hfree => ⟨.ref a, set3 hl, _, _, _, d, _, rfl, .own _, rfl, rfl, hx, T.k1, _, rfl, ifF rfl ⟨.ref a, set3 hl, _, _, _, d, _, rfl, .own _, rfl, rfl, hx, T.k2, _, rfl, ifF rfl ⟨.ref a, set3 hl, _, _, _, d, _, rfl, .own _, rfl, rfl, hx, T.k3, _, rfl, ifF rfl ⟨.ref a, set3 hl, rfl, rfl, d, _, _, rfl, hx, rfl, sz2 _ _, fun q hq => finI i e q _ (s12.trans s3) hq⟩⟩⟩⟩, nofun⟩⟩
      have s4 := Same.new (o := .tup [.str "told", .ref q3]) hq
      refine k _ _ ((s12.trans s3).trans s4) ?_
      rw [e, show toldJ kn (.ok ts) = .tuple [.str "told", tssD (split ts)] by unfold toldJ; dsimp only; rw [if_neg e0]]
      exact .tup (.inl (.inl upd_same)) (.cons (.str _) (.cons ((t3.r.mono s4).dp) .nil))
    obtain ⟨i, he⟩ := err (by omega)
    rw [he] at hj2
    refine ifF (decide_eq_false (by intro z; injection z with z; omega)) ⟨_, rfl, rfl, _, rfl, ?_⟩
    by_cases e2 : kn = 2
    · exact ifT (decide_eq_true (by rw [e2]; rfl)) ⟨_, rfl, _, rfl, _, v, rfl, .inl ⟨ip, i, hj2, fun H3 d s3 hx σ hl => ⟨true, T.hex, fun _ a hfree => ⟨.ref a, set3 hl, _, _, _, d, _, rfl, .own _, rfl, rfl, hx, T.k1, _, rfl, ifF rfl ⟨.ref a, set3 hl, _, _, _, d, _, rfl, .own _, rfl, rfl, hx, T.k2, _, rfl, ifF rfl ⟨.ref a, set3 hl, _, _, _, d, _, rfl, .own _, rfl, rfl, hx, T.k3, _, rfl, ifF rfl ⟨.ref a, set3 hl, rfl, rfl, d, _, _, rfl, hx, rfl, sz2 _ _, fun q hq => finI i he q _ (s12.trans s3) hq⟩⟩⟩⟩, nofun⟩⟩⟩
    refine ifF (decide_eq_false (by intro z; injection z with z; omega)) ⟨_, rfl, rfl, _, rfl, ?_⟩
    by_cases e3 : kn = 3
    · exact ifT (decide_eq_true (by rw [e3]; rfl)) ⟨_, rfl, _, rfl, _, v, rfl, .inl ⟨ip, i, hj2, fun H3 d s3 hx σ hl => ⟨true, T.hex, fun _ a hfree => ⟨.ref a, set3 hl, _, _, _, d, _, rfl, .own _, rfl, rfl, hx, T.k1, _, rfl, ifF rfl ⟨.ref a, set3 hl, _, _, _, d, _, rfl, .own _, rfl, rfl, hx, T.k2, _, rfl, ifF rfl ⟨.ref a, set3 hl, _, _, _, d, _, rfl, .own _, rfl, rfl, hx, T.k3, _, rfl, ifF rfl ⟨.ref a, set3 hl, rfl, rfl, d, _, _, rfl, hx, rfl, sz2 _ _, fun q hq => finI i he q _ (s12.trans s3) hq⟩⟩⟩⟩, nofun⟩⟩⟩
    exact ifF (decide_eq_false (by intro z; injection z with z; omega)) ⟨_, rfl, _, rfl, _, v, rfl, .inl ⟨ip, i, hj2, fun H3 d s3 hx σ hl => ⟨true, T.hex, fun _ a hfree => ⟨.ref a, set3 hl, _, _, _, d, _, rfl, .own _, rfl, rfl, hx, T.k1, _, rfl, ifF rfl ⟨.ref a, set3 hl, _, _, _, d, _, rfl, .own _, rfl, rfl, hx, T.k2, _, rfl, ifF rfl ⟨.ref a, set3 hl, _, _, _, d, _, rfl, .own _, rfl, rfl, hx, T.k3, _, rfl, ifF rfl ⟨.ref a, set3 hl, rfl, rfl, d, _, _, rfl, hx, rfl, sz2 _ _, fun q hq => finI i he q _ (s12.trans s3) hq⟩⟩⟩⟩, nofun⟩⟩⟩
end
end Op
set_option pp.maxSteps 500
namespace L2
open PySem PySem.Spec PyProof.Rows
theorem pe_calS {X : Cx} {CX : CXT} {k : Nat} {x : Str} {ps : List Str} {sp : Sp} {E : L2.St → XK} {p pos : Pos} {e : Expr} {es : List Expr} {t : TA} (c : Cal X.prog X.w X.K X.mg X.base CX k x ps sp) (hr : Room k X.A) (hg : Gl X x) (hx : ∀ σ, PassesAt CX X σ (E σ)) (ha : PA X (e :: es) t)
    (hdb : (x == ("__debug__" : Str)) = false := by decide) (he : starEach (e :: es) X.env = (false, eval e X.env) :: starEach es X.env := by rfl) (hpl : (backTo pos (starEach es X.env)).any (·.1) = false := by rfl) :
    PE X (.Call (.Name x p) (e :: es) [] pos) (tCallS sp E t) := by
  obtain ⟨f, fd, h1, h2, h3, h4⟩ := c
  exact pe_callS h4 hr hg h1 h2 h3 hx ha hdb he hpl
end L2
namespace Op
open PySem L2 PyProof.Rows
section
variable {P : Program} {w : World} {K : PySem.W.Frag} {mg : Str → Option Value} {base : Heap} {pF pO pN pL CH CA C CR CN CI pI : Addr}
def spNoP (K : PySem.W.Frag) : Sp := fun vs H Q _ => ∃ v : V, vs = [v] ∧ ∀ H', Same H H' → Q (.bl true) H'
theorem sc__law_no_program : FnScope ["_law_history_here", "_law_value", "_law_found", "_law_which", "_law_told_here", "e"] ["_law_history_here"] (defScope s__law_no_program) := ⟨rfl, rfl, rfl, by decide +kernel, rfl, by decide +kernel, by decide +kernel⟩
theorem ok_nop {f : Addr} {fd : FuncData} (F : Fun K "_law_no_program" "_law_no_program" s__law_no_program f fd) (T : TxtL P w K mg pF pO pN pL CH CA C CR CN)
    (c_read : Cal P w K mg base (L2.CX P w) 5 "read" ["program", "history"] (spRep K CH CA C)) (c_good_turns : Cal P w K mg base (L2.CX P w) 5 "good_turns" ["program", "history"] (spRep K CH CA C)) (c_resume : Cal P w K mg base (L2.CX P w) 5 "resume" ["program", "history"] (spRep K CH CA C)) :
    FnOk P w K mg base CX0 6 f fd ["_law_history_here"] (spNoP K) := by
  refine F.ok sc__law_no_program (fun vs H Q E h => ?_) (fun cdv A outer s H vs Q E hr h => ?_)
  · obtain ⟨v, rfl, _⟩ := h
    rfl
  · obtain ⟨v, rfl, k⟩ := h
    refine ⟨_, (pss_cons (ps_for PassesOwn.never rfl (pi_tup (pe_tup (pa_cons pe_non (pa_cons (pe_lst pa_nil) (pa_cons pe_str (pa_cons pe_int (pa_cons pe_dnewK (pa_cons (pe_tup (pa_cons pe_str pa_nil)) pa_nil)))))))) (pg_name (i := 1) sc__law_no_program.nd rfl (.inl rfl)) (pss_cons (ps_set (i := 2) sc__law_no_program.nd rfl (.inl rfl) (pe_lst pa_nil))
      (pss_cons (ps_for PassesOwn.never rfl (pi_range1 (by rfl) T.b_range (pa_cons pe_int pa_nil)) (pg_name (i := 3) sc__law_no_program.nd rfl (.inl rfl)) (pss_cons (ps_set (i := 4) sc__law_no_program.nd rfl (.inl rfl) pe_str)
      (Evl.pss_cut (ps_try_as (i := 5) rfl rfl sc__law_no_program.nd rfl rfl ⟨rfl, by decide, .inl T.g_InvalidArgument⟩ takes0
        (fun W pn xe tk own => pss_one (ps_if (pt_cmpR op_eq (pv 3) pe_int (nomark _)) (pss_one (ps_expr (pe_calS c_read (hr.mono (by omega)) rfl (fun σ => passAt tk σ) (pa_cons (pv 1) (pa_cons (pv 0) pa_nil)))))
          (pss_one (ps_if (pt_cmpR op_eq (pv 3) pe_int (nomark _)) (pss_one (ps_expr (pe_calS c_good_turns (hr.mono (by omega)) rfl (fun σ => passAt tk σ) (pa_cons (pv 1) (pa_cons (pv 0) pa_nil)))))
            (pss_one (ps_expr (pe_calS c_resume (hr.mono (by omega)) rfl (fun σ => passAt tk σ) (pa_cons (pv 1) (pa_cons (pv 0) pa_nil)))))))))
        (fun a oe cls d pn hz hf => pss_one (ps_set (i := 4) sc__law_no_program.nd rfl (.inl rfl) (pe_xf T.xfa T.n1a hz hf (pv 5)))))
      (pss_one (ps_expr (pe_bm PySem.F.plainAttrs_list PySem.F.slot_list_append PySem.F.type_list_append mt_append (pv 2) (pa_cons (pv 4) pa_nil)))))))
      (pss_one (ps_if (pt_cmpR (op_neD hr.units) (pv 2) (pe_lst (pa_cons pe_str (pa_cons pe_str (pa_cons pe_str pa_nil)))) (nomark _)) (pss_one (ps_ret pe_bl)) pss_nil)))))
      (pss_one (ps_ret pe_bl))), ?_⟩
    refine ⟨sz_lit (by decide), fun e he => fun d hd => ⟨sz1 _, fun t ht => ⟨sz_lit (by show 6 ≤ 100000; decide), fun tt htt => ?_⟩⟩⟩
    have sa := Same.new (o := .lst []) he
    have sb := Same.new (o := .dK []) hd
    have sc := Same.new (o := .tup [.str "program"]) ht
    have sd := Same.new (o := .tup [.non, .ref e, .str "program", .int 5, .ref d, .ref t]) htt
    have n2 : NoP K (upd (upd (upd (upd H e (.lst [])) d (.dK [])) t (.tup [.str "program"])) tt (.tup [.non, .ref e, .str "program", .int 5, .ref d, .ref t])) (.ref e) := .inl ⟨_, .lst (.inl (.inl (sd _ _ (sc _ _ (sb _ _ upd_same))))) .nil⟩
    have n5 : NoP K (upd (upd (upd (upd H e (.lst [])) d (.dK [])) t (.tup [.str "program"])) tt (.tup [.non, .ref e, .str "program", .int 5, .ref d, .ref t])) (.ref d) := .inr ⟨d, [], rfl, sd _ _ (sc _ _ upd_same)⟩
    have n6 : NoP K (upd (upd (upd (upd H e (.lst [])) d (.dK [])) t (.tup [.str "program"])) tt (.tup [.non, .ref e, .str "program", .int 5, .ref d, .ref t])) (.ref t) := .inl ⟨_, .tup (.inl (.inl (sd _ _ upd_same))) (.cons (.str _) .nil)⟩
    have tt1 : upd (upd (upd (upd H e (.lst [])) d (.dK [])) t (.tup [.str "program"])) tt (.tup [.non, .ref e, .str "program", .int 5, .ref d, .ref t]) tt = some (.tup [.non, .ref e, .str "program", .int 5, .ref d, .ref t]) := upd_same
    have s1 := ((sa.trans sb).trans sc).trans sd
    clear sa sb sc sd he hd ht htt
    revert n2 n5 n6 tt1 s1
    generalize upd (upd (upd (upd H e _) d _) t _) tt _ = H1
    intro n2 n5 n6 tt1 s1
    have nop : ∀ x ∈ [V.non, .ref e, .str "program", .int 5, .ref d, .ref t], NoP K H1 x := fun x hx => by
      simp only [List.mem_cons, List.not_mem_nil, or_false] at hx
      rcases hx with rfl | rfl | rfl | rfl | rfl | rfl
      · exact .inl ⟨_, .non⟩
      · exact n2
      · exact .inl ⟨_, .str _⟩
      · exact .inl ⟨_, .int _⟩
      · exact n5
      · exact n6
    refine ⟨tt, rfl, ⟨_, .inl (.inl tt1)⟩, ?_⟩
    refine for_it (walk_tup (xs := [V.non, .ref e, .str "program", .int 5, .ref d, .ref t])) (fun i σ G => (∃ y1 y2 y3 y4 : Option V, σ = [some v, y1, y2, y3, y4, none]) ∧ Same H1 G) ⟨⟨_, _, _, _, rfl⟩, Same.refl _⟩ (fun i σ G _ z => .inl (.inl (z.2 _ _ tt1))) ?_ ?_
    · rintro i x σ G1 G hi ⟨⟨y1, y2, y3, y4, rfl⟩, sG⟩ ⟨rfl, hx⟩
      have nx := (nop x (List.mem_of_getElem? hx)).mono sG
      refine ⟨sz_lit (by decide), fun fl hfl => ?_⟩
      have sf := Same.new (o := .lst []) hfl
      have f1 := at_new (o := .lst []) hfl
      revert sf f1
      generalize upd G fl _ = G2
      intro sf f1
      refine ⟨3, rfl, by decide, by decide, ?_⟩
      refine for_it (walk_range (lo := 0) (n := 3)) (fun j σ G3 => (∃ y3 y4 : Option V, σ = [some v, some x, some (.ref fl), y3, y4, none]) ∧ G3 fl = some (.lst (List.replicate j (.str "program"))) ∧ Same G G3) ⟨⟨_, _, rfl⟩, f1, sf⟩ (fun _ _ _ _ _ => trivial) ?_ ?_
      · rintro j y σ G5 G4 hj ⟨⟨y3, y4, rfl⟩, f4, s4⟩ ⟨rfl, rfl⟩
        have nx4 := nx.mono s4
        refine ⟨fun σ' G6 => σ' = [some v, some x, some (.ref fl), some (.int ((0 : Int) + (j : Nat))), some (.str "program"), none] ∧ Same G4 G6, ?_, ?_⟩
        · refine ⟨_, rfl, rfl, _, rfl, ?_⟩
          have zj : (0 : Int) + (j : Nat) = (j : Nat) := by omega
          by_cases e0 : j = 0
          · exact ifT (decide_eq_true (by show V.int ((0 : Int) + (j : Nat)) = _; rw [zj, e0]; rfl)) ⟨_, rfl, _, rfl, x, v, rfl, .inr ⟨nx4, fun G6 dd s6 hx => ⟨true, T.hexa, fun _ a hfree => ⟨.ref a, rfl, rfl, rfl, dd, _, _, rfl, hx, rfl, rfl, s6⟩, nofun⟩⟩⟩
          refine ifF (decide_eq_false (by intro z; injection z with z; omega)) ⟨_, rfl, rfl, _, rfl, ?_⟩
          by_cases e1 : j = 1
          · exact ifT (decide_eq_true (by show V.int ((0 : Int) + (j : Nat)) = _; rw [zj, e1]; rfl)) ⟨_, rfl, _, rfl, x, v, rfl, .inr ⟨nx4, fun G6 dd s6 hx => ⟨true, T.hexa, fun _ a hfree => ⟨.ref a, rfl, rfl, rfl, dd, _, _, rfl, hx, rfl, rfl, s6⟩, nofun⟩⟩⟩
          exact ifF (decide_eq_false (by intro z; injection z with z; omega)) ⟨_, rfl, _, rfl, x, v, rfl, .inr ⟨nx4, fun G6 dd s6 hx => ⟨true, T.hexa, fun _ a hfree => ⟨.ref a, rfl, rfl, rfl, dd, _, _, rfl, hx, rfl, rfl, s6⟩, nofun⟩⟩⟩
        · rintro σ' G6 ⟨rfl, s6⟩
          refine ⟨_, rfl, .inl ⟨rfl, _, .inl (.inl (s6 _ _ f4))⟩, _, rfl, fl, _, _, rfl, rfl, s6 _ _ f4, lt_sz (by rw [List.length_replicate]; omega), ⟨⟨_, _, rfl⟩, ?_, Same.updN (s4.trans s6) hfl⟩⟩
          rw [upd_same, List.replicate_succ']
      · rintro σ G4 ⟨⟨y3, y4, rfl⟩, f4, s4⟩
        refine ⟨_, rfl, sz_lit (by show 3 ≤ 100000; decide), fun l5 h5 => ⟨.list [.str "program", .str "program", .str "program"], .list [.str "program", .str "program", .str "program"], .lst (.inl (.inl (Same.new h5 _ _ f4))) (.cons (.str _) (.cons (.str _) (.cons (.str _) .nil))), .lst (.inl (.inl upd_same)) (.cons (.str _) (.cons (.str _) (.cons (.str _) .nil))), by decide +kernel, by decide +kernel, _, rfl, ifF (by decide +kernel) ⟨⟨_, _, _, _, rfl⟩, sG.trans (s4.trans (Same.new h5))⟩⟩⟩
    · rintro σ G ⟨⟨y1, y2, y3, y4, rfl⟩, sG⟩
      exact k G (s1.trans sG)
end
end Op
namespace Op
open PySem L2 PyProof.Rows
/-! ### the bag -/
def bag (l : Addr) (a r sd m : Int) : HO := .dK [((.inr "cells" : Key), .ref l), (.inr "at", .int a), (.inr "rest", .int r), (.inr "seed", .int sd), (.inr "many", .int m)]
theorem mk_bag (l : Addr) (a r sd m : Int) : mergeK [] [((.inr "cells" : Key), V.ref l), (.inr "at", .int a), (.inr "rest", .int r), (.inr "seed", .int sd), (.inr "many", .int m)] = [((.inr "cells" : Key), .ref l), (.inr "at", .int a), (.inr "rest", .int r), (.inr "seed", .int sd), (.inr "many", .int m)] := by
  first | rfl | kernel_rfl
theorem put_at (l : Addr) (a r sd m a' : Int) : putK [((.inr "cells" : Key), V.ref l), (.inr "at", .int a), (.inr "rest", .int r), (.inr "seed", .int sd), (.inr "many", .int m)] (.inr "at") (.int a') = [((.inr "cells" : Key), .ref l), (.inr "at", .int a'), (.inr "rest", .int r), (.inr "seed", .int sd), (.inr "many", .int m)] := by
  first | rfl | kernel_rfl
theorem put_rest (l : Addr) (a r sd m a' : Int) : putK [((.inr "cells" : Key), V.ref l), (.inr "at", .int a), (.inr "rest", .int r), (.inr "seed", .int sd), (.inr "many", .int m)] (.inr "rest") (.int a') = [((.inr "cells" : Key), .ref l), (.inr "at", .int a), (.inr "rest", .int a'), (.inr "seed", .int sd), (.inr "many", .int m)] := by
  first | rfl | kernel_rfl
theorem put_seed (l : Addr) (a r sd m a' : Int) : putK [((.inr "cells" : Key), V.ref l), (.inr "at", .int a), (.inr "rest", .int r), (.inr "seed", .int sd), (.inr "many", .int m)] (.inr "seed") (.int a') = [((.inr "cells" : Key), .ref l), (.inr "at", .int a), (.inr "rest", .int r), (.inr "seed", .int a'), (.inr "many", .int m)] := by
  first | rfl | kernel_rfl
theorem put_many (l : Addr) (a r sd m a' : Int) : putK [((.inr "cells" : Key), V.ref l), (.inr "at", .int a), (.inr "rest", .int r), (.inr "seed", .int sd), (.inr "many", .int m)] (.inr "many") (.int a') = [((.inr "cells" : Key), .ref l), (.inr "at", .int a), (.inr "rest", .int r), (.inr "seed", .int sd), (.inr "many", .int a')] := by
  first | rfl | kernel_rfl
section
variable {H : Hp} {p l : Addr} {a r sd m : Int}
theorem get_cells (h : H p = some (bag l a r sd m)) : DGet H p (.str "cells") (some (.ref l)) := DGet.k (k := (.inr "cells" : Key)) h
theorem get_at (h : H p = some (bag l a r sd m)) : DGet H p (.str "at") (some (.int a)) := DGet.k (k := (.inr "at" : Key)) h
theorem get_rest (h : H p = some (bag l a r sd m)) : DGet H p (.str "rest") (some (.int r)) := DGet.k (k := (.inr "rest" : Key)) h
theorem get_seed (h : H p = some (bag l a r sd m)) : DGet H p (.str "seed") (some (.int sd)) := DGet.k (k := (.inr "seed" : Key)) h
theorem get_many (h : H p = some (bag l a r sd m)) : DGet H p (.str "many") (some (.int m)) := DGet.k (k := (.inr "many" : Key)) h
theorem dput_at (h : H p = some (bag l a r sd m)) (c : Int) : DPut H p (.str "at") (.int c) (upd H p (bag l c r sd m)) := by
  have z := DPut.k (k := (.inr "at" : Key)) (v := .int c) h (by show 5 < sizeLine; rw [sizeLine_eq]; decide)
  rw [put_at] at z
  exact z
theorem dput_rest (h : H p = some (bag l a r sd m)) (c : Int) : DPut H p (.str "rest") (.int c) (upd H p (bag l a c sd m)) := by
  have z := DPut.k (k := (.inr "rest" : Key)) (v := .int c) h (by show 5 < sizeLine; rw [sizeLine_eq]; decide)
  rw [put_rest] at z
  exact z
theorem dput_seed (h : H p = some (bag l a r sd m)) (c : Int) : DPut H p (.str "seed") (.int c) (upd H p (bag l a r c m)) := by
  have z := DPut.k (k := (.inr "seed" : Key)) (v := .int c) h (by show 5 < sizeLine; rw [sizeLine_eq]; decide)
  rw [put_seed] at z
  exact z
theorem dput_many (h : H p = some (bag l a r sd m)) (c : Int) : DPut H p (.str "many") (.int c) (upd H p (bag l a r sd c)) := by
  have z := DPut.k (k := (.inr "many" : Key)) (v := .int c) h (by show 5 < sizeLine; rw [sizeLine_eq]; decide)
  rw [put_many] at z
  exact z
end
theorem fmod_lt {a m : Int} (h : 0 < m) : 0 ≤ a.fmod m ∧ a.fmod m < m := ⟨Int.fmod_nonneg_of_pos _ h, Int.fmod_lt_of_pos _ h⟩
/-- the bag stands at p -/
def Pl (H : Hp) (p l : Addr) : Prop := ∃ a r sd m, ∃ ns : List Int, H p = some (bag l a r sd m) ∧ H l = some (.lst (ns.map V.int)) ∧ 0 ≤ a ∧ 0 ≤ r
section
variable {K : PySem.W.Frag} {H H' : Hp} {p c : Addr}
theorem Pl.at (h : Pl H p c) : ∃ kvs, H p = some (.dK kvs) := let ⟨_, _, _, _, _, h, _⟩ := h; ⟨_, h⟩
theorem Pl.cells (h : Pl H p c) : ∃ xs, H c = some (.lst xs) := let ⟨_, _, _, _, _, _, h, _⟩ := h; ⟨_, h⟩
theorem Pl.kp (h : Pl H p c) (b : But p H H') : Kp H H' := fun c o hc ho => b c o hc fun e => by
  obtain ⟨_, h⟩ := h.at
  rw [e, h] at hc
  cases hc
  cases ho
theorem Pl.mono (h : Pl H p c) (s : Same H H') : Pl H' p c := let ⟨a, r, sd, m, ns, h1, h2, h3, h4⟩ := h; ⟨a, r, sd, m, ns, s _ _ h1, s _ _ h2, h3, h4⟩
theorem Pl.put {D : Addr} {o : HO} (h : Pl H p c) (h1 : D ≠ p) (h2 : D ≠ c) : Pl (upd H D o) p c := let ⟨a, r, sd, m, ns, g1, g2, g3, g4⟩ := h; ⟨a, r, sd, m, ns, by rw [L2.upd_ne h1.symm]; exact g1, by rw [L2.upd_ne h2.symm]; exact g2, g3, g4⟩
/-- what was free while the bag stood is not of the bag -/
theorem Pl.new {D : Addr} (h : Pl H p c) (hD : H D = none) : D ≠ p ∧ D ≠ c := by
  refine ⟨fun e => ?_, fun e => ?_⟩
  · obtain ⟨_, g⟩ := h.at
    rw [e, g] at hD
    cases hD
  · obtain ⟨_, g⟩ := h.cells
    rw [e, g] at hD
    cases hD
end
theorem lt64b {a : Int} : -(2 ^ 64) < a.fmod 2147483647 ∧ a.fmod 2147483647 < 2 ^ 64 := by
  have := fmod_lt (a := a) (m := 2147483647) (by decide)
  omega
def spBag (K : PySem.W.Frag) : Sp := fun vs H Q _ => ∃ (a : Addr) (ns : List Int), vs = [.ref a] ∧ SqL K H a (ns.map V.int) ∧ ns.length ≤ 63 ∧
  ∀ (p c : Addr) H', H p = none → Same H H' → Pl H' p c → Q (.ref p) H'
def spD : Sp := fun vs H Q _ => ∃ (p l : Addr) (m : Int), vs = [.ref p, .int m] ∧ Pl H p l ∧ m < 1073741824 ∧ ∀ (r : Int) H', 0 ≤ r → (r < m ∨ m < 2 ∧ r = 0) → But p H H' → Pl H' p l → Q (.int r) H'
section
variable {P : Program} {w : World} {K : PySem.W.Frag} {mg : Str → Option Value} {base : Heap}
theorem sc__law_bag : FnScope ["_law_script", "_law_cell"] ["_law_script"] (defScope s__law_bag) := ⟨rfl, rfl, rfl, by decide +kernel, rfl, by decide +kernel, by decide +kernel⟩
theorem ok_bag {f : Addr} {fd : FuncData} (F : Fun K "_law_bag" "_law_bag" s__law_bag f fd) (T : Txt mg) : FnOk P w K mg base CX0 1 f fd ["_law_script"] (spBag K) := by
  refine F.ok sc__law_bag (fun vs H Q E h => ?_) (fun cdv A outer s H vs Q E hr h => ?_)
  · obtain ⟨a, ns, rfl, _⟩ := h
    rfl
  · obtain ⟨a, ns, rfl, hS, hlen, k⟩ := h
    refine ⟨_, (pss_one (ps_ret (pe_disp (pps_cons pe_str (pe_lc (own := [("_law_cell", 1)]) (g := gName 1) (tt := tYes) rfl sc__law_bag.nd (pi_list (pe_slice sl_list (pv 0) po_none (po_some pe_int))) (blkOk_by (own := [("_law_cell", 1)]) (N := ["_law_script", "_law_cell"]) (sc := defScope s__law_bag) (by decide +kernel)) (fun _ _ _ _ _ => (pg_name (i := 1) sc__law_bag.nd rfl (.inl rfl))) (fun _ _ _ _ _ => pts_nil) (fun _ _ _ _ _ => (pe_callTy call_int1 (by rfl) T.b_int (by decide +kernel) (pa_cons (pv 1) pa_nil)))) (pps_cons pe_str pe_int (pps_cons pe_str pe_int (pps_cons pe_str pe_int (pps_cons pe_str pe_int pps_nil))))) (by rfl) (by rfl) (fun z => by cases z) (by decide)))), ?_⟩
    intro p hp
    have s1 : Same H (upd H p (.dK [])) := Same.new hp
    have p1 : upd H p (.dK []) p = some (.dK []) := upd_same
    revert s1 p1
    generalize upd H p (.dK []) = H1
    intro s1 p1
    obtain ⟨ms, hms⟩ : ∃ ms : List Int, cutV (ns.map V.int) none (some 63) = ms.map V.int := by
      unfold cutV
      exact ⟨_, by rw [← List.map_drop, ← List.map_take]⟩
    have hml : ms.length ≤ 63 := by
      have := cutV_length (ns.map V.int) none (some 63)
      rw [hms, List.length_map, List.length_map] at this
      omega
    refine ⟨_, rfl, 63, rfl, a, _, rfl, hS.mono s1, fun q hq => ?_⟩
    rw [hms]
    have s2 := s1.trans (Same.new (o := .lst (ms.map V.int)) hq)
    have s12 := Same.new (o := .lst (ms.map V.int)) hq
    have q2 := at_new (o := .lst (ms.map V.int)) hq
    revert s2 q2 s12
    generalize upd H1 q _ = H2
    intro s2 s12 q2
    refine ⟨q, rfl, ⟨_, .inl (.inl q2)⟩, fun D hD => ?_⟩
    refine lc_it (walk_list (xs := ms.map V.int)) (fun i H' => H' D = some (.lst ((ms.take i).map V.int)) ∧ Same H2 H') ⟨upd_same, Same.new hD⟩ (fun i H' _ q => .inl (.inl (q.2 _ _ q2))) ?_ ?_
    · rintro i x H5 H4 hi ⟨hD4, s4⟩ ⟨rfl, hx⟩
      have hi' : i < ms.length := by rw [List.length_map] at hi; exact hi
      have hmi : ms[i]? = some ms[i] := List.getElem?_eq_getElem hi'
      obtain rfl : x = .int ms[i] := by
        rw [List.getElem?_map, hmi] at hx
        exact (Option.some.inj hx).symm
      refine ⟨rfl, _, rfl, .inl ⟨_, rfl, _, hD4, lt_sz (by rw [List.length_map, List.length_take]; omega), ?_, fun b o hb => ?_⟩⟩
      · rw [upd_same, TS.take_one hmi, List.map_append]
        rfl
      · rw [L2.upd_ne (ne_of_none hb hD)]
        exact s4 b o hb
    · rintro H4 ⟨hD4, s4⟩
      rw [List.length_map, List.take_length] at hD4
      have s14 := s12.trans s4
      refine ⟨s14 _ _ p1, [((.inr "cells" : Key), V.ref D), (.inr "at", .int 0), (.inr "rest", .int 0), (.inr "seed", .int 1), (.inr "many", .int 0)], rfl, (by show 5 ≤ 15; decide), ?_⟩
      have hDp : D ≠ p := fun e => by rw [e, s12 _ _ p1] at hD; cases hD
      have e1 := mk_bag D 0 0 1 0
      refine k p D _ hp (fun b o hb => ?_) ⟨0, 0, 1, 0, ms, by rw [upd_same]; exact congrArg (fun l => some (HO.dK l)) e1, by rw [L2.upd_ne hDp]; exact hD4, by decide, by decide⟩
      rw [L2.upd_ne (ne_of_none hb hp)]
      exact s14 _ _ (s1 _ _ hb)
theorem sc__law_draw : FnScope ["_law_bag_here", "_law_many", "_law_cell", "_law_value", "_law_number"] ["_law_bag_here", "_law_many"] (defScope s__law_draw) := ⟨rfl, rfl, rfl, by decide +kernel, rfl, by decide +kernel, by decide +kernel⟩
theorem ok_draw {f : Addr} {fd : FuncData} (F : Fun K "_law_draw" "_law_draw" s__law_draw f fd) (T : Txt mg) : FnOk P w K mg base CX0 1 f fd ["_law_bag_here", "_law_many"] spD := by
  refine F.ok sc__law_draw (fun vs H Q E h => ?_) (fun cdv A outer s H vs Q E hr h => ?_)
  · obtain ⟨p, l, m, rfl, _⟩ := h
    rfl
  · obtain ⟨p, l, m, rfl, ⟨a, r, sd, c, ns, hp, hl, ha, hr0⟩, h2, k⟩ := h
    have hu := hu_of hr
    refine ⟨_, (pss_cons (ps_if (pt_cmpR op_lt (pv 1) pe_int (nomark _)) (pss_one (ps_ret pe_int)) pss_nil)
      (pss_cons (ps_dput hu (pv 0) pe_str (pe_op op_add (pe_dget hu (pv 0) pe_str (fun _ _ => rfl)) pe_int) rfl)
      (Evl.pss_cut (ps_if (PW.pt (pw_and (pt_cmpR op_eq (pe_dget hu (pv 0) pe_str (fun _ _ => rfl)) pe_int (nomark _)) (pw_and1 (pt_cmpR op_lt (pe_dget hu (pv 0) pe_str (fun _ _ => rfl)) (pe_callB call_len_seq (by rfl) T.b_len (by decide +kernel) (pa_cons (pe_dget hu (pv 0) pe_str (fun _ _ => rfl)) pa_nil)) (nomark _))))) (pss_cons (ps_set (i := 2) sc__law_draw.nd rfl (.inl rfl) (pe_ix ix_list (pe_dget hu (pv 0) pe_str (fun _ _ => rfl)) (pe_dget hu (pv 0) pe_str (fun _ _ => rfl)) (fun _ _ => rfl)))
      (pss_cons (ps_dput hu (pv 0) pe_str (pe_op op_add (pe_dget hu (pv 0) pe_str (fun _ _ => rfl)) pe_int) rfl)
      (pss_one (ps_if (pt_cmpR op_ge (pv 2) (pe_op op_pow pe_int pe_int) (nomark _)) (pss_one (ps_dput hu (pv 0) pe_str (pv 2) rfl)) (pss_one (ps_dput hu (pv 0) pe_str (pe_op op_modN (pe_callTy call_int1 (by rfl) T.b_int (by decide +kernel) (pa_cons (pe_op op_add (pe_op op_add (pe_op op_mul (pe_dget hu (pv 0) pe_str (fun _ _ => rfl)) pe_int) (pe_op op_modN (pe_callTy call_int1 (by rfl) T.b_int (by decide +kernel) (pa_cons (pv 2) pa_nil)) pe_int)) pe_int) pa_nil)) pe_int) rfl)))))) pss_nil)
      (pss_cons (ps_if (pt_cmpR op_gt (pe_dget hu (pv 0) pe_str (fun _ _ => rfl)) pe_int (nomark _)) (pss_cons (ps_set (i := 3) sc__law_draw.nd rfl (.inl rfl) (pe_op op_modN (pe_callTy call_int1 (by rfl) T.b_int (by decide +kernel) (pa_cons (pe_dget hu (pv 0) pe_str (fun _ _ => rfl)) pa_nil)) (pv 1)))
      (pss_cons (ps_dput hu (pv 0) pe_str (pe_op op_fdivN (pe_dget hu (pv 0) pe_str (fun _ _ => rfl)) (pv 1)) rfl)
      (pss_one (ps_ret (pv 3))))) pss_nil)
      (pss_cons (ps_set (i := 4) sc__law_draw.nd rfl (.inl rfl) (pe_op op_modN (pe_callTy call_int1 (by rfl) T.b_int (by decide +kernel) (pa_cons (pe_op op_mul (pe_op op_add (pe_op op_add (pe_dget hu (pv 0) pe_str (fun _ _ => rfl)) (pe_op op_mul pe_int (pe_dget hu (pv 0) pe_str (fun _ _ => rfl)))) pe_int) pe_int) pa_nil)) pe_int))
      (pss_cons (ps_set (i := 4) sc__law_draw.nd rfl (.inl rfl) (pe_op op_modN (pe_callTy call_int1 (by rfl) T.b_int (by decide +kernel) (pa_cons (pe_op op_mul (pv 4) (pe_op op_add (pe_op op_fdivN (pv 4) pe_int) pe_int)) pa_nil)) pe_int))
      (pss_one (ps_ret (pe_op op_modN (pe_op op_fdivN (pe_op op_modN (pe_callTy call_int1 (by rfl) T.b_int (by decide +kernel) (pa_cons (pe_op op_mul (pv 4) (pe_op op_add (pe_op op_fdivN (pv 4) pe_int) pe_int)) pa_nil)) pe_int) pe_int) (pv 1)))))))))), ?_⟩
    refine ⟨_, rfl, _, _, rfl, rfl, _, rfl, ?_⟩
    have pl0 : Pl H p l := ⟨a, r, sd, c, ns, hp, hl, ha, hr0⟩
    have nlp : l ≠ p := fun e => by rw [e, hp] at hl; cases hl
    by_cases e : m < 2
    · exact ifT (decide_eq_true e) (k 0 H (Int.le_refl _) (.inr ⟨e, rfl⟩) (fun _ _ h _ => h) pl0)
    refine ifF (decide_eq_false e) ?_
    refine ⟨_, rfl, p, _, rfl, get_many hp, _, _, rfl, rfl, _, rfl, p, _, rfl, dput_many hp _, ?_⟩
    have hp1 : upd H p (bag l a r sd (c + 1)) p = some (bag l a r sd (c + 1)) := upd_same
    have hl1 : upd H p (bag l a r sd (c + 1)) l = some (.lst (ns.map V.int)) := by rw [L2.upd_ne nlp]; exact hl
    have b1 : But p H (upd H p (bag l a r sd (c + 1))) := fun b o hb n => by rw [L2.upd_ne n]; exact hb
    revert hp1 hl1 b1
    generalize upd H p (bag l a r sd (c + 1)) = H1
    intro hp1 hl1 b1
    have upL : ∀ {G : Hp} {o : HO}, G l = some (.lst (ns.map V.int)) → upd G p o l = some (.lst (ns.map V.int)) := fun h => by rw [L2.upd_ne nlp]; exact h
    refine ⟨fun σ H' => ∃ y2 a r sd, σ = [some (.ref p), some (.int m), y2, none, none] ∧ H' p = some (bag l a r sd (c + 1)) ∧ H' l = some (.lst (ns.map V.int)) ∧ 0 ≤ a ∧ 0 ≤ r ∧ But p H H', ?_, ?_⟩
    · refine ⟨_, rfl, p, _, rfl, get_rest hp1, rfl, _, rfl, ?_⟩
      by_cases e0 : r = 0
      · refine ifT (decide_eq_true (congrArg V.int e0)) ?_
        refine ⟨_, rfl, p, _, rfl, get_at hp1, _, rfl, p, _, rfl, get_cells hp1, l, _, rfl, .inl (.inl (.inl hl1)), _, _, rfl, rfl, _, rfl, ?_⟩
        by_cases e1 : a < ((ns.map V.int).length : Int)
        · refine ifT (decide_eq_true e1) ?_
          obtain ⟨j, rfl⟩ := Int.eq_ofNat_of_zero_le ha
          have hj : j < ns.length := by rw [List.length_map] at e1; omega
          have hz : ns[j]? = some ns[j] := List.getElem?_eq_getElem hj
          refine ⟨_, rfl, p, _, rfl, get_cells hp1, _, rfl, p, _, rfl, get_at hp1, l, _, _, .int ns[j], rfl, rfl, .inl (.inl hl1), atI_nat (j := j) (by rw [List.getElem?_map, hz]; rfl), ?_⟩
          refine ⟨_, rfl, p, _, rfl, get_at hp1, _, _, rfl, rfl, _, rfl, p, _, rfl, dput_at hp1 _, ?_⟩
          have hp2 : upd H1 p (bag l ((j : Int) + 1) r sd (c + 1)) p = some (bag l ((j : Int) + 1) r sd (c + 1)) := upd_same
          have hl2 : upd H1 p (bag l ((j : Int) + 1) r sd (c + 1)) l = some (.lst (ns.map V.int)) := upL hl1
          have b2 : But p H (upd H1 p (bag l ((j : Int) + 1) r sd (c + 1))) := b1.upd
          revert hp2 hl2 b2
          generalize upd H1 p (bag l ((j : Int) + 1) r sd (c + 1)) = H2
          intro hp2 hl2 b2
          refine ⟨_, rfl, _, _, rfl, rfl, ⟨by decide, by decide, by decide⟩, _, _, rfl, rfl, _, rfl, ?_⟩
          by_cases e2 : (10 : Int) ^ (18 : Int).toNat ≤ ns[j]
          · refine ifT (decide_eq_true e2) ?_
            refine ⟨_, rfl, _, rfl, p, _, rfl, dput_rest hp2 _, _, _, _, _, rfl, upd_same, upL hl2, by omega, ?_, b2.upd⟩
            exact Int.le_trans (by decide) e2
          · refine ifF (decide_eq_false e2) ?_
            exact ⟨_, rfl, p, _, rfl, get_seed hp2, _, _, rfl, rfl, .inr ⟨by decide, by decide⟩, _, rfl, .inl ⟨_, rfl, _, _, rfl, rfl, (by show (2147483399 : Int) ≠ 0; decide), _, _, rfl, rfl, _, _, rfl, rfl, .inl ⟨_, rfl, _, _, rfl, rfl, (by show (2147483647 : Int) ≠ 0; decide), _, rfl, p, _, rfl, dput_seed hp2 _, _, _, _, _, rfl, upd_same, upL hl2, by omega, hr0, b2.upd⟩⟩⟩
        · exact ifF (decide_eq_false e1) ⟨_, _, _, _, rfl, hp1, hl1, ha, hr0, b1⟩
      · exact ifF (decide_eq_false fun z => e0 (V.int.inj z)) ⟨_, _, _, _, rfl, hp1, hl1, ha, hr0, b1⟩
    · rintro _ H2 ⟨y2, a, r, sd, rfl, hp2, hl2, ha2, hr2, b2⟩
      refine ⟨_, rfl, p, _, rfl, get_rest hp2, _, _, rfl, rfl, _, rfl, ?_⟩
      by_cases e3 : 0 < r
      · refine ifT (decide_eq_true e3) ?_
        refine ⟨_, rfl, p, _, rfl, get_rest hp2, .inl ⟨r, rfl, _, rfl, _, _, rfl, rfl, (by show m ≠ 0; omega), ?_⟩⟩
        refine ⟨_, rfl, p, _, rfl, get_rest hp2, _, rfl, _, _, rfl, rfl, ⟨(by omega), (by omega)⟩, _, rfl, p, _, rfl, dput_rest hp2 _, _, rfl, ?_⟩
        exact k _ _ (fmod_lt (by omega)).1 (.inl (fmod_lt (by omega)).2) b2.upd ⟨_, _, _, _, ns, upd_same, upL hl2, ha2, Int.fdiv_nonneg (by omega) (by omega)⟩
      · refine ifF (decide_eq_false e3) ?_
        refine ⟨_, rfl, p, _, rfl, get_seed hp2, _, rfl, p, _, rfl, get_many hp2, _, _, rfl, rfl, .inl ⟨by decide, by decide⟩, _, _, rfl, rfl, _, _, rfl, rfl, _, _, rfl, rfl, .inr ⟨by decide, by decide⟩, .inl ⟨_, rfl, _, _, rfl, rfl, (by show (2147483647 : Int) ≠ 0; decide), ?_⟩⟩
        refine ⟨_, rfl, _, rfl, _, _, rfl, rfl, ⟨by decide, by decide⟩, _, _, rfl, rfl, _, _, rfl, rfl, .inl lt64b, .inl ⟨_, rfl, _, _, rfl, rfl, (by show (2147483647 : Int) ≠ 0; decide), ?_⟩⟩
        refine ⟨_, rfl, _, rfl, _, _, rfl, rfl, ⟨by decide, by decide⟩, _, _, rfl, rfl, _, _, rfl, rfl, .inl lt64b, .inl ⟨_, rfl, _, _, rfl, rfl, (by show (2147483399 : Int) ≠ 0; decide), _, _, rfl, rfl, ⟨by decide, by decide⟩, _, rfl, _, _, rfl, rfl, (by show m ≠ 0; omega), ?_⟩⟩
        exact k _ _ (fmod_lt (by omega)).1 (.inl (fmod_lt (by omega)).2) b2 ⟨_, _, _, _, ns, hp2, hl2, ha2, hr2⟩
end
end Op
namespace Op
open PySem L2 PyProof.Rows
/-! ### drawn words -/
def wd (pre : List Nat) (c : Nat) : Str := ⟨(pre ++ [97 + c]).toArray⟩
def sh (pre : List Nat) (c j : Nat) : Str := wd pre ((c + j) % 26)
theorem wd_len (pre : List Nat) (c : Nat) : (wd pre c).length = pre.length + 1 := by
  show ((pre ++ [97 + c]).toArray).size = _
  rw [List.size_toArray, List.length_append]
  rfl
theorem letter_mem : ∀ x : Nat, 97 ≤ x → x < 123 → x ∈ letters.cps.toList := by
  have h : ∀ j : Nat, j < 26 → 97 + j ∈ letters.cps.toList := by decide +kernel
  intro x h1 h2
  have := h (x - 97) (by omega)
  rw [show 97 + (x - 97) = x by omega] at this
  exact this
theorem wd_word {pre : List Nat} {c : Nat} (h : ∀ x ∈ pre, 97 ≤ x ∧ x < 123) (hc : c < 26) (hl : pre.length + 1 ≤ 8) : isWordS (wd pre c) = true := by
  unfold isWordS
  rw [wd_len, decide_eq_true ⟨by omega, hl⟩, Bool.true_and]
  refine List.all_eq_true.mpr fun x hx => decide_eq_true ?_
  have hx : x ∈ pre ++ [97 + c] := by
    have : (wd pre c).cps.toList = pre ++ [97 + c] := List.toList_toArray
    rw [this] at hx
    exact hx
  rcases List.mem_append.mp hx with hx | hx
  · exact letter_mem x (h x hx).1 (h x hx).2
  · rw [List.mem_singleton.mp hx]
    exact letter_mem _ (by omega) (by omega)
theorem letter_at : ∀ j : Nat, j < 26 → letters.cps.toList[j]? = some (97 + j) := by decide +kernel
theorem find_letter : ∀ c : Nat, c < 26 → Txt.find letters ⟨#[97 + c]⟩ = (c : Int) := by decide +kernel
theorem wd_last (pre : List Nat) (c : Nat) : cutS (wd pre c) (some ((pre.length : Nat) : Int)) none = ⟨#[97 + c]⟩ := by
  unfold cutS
  rw [wd_len, HT.sIx_nat, HT.sIx_none, Nat.min_eq_left (by omega)]
  have : (wd pre c).cps.toList = pre ++ [97 + c] := List.toList_toArray
  rw [this, List.drop_left' rfl]
  rw [show pre.length + 1 - pre.length = 1 by omega]
  rfl
theorem wd_init (pre : List Nat) (c d : Nat) : cutS (wd pre c) none (some ((pre.length : Nat) : Int)) ++ (⟨#[97 + d]⟩ : Str) = wd pre d := by
  unfold cutS
  rw [wd_len, HT.sIx_nat, HT.sIx_none, Nat.min_eq_left (by omega)]
  have : (wd pre c).cps.toList = pre ++ [97 + c] := List.toList_toArray
  rw [this, List.drop_zero, Nat.sub_zero, List.take_left' rfl]
  show (⟨pre.toArray ++ #[97 + d]⟩ : Str) = ⟨(pre ++ [97 + d]).toArray⟩
  congr 1
  simp
theorem wd_inj {pre : List Nat} {c d : Nat} (h : wd pre c = wd pre d) : c = d := by
  have h1 : (wd pre c).cps.toList = (wd pre d).cps.toList := by rw [h]
  have e1 : (wd pre c).cps.toList = pre ++ [97 + c] := List.toList_toArray
  have e2 : (wd pre d).cps.toList = pre ++ [97 + d] := List.toList_toArray
  rw [e1, e2] at h1
  have := List.append_cancel_left h1
  injection this with h2
  omega
theorem sh_zero {pre : List Nat} {c : Nat} (h : c < 26) : sh pre c 0 = wd pre c := by
  unfold sh
  rw [Nat.add_zero, Nat.mod_eq_of_lt h]
theorem sh_next (pre : List Nat) (c j : Nat) : wd pre (((c + j) % 26 + 1) % 26) = sh pre c (j + 1) := by
  unfold sh
  congr 1
  omega
theorem nd_le : ∀ {l T : List Str}, l.Nodup → (∀ x ∈ l, x ∈ T) → l.length ≤ T.length
  | [], T, _, _ => Nat.zero_le _
  | x :: l, T, hn, hs => by
    rw [List.nodup_cons] at hn
    have hx : x ∈ T := hs x List.mem_cons_self
    have h1 := nd_le (l := l) (T := T.erase x) hn.2 fun y hy => by
      have hne : y ≠ x := fun e => hn.1 (e ▸ hy)
      exact (List.mem_erase_of_ne hne).mpr (hs y (List.mem_cons_of_mem _ hy))
    rw [List.length_erase_of_mem hx] at h1
    have : 0 < T.length := List.length_pos_of_mem hx
    rw [List.length_cons]
    omega
theorem sh_free {pre : List Nat} {c : Nat} {T : List Str} (h : ∀ j, j < 26 → sh pre c j ∈ T) : 26 ≤ T.length := by
  have h1 : ((List.range 26).map (sh pre c)).Nodup := by
    refine List.pairwise_map.mpr (List.Pairwise.imp_of_mem ?_ List.nodup_range)
    intro a b ha hb hne e
    have ha := List.mem_range.mp ha
    have hb := List.mem_range.mp hb
    have := wd_inj e
    omega
  have := nd_le h1 fun x hx => by
    obtain ⟨j, hj, rfl⟩ := List.mem_map.mp hx
    exact h j (List.mem_range.mp hj)
  rw [List.length_map, List.length_range] at this
  exact this
/-- how far the shifts are: j of them were taken -/
def ShI (pre : List Nat) (c : Nat) (T : List Str) (i : Nat) (z : Str) : Prop := ∃ j, j ≤ i ∧ z = sh pre c j ∧ (∀ k, k < j → sh pre c k ∈ T) ∧ (j < i → z ∉ T)
theorem ShI.start {pre : List Nat} {c : Nat} {T : List Str} (h : c < 26) : ShI pre c T 0 (wd pre c) := ⟨0, Nat.le_refl _, (sh_zero h).symm, fun k hk => absurd hk (Nat.not_lt_zero _), fun hk => absurd hk (Nat.lt_irrefl _)⟩
theorem ShI.stay {pre : List Nat} {c i : Nat} {T : List Str} {z : Str} (h : ShI pre c T i z) (hz : z ∉ T) : ShI pre c T (i + 1) z := by
  obtain ⟨j, h1, h2, h3, h4⟩ := h
  exact ⟨j, by omega, h2, h3, fun _ => hz⟩
theorem ShI.go {pre : List Nat} {c i : Nat} {T : List Str} {z : Str} (h : ShI pre c T i z) (hz : z ∈ T) : ∃ d, d < 26 ∧ z = wd pre d ∧ ShI pre c T (i + 1) (wd pre ((d + 1) % 26)) := by
  obtain ⟨j, h1, h2, h3, h4⟩ := h
  have hj : j = i := by
    rcases Nat.lt_or_ge j i with e | e
    · exact absurd hz (h4 e)
    · omega
  subst hj
  refine ⟨(c + j) % 26, Nat.mod_lt _ (by decide), h2, j + 1, by omega, sh_next pre c j, fun k hk => ?_, fun hk => absurd hk (Nat.lt_irrefl _)⟩
  rcases Nat.lt_or_ge k j with e | e
  · exact h3 k e
  · rw [show k = j by omega, ← h2]
    exact hz
theorem ShI.done {pre : List Nat} {c : Nat} {T : List Str} {z : Str} (h : ShI pre c T 26 z) (hT : T.length < 26) : z ∉ T ∧ ∃ d, d < 26 ∧ z = wd pre d := by
  obtain ⟨j, h1, h2, h3, h4⟩ := h
  refine ⟨?_, (c + j) % 26, Nat.mod_lt _ (by decide), h2⟩
  rcases Nat.lt_or_ge j 26 with e | e
  · exact h4 e
  · have := sh_free (pre := pre) (c := c) (T := T) fun k hk => h3 k (by omega)
    omega
theorem join_letters : ∀ cs : List Nat, Txt.join "" (cs.map fun c => (⟨#[c]⟩ : Str)) = ⟨cs.toArray⟩ := by
  intro cs
  rw [show Txt.join "" (cs.map fun c => (⟨#[c]⟩ : Str)) = Str.join "" (cs.map fun c => (⟨#[c]⟩ : Str)) from StrLaws.glued_eq_join _ _]
  induction cs with
  | nil => rfl
  | cons x r ih =>
    cases r with
    | nil => rfl
    | cons y r =>
      show (⟨#[x]⟩ : Str) ++ "" ++ Str.join "" ((y :: r).map fun c => (⟨#[c]⟩ : Str)) = _
      rw [ih]
      show (⟨#[x] ++ #[] ++ (y :: r).toArray⟩ : Str) = ⟨(x :: y :: r).toArray⟩
      congr 1
      simp
theorem split_last : ∀ {cs : List Nat}, 1 ≤ cs.length → (∀ x ∈ cs, 97 ≤ x ∧ x < 123) → ∃ pre c, (⟨cs.toArray⟩ : Str) = wd pre c ∧ c < 26 ∧ (∀ x ∈ pre, 97 ≤ x ∧ x < 123) ∧ pre.length + 1 = cs.length := by
  intro cs hl h
  have hne : cs ≠ [] := fun e => by rw [e] at hl; simp at hl
  have e := List.dropLast_concat_getLast hne
  have hg := h _ (List.getLast_mem hne)
  refine ⟨cs.dropLast, cs.getLast hne - 97, ?_, by omega, fun x hx => h x (List.dropLast_subset cs hx), ?_⟩
  · unfold wd
    rw [show 97 + (cs.getLast hne - 97) = cs.getLast hne by omega, e]
  · rw [List.length_dropLast]
    omega
end Op
namespace Op
open PySem L2 PyProof.Rows
def spOne (K : PySem.W.Frag) : Sp := fun vs H Q _ => ∃ (p c l : Addr) (zs : List V), vs = [.ref p, .ref l] ∧ Pl H p c ∧ SqL K H l zs ∧ 1 ≤ zs.length ∧ zs.length ≤ 1000 ∧ ∀ z H', z ∈ zs → But p H H' → Pl H' p c → Q z H'
def spWords (K : PySem.W.Frag) : Sp := fun vs H Q _ => ∃ (p pc t : Addr) (n most : Nat) (ts : List Str), vs = [.ref p, .int n, .int most, .ref t] ∧ Pl H p pc ∧ SqL K H t (ts.map V.str) ∧ 1 ≤ most ∧ most ≤ 8 ∧ ts.length + n ≤ 25 ∧
  ∀ (l : Addr) (zs : List Str) H', H l = none → But p H H' → Pl H' p pc → H' l = some (.lst (zs.map V.str)) → zs.length = n → zs.Nodup → (∀ z ∈ zs, isWordS z = true ∧ z ∉ ts ∧ z.length ≤ most) → Q (.ref l) H'
theorem inV_strs (z : Str) : ∀ zs : List Str, inV (.str z) (zs.map V.str) = decide (z ∈ zs)
  | [] => rfl
  | x :: r => by
    have ih := inV_strs z r
    unfold inV at ih ⊢
    rw [List.map_cons, List.any_cons, ih]
    by_cases e : x = z
    · subst e
      rw [show eqV (.str x) (.str x) = true by simp [eqV], decide_eq_true List.mem_cons_self]
      rfl
    · rw [show eqV (.str x) (.str z) = false by simp [eqV, e], Bool.false_or]
      exact decide_eq_decide.mpr ⟨List.mem_cons_of_mem _, fun h => (List.mem_cons.mp h).resolve_left fun q => e q.symm⟩
theorem flat_strsK (zs : List Str) : (zs.map V.str).all flatV = true := List.all_eq_true.mpr fun v hv => by
  obtain ⟨z, _, rfl⟩ := List.mem_map.mp hv
  rfl
section
variable {P : Program} {w : World} {K : PySem.W.Frag} {mg : Str → Option Value} {base : Heap}
theorem sc__law_one : FnScope ["_law_bag_here", "_law_items"] ["_law_bag_here", "_law_items"] (defScope s__law_one) := ⟨rfl, rfl, rfl, by decide +kernel, rfl, by decide +kernel, by decide +kernel⟩
theorem ok_one {f : Addr} {fd : FuncData} (F : Fun K "_law_one" "_law_one" s__law_one f fd) (T : Txt mg) (c__law_draw : Cal P w K mg base CX0 1 "_law_draw" ["_law_bag_here", "_law_many"] spD) : FnOk P w K mg base CX0 2 f fd ["_law_bag_here", "_law_items"] (spOne K) := by
  refine F.ok sc__law_one (fun vs H Q E h => ?_) (fun cdv A outer s H vs Q E hr h => ?_)
  · obtain ⟨p, c, l, zs, rfl, _⟩ := h
    rfl
  · obtain ⟨p, c, l, zs, rfl, hp, hl, h1, h2, k⟩ := h
    refine ⟨_, (pss_one (ps_ret (pe_ix ix_list (pv 1) (pe_cal c__law_draw (hr.mono (by omega)) rfl pass0 (pa_cons (pv 0) (pa_cons (pe_callB call_len_seq (by rfl) T.b_len (by decide +kernel) (pa_cons (pv 1) pa_nil)) pa_nil))) (fun _ _ => rfl)))), ?_⟩
    refine ⟨_, rfl, _, rfl, _, rfl, l, _, rfl, .inl hl, p, c, _, rfl, hp, by omega, fun r H' r1 r2 but pl => ?_⟩
    obtain ⟨n, rfl⟩ := Int.eq_ofNat_of_zero_le r1
    have hn : n < zs.length := by omega
    have hz : zs[n]? = some zs[n] := List.getElem?_eq_getElem hn
    exact ⟨l, _, _, zs[n], rfl, rfl, hl.kp (hp.kp but), atI_nat (j := n) hz, k _ H' (List.mem_of_getElem? hz) but pl⟩
theorem sc__law_words : FnScope ["_law_bag_here", "_law_many", "_law_most", "_law_taken", "_law_letters", "_law_words_here", "_law_k", "_law_size", "_law_word_here", "_law_shift", "_law_last", "_law_place"] ["_law_bag_here", "_law_many", "_law_most", "_law_taken"] (defScope s__law_words) := ⟨rfl, rfl, rfl, by decide +kernel, rfl, by decide +kernel, by decide +kernel⟩
theorem ok_words {f : Addr} {fd : FuncData} (F : Fun K "_law_words" "_law_words" s__law_words f fd) (T : Txt mg) (c__law_draw : Cal P w K mg base CX0 1 "_law_draw" ["_law_bag_here", "_law_many"] spD) : FnOk P w K mg base CX0 2 f fd ["_law_bag_here", "_law_many", "_law_most", "_law_taken"] (spWords K) := by
  refine F.ok sc__law_words (fun vs H Q E h => ?_) (fun cdv A outer s H vs Q E hr h => ?_)
  · obtain ⟨p, pc, t, n, most, ts, rfl, _⟩ := h
    rfl
  · obtain ⟨p, pc, t, n, most, ts, rfl, hp, ht, hm1, hm8, hn, k⟩ := h
    refine ⟨_, (pss_cons (ps_set (i := 4) sc__law_words.nd rfl (.inr rfl) pe_str)
      (pss_cons (ps_set (i := 5) sc__law_words.nd rfl (.inl rfl) (pe_lst pa_nil))
      (pss_cons (ps_for PassesOwn.never rfl (pi_range1 (by rfl) T.b_range (pa_cons (pv 1) pa_nil)) (pg_name (i := 6) sc__law_words.nd rfl (.inl rfl)) (pss_cons (ps_set (i := 7) sc__law_words.nd rfl (.inl rfl) (pe_op op_add pe_int (pe_cal c__law_draw (hr.mono (by omega)) rfl pass0 (pa_cons (pv 0) (pa_cons (pv 2) pa_nil)))))
      (pss_cons (ps_set (i := 8) sc__law_words.nd rfl (.inl rfl) (pe_join pe_str (pe_lc (own := [("_law_place", 11)]) (g := gName 11) (tt := tYes) rfl sc__law_words.nd (pi_range1 (by rfl) T.b_range (pa_cons (pv 7) pa_nil)) (blkOk_by (own := [("_law_place", 11)]) (N := ["_law_bag_here", "_law_many", "_law_most", "_law_taken", "_law_letters", "_law_words_here", "_law_k", "_law_size", "_law_word_here", "_law_shift", "_law_last", "_law_place"]) (sc := defScope s__law_words) (by decide +kernel)) (fun _ _ _ _ _ => (pg_name (i := 11) sc__law_words.nd rfl (.inl rfl))) (fun _ _ _ _ _ => pts_nil) (fun _ _ _ _ _ => (pe_ix ix_str (pv 4) (pe_cal c__law_draw (hr.mono (by omega)) rfl pass0 (pa_cons (pv 0) (pa_cons pe_int pa_nil))) (fun _ _ => rfl))))))
      (pss_cons (ps_for PassesOwn.never rfl (pi_range1 (by rfl) T.b_range (pa_cons pe_int pa_nil)) (pg_name (i := 9) sc__law_words.nd rfl (.inl rfl)) (pss_one (ps_if (PW.pt (pw_or (pt_cmpR op_in_seq (pv 8) (pv 3) (by rfl)) (pw_or1 (pt_cmpR op_in_seq (pv 8) (pv 5) (by rfl))))) (pss_cons (ps_set (i := 10) sc__law_words.nd rfl (.inl rfl) (pe_m1 PySem.F.slot_str_find PySem.F.type_str_find mt_find (pv 4) (pe_slice sl_str (pv 8) (po_some (pe_op op_sub (pe_callB call_len_str (by rfl) T.b_len (by decide +kernel) (pa_cons (pv 8) pa_nil)) pe_int)) po_none)))
      (pss_one (ps_set (i := 8) sc__law_words.nd rfl (.inl rfl) (pe_op op_add_str (pe_slice sl_str (pv 8) po_none (po_some (pe_op op_sub (pe_callB call_len_str (by rfl) T.b_len (by decide +kernel) (pa_cons (pv 8) pa_nil)) pe_int))) (pe_ix ix_str (pv 4) (pe_op op_modN (pe_op op_add (pv 10) pe_int) pe_int) (fun _ _ => rfl)))))) pss_nil)))
      (pss_one (ps_expr (pe_bm PySem.F.plainAttrs_list PySem.F.slot_list_append PySem.F.type_list_append mt_append (pv 5) (pa_cons (pv 8) pa_nil))))))))
      (pss_one (ps_ret (pv 5)))))), ?_⟩
    refine ⟨sz_lit (by decide), fun l hl => ?_⟩
    have s1 : Same H (upd H l (.lst [])) := Same.new hl
    have l1 : upd H l (.lst []) l = some (.lst (([] : List Str).map V.str)) := upd_same
    revert s1 l1
    generalize upd H l (.lst []) = H1
    intro s1 l1
    refine ⟨_, rfl, n, rfl, by omega, by omega, ?_⟩
    rw [Int.toNat_natCast]
    refine for_it (walk_range (lo := 0) (n := n)) (fun i σ H' => (∃ y6 y7 y8 y9 y10 : Option V, σ = [some (.ref p), some (.int n), some (.int most), some (.ref t), some (.str letters), some (.ref l), y6, y7, y8, y9, y10, none]) ∧ ∃ zs : List Str, H' l = some (.lst (zs.map V.str)) ∧ zs.length = i ∧ zs.Nodup ∧ (∀ z ∈ zs, isWordS z = true ∧ z ∉ ts ∧ z.length ≤ most) ∧ But p H H' ∧ Pl H' p pc) ⟨⟨_, _, _, _, _, rfl⟩, [], l1, rfl, List.nodup_nil, fun z hz => (List.not_mem_nil hz).elim, Same.but s1, hp.mono s1⟩ (fun _ _ _ _ _ => trivial) ?_ ?_
    · rintro i x σ H3 H2 hi ⟨⟨y6, y7, y8, y9, y10, rfl⟩, zs, hl2, hzl, hnd, hz, b2, pl2⟩ ⟨rfl, rfl⟩
      refine ⟨_, rfl, _, rfl, p, pc, most, rfl, pl2, by omega, fun r H3 r1 r2 b3 pl3 => ⟨_, _, rfl, rfl, ?_⟩⟩
      obtain ⟨sz, hsz⟩ : ∃ sz : Nat, (1 : Int) + r = sz := ⟨(1 + r).toNat, (Int.toNat_of_nonneg (by omega)).symm⟩
      have hs1 : 1 ≤ sz := by omega
      have hs2 : sz ≤ most := by omega
      show tSeq _ _ _ (List.set _ 7 (some (V.int (1 + r)))) H3
      rw [hsz]
      refine ⟨⟨_, rfl⟩, _, rfl, sz, rfl, by omega, by omega, fun D hD => ?_⟩
      rw [Int.toNat_natCast]
      have nlp : l ≠ p := fun e => by obtain ⟨_, h⟩ := pl2.at; rw [e, h] at hl2; cases hl2
      refine lc_it (walk_range (lo := 0) (n := sz)) (fun i H' => ∃ cs : List Nat, H' D = some (.lst ((cs.map fun c => (⟨#[c]⟩ : Str)).map V.str)) ∧ cs.length = i ∧ (∀ x ∈ cs, 97 ≤ x ∧ x < 123) ∧ But p H3 H' ∧ Pl H' p pc) ⟨[], upd_same, rfl, fun x hx => (List.not_mem_nil hx).elim, Same.but (Same.new hD), pl3.mono (Same.new hD)⟩ (fun _ _ _ _ => trivial) ?_ ?_
      · rintro i' x H5 H4 hi' ⟨cs, hD4, hcl, hcs, b4, pl4⟩ ⟨rfl, rfl⟩
        refine ⟨rfl, _, rfl, _, rfl, p, pc, 26, rfl, pl4, by decide, fun r H5 r1 r2 b5 pl5 => ?_⟩
        obtain ⟨j, rfl⟩ := Int.eq_ofNat_of_zero_le r1
        have hj : j < 26 := by omega
        have hDp : D ≠ p := fun e => by obtain ⟨_, h⟩ := pl4.at; rw [e, h] at hD4; cases hD4
        have hD5 := b5 _ _ hD4 hDp
        refine ⟨letters, j, 97 + j, rfl, rfl, sz_lit (by decide +kernel), atI_nat (letter_at j hj), _, hD5, lt_sz (by rw [List.length_map, List.length_map]; omega), cs ++ [97 + j], ?_, ?_, ?_, ?_, ?_⟩
        · rw [upd_same, List.map_append, List.map_append]
          rfl
        · rw [List.length_append, hcl]
          rfl
        · intro x hx
          rcases List.mem_append.mp hx with hx | hx
          · exact hcs x hx
          · rw [List.mem_singleton.mp hx]
            omega
        · intro b o hb n
          rw [L2.upd_ne (ne_of_none hb hD)]
          exact b5 b o (b4 b o hb n) n
        · exact pl5.put hDp (pl3.new hD).2
      · rintro H4 ⟨cs, hD4, hcl, hcs, b4, pl4⟩
        refine ⟨"", D, cs.map fun c => (⟨#[c]⟩ : Str), rfl, rfl, .inl (.inl (.inl hD4)), ?_, ?_⟩
        · rw [List.map_map, List.length_map]
          have : ∀ l : List Nat, (l.map ((fun x : Str => x.length) ∘ fun c => (⟨#[c]⟩ : Str))).sum = l.length := by
            intro l
            induction l with
            | nil => rfl
            | cons a r ih =>
              rw [List.map_cons, List.sum_cons, ih]
              show 1 + r.length = r.length + 1
              omega
          rw [this]
          show cs.length + cs.length * 0 ≤ 16777216
          omega
        rw [join_letters]
        obtain ⟨pre, c, e, hc, hpre, hpl⟩ := split_last (cs := cs) (by omega) hcs
        rw [e]
        have b24 : But p H H4 := b2.trans (b3.trans b4)
        have ht4 : SqL K H4 t (ts.map V.str) := ht.kp (hp.kp b24)
        have hl4 : H4 l = some (.lst (zs.map V.str)) := b4 _ _ (b3 _ _ hl2 nlp) nlp
        refine ⟨26, rfl, by omega, by omega, ?_⟩
        rw [show (26 : Int).toNat = 26 from rfl]
        refine for_it (walk_range (lo := 0) (n := 26)) (fun j σ H' => (∃ (z : Str) (y9 y10 : Option V), σ = [some (.ref p), some (.int n), some (.int most), some (.ref t), some (.str letters), some (.ref l), some (.int (0 + (i : Int))), some (.int sz), some (.str z), y9, y10, none] ∧ ShI pre c (ts ++ zs) j z) ∧ H' = H4) ⟨⟨_, _, _, rfl, ShI.start hc⟩, rfl⟩ (fun _ _ _ _ _ => trivial) ?_ ?_
        · rintro j x σ H6 H5 hj ⟨⟨z, y9, y10, rfl, hsh⟩, rfl⟩ ⟨rfl, rfl⟩
          refine ⟨_, rfl, _, rfl, t, _, rfl, .inl ht4, rfl, flat_strsK ts, _, rfl, ?_⟩
          rw [if_neg Bool.false_ne_true, inV_strs]
          have body : z ∈ ts ++ zs → ∃ d, d < 26 ∧ z = wd pre d ∧ ShI pre c (ts ++ zs) (j + 1) (wd pre ((d + 1) % 26)) := fun hz => hsh.go hz
          have stay : z ∉ ts ++ zs → ShI pre c (ts ++ zs) (j + 1) z := fun hz => hsh.stay hz
          have hlen : ∀ d, (wd pre d).length ≤ sizeLine := fun d => by rw [wd_len]; exact sz_lit (by omega)
          have hlast : ∀ d, ((wd pre d).length : Int) - 1 = (pre.length : Int) := fun d => by rw [wd_len]; omega
          have hmod : ∀ d : Nat, ((d : Int) + 1).fmod 26 = (((d + 1) % 26 : Nat) : Int) := fun d => by
            rw [Int.fmod_eq_emod_of_nonneg _ (by decide)]
            omega
          have hcat : ∀ d e : Nat, (cutS (wd pre d) none (some ((pre.length : Nat) : Int))).length + (⟨#[97 + e]⟩ : Str).length ≤ sizeLine := fun d e => by
            have h1 : (cutS (wd pre d) none (some ((pre.length : Nat) : Int)) ++ (⟨#[97 + e]⟩ : Str)).length = pre.length + 1 := by rw [wd_init, wd_len]
            have h2 : (cutS (wd pre d) none (some ((pre.length : Nat) : Int)) ++ (⟨#[97 + e]⟩ : Str)).length = (cutS (wd pre d) none (some ((pre.length : Nat) : Int))).length + (⟨#[97 + e]⟩ : Str).length := Array.size_append
            rw [← h2, h1]
            exact sz_lit (by omega)
          by_cases e1 : z ∈ ts
          · refine ifT (decide_eq_true e1) ?_
            obtain ⟨d, hd, rfl, hnx⟩ := body (List.mem_append_left _ e1)
            refine ifT rfl ?_
            refine ⟨_, rfl, ⟨_, rfl⟩, _, rfl, _, rfl, _, rfl, hlen d, _, _, rfl, rfl, (pre.length : Int), congrArg V.int (hlast d), _, rfl, hlen d, _, _, rfl, rfl, ?_⟩
            rw [wd_last, find_letter d hd]
            refine ⟨_, rfl, _, rfl, _, rfl, hlen d, _, _, rfl, rfl, (pre.length : Int), congrArg V.int (hlast d), _, rfl, hlen d, _, rfl, _, rfl, _, _, rfl, rfl, _, _, rfl, rfl, (by show (26 : Int) ≠ 0; decide), letters, (((d + 1) % 26 : Nat) : Int), 97 + (d + 1) % 26, rfl, congrArg V.int (hmod d), sz_lit (by decide +kernel), atI_nat (letter_at _ (Nat.mod_lt _ (by decide))), _, _, rfl, rfl, hcat d _, ?_⟩
            rw [wd_init]
            exact ⟨⟨_, _, _, rfl, hnx⟩, rfl⟩
          · refine ifF (decide_eq_false e1) ?_
            refine ⟨_, rfl, _, rfl, l, _, rfl, .inl (.inl (.inl hl4)), rfl, flat_strsK zs, _, rfl, ?_⟩
            rw [if_neg Bool.false_ne_true, inV_strs]
            by_cases e2 : z ∈ zs
            · refine ifT (decide_eq_true e2) ?_
              obtain ⟨d, hd, rfl, hnx⟩ := body (List.mem_append_right _ e2)
              refine ⟨_, rfl, ⟨_, rfl⟩, _, rfl, _, rfl, _, rfl, hlen d, _, _, rfl, rfl, (pre.length : Int), congrArg V.int (hlast d), _, rfl, hlen d, _, _, rfl, rfl, ?_⟩
              rw [wd_last, find_letter d hd]
              refine ⟨_, rfl, _, rfl, _, rfl, hlen d, _, _, rfl, rfl, (pre.length : Int), congrArg V.int (hlast d), _, rfl, hlen d, _, rfl, _, rfl, _, _, rfl, rfl, _, _, rfl, rfl, (by show (26 : Int) ≠ 0; decide), letters, (((d + 1) % 26 : Nat) : Int), 97 + (d + 1) % 26, rfl, congrArg V.int (hmod d), sz_lit (by decide +kernel), atI_nat (letter_at _ (Nat.mod_lt _ (by decide))), _, _, rfl, rfl, hcat d _, ?_⟩
              rw [wd_init]
              exact ⟨⟨_, _, _, rfl, hnx⟩, rfl⟩
            · refine ifF (decide_eq_false e2) ⟨⟨_, _, _, rfl, stay fun h => ?_⟩, rfl⟩
              rcases List.mem_append.mp h with h | h
              · exact e1 h
              · exact e2 h
        · rintro σ H5 ⟨⟨z, y9, y10, rfl, hsh⟩, rfl⟩
          obtain ⟨hfree, d, hd, rfl⟩ := hsh.done (by rw [List.length_append]; omega)
          have hw := wd_word (c := d) hpre hd (by omega)
          refine ⟨_, rfl, .inl ⟨rfl, _, .inl (.inl hl4)⟩, _, rfl, l, _, _, rfl, rfl, hl4, lt_sz (by rw [List.length_map]; omega), ⟨_, _, _, _, _, rfl⟩, zs ++ [wd pre d], ?_, ?_, ?_, ?_, ?_, ?_⟩
          · rw [upd_same, List.map_append]
            rfl
          · rw [List.length_append, hzl]
            rfl
          · refine List.nodup_append.mpr ⟨hnd, by simp, fun a ha b hb e => hfree (List.mem_append_right _ ?_)⟩
            rw [List.mem_singleton.mp hb] at e
            rw [← e]
            exact ha
          · intro z hz'
            rcases List.mem_append.mp hz' with h | h
            · exact hz z h
            · rw [List.mem_singleton.mp h]
              exact ⟨hw, fun h => hfree (List.mem_append_left _ h), by rw [wd_len]; omega⟩
          · intro b o hb n
            rw [L2.upd_ne (ne_of_none hb hl)]
            exact b24 b o hb n
          · exact pl4.put nlp (hp.new hl).2
    · rintro σ H2 ⟨⟨y6, y7, y8, y9, y10, rfl⟩, zs, hl2, hzl, hnd, hz, b2, pl2⟩
      exact ⟨_, rfl, k l zs H2 hl b2 pl2 hl2 hzl hnd hz⟩
end
end Op
set_option pp.maxSteps 500
namespace Op
open PySem L2 PyProof.Rows
/-! ### displays of data -/
section
variable {K : PySem.W.Frag} {σ : L2.St}
def Lays (K : PySem.W.Frag) (σ : L2.St) (te : TE) (P : PyData → Prop) : Prop := ∀ (H : Hp) (Q : VK), (∀ v d H', P d → Same H H' → Dp K H' v d → Q v H') → te σ H Q
def LaysA (K : PySem.W.Frag) (σ : L2.St) (ta : TA) (P : List PyData → Prop) : Prop := ∀ (H : Hp) (Q : List V → Hp → Prop), (∀ vs ds H', P ds → Same H H' → DpAll K H' vs ds → Q vs H') → ta σ H Q
theorem lay_str {x : Str} : Lays K σ (tC (.str x)) (· = .str x) := fun H Q k => k _ _ H rfl (Same.refl _) (.str x)
theorem lay_int {x : Int} : Lays K σ (tC (.int x)) (· = .int x) := fun H Q k => k _ _ H rfl (Same.refl _) (.int x)
theorem lay_bl {x : Bool} : Lays K σ (tC (.bl x)) (· = .bool x) := fun H Q k => k _ _ H rfl (Same.refl _) (.bl x)
theorem lay_non : Lays K σ (tC .non) (· = .none) := fun H Q k => k _ _ H rfl (Same.refl _) .non
theorem layA_nil : LaysA K σ tNil (· = []) := fun H Q k => k _ _ H rfl (Same.refl _) .nil
theorem layA_cons {te : TE} {ta : TA} {d : PyData} {ds : List PyData} (h : Lays K σ te (· = d)) (t : LaysA K σ ta (· = ds)) : LaysA K σ (tCons te ta) (· = d :: ds) := fun H Q k =>
  h H _ fun v d' H1 e s1 hv => t H1 _ fun vs ds' H2 e2 s2 hvs => k _ _ H2 (by rw [e, e2]) (s1.trans s2) (.cons (hv.mono s2) hvs)
theorem lay_tup {ta : TA} {ds : List PyData} (h : LaysA K σ ta (· = ds)) (hl : ds.length ≤ 1000) : Lays K σ (tTup ta) (· = .tuple ds) := fun H Q k =>
  h H _ fun vs ds' H1 e s1 hvs => ⟨sz_lit (by subst e; rw [hvs.len]; omega), fun p hp => k _ _ _ (by rw [e]) (s1.trans (Same.new hp)) (.tup (.inl (.inl upd_same)) (hvs.mono (Same.new hp)))⟩
theorem lay_lst {ta : TA} {ds : List PyData} (h : LaysA K σ ta (· = ds)) (hl : ds.length ≤ 1000) : Lays K σ (tLst ta) (· = .list ds) := fun H Q k =>
  h H _ fun vs ds' H1 e s1 hvs => ⟨sz_lit (by subst e; rw [hvs.len]; omega), fun p hp => k _ _ _ (by rw [e]) (s1.trans (Same.new hp)) (.lst (.inl (.inl upd_same)) (hvs.mono (Same.new hp)))⟩
def Menu (n : Nat) (P : PyData → Prop) (ds : List PyData) : Prop := ds.length = n ∧ ∀ d ∈ ds, P d
theorem menu_nil {P : PyData → Prop} : LaysA K σ tNil (Menu 0 P) := fun H Q k => k _ [] H ⟨rfl, fun _ h => (List.not_mem_nil h).elim⟩ (Same.refl _) .nil
theorem menu_cons {te : TE} {ta : TA} {P R : PyData → Prop} {n : Nat} (h : Lays K σ te R) (hR : ∀ d, R d → P d) (t : LaysA K σ ta (Menu n P)) : LaysA K σ (tCons te ta) (Menu (n + 1) P) := fun H Q k =>
  h H _ fun v d' H1 e s1 hv => t H1 _ fun vs ds' H2 e2 s2 hvs => k _ (d' :: ds') H2 ⟨by rw [List.length_cons, e2.1], fun x hx => by
    rcases List.mem_cons.mp hx with rfl | hx
    · exact hR _ e
    · exact e2.2 x hx⟩ (s1.trans s2) (.cons (hv.mono s2) hvs)
theorem menu_of {ta : TA} {ds : List PyData} (h : LaysA K σ ta (· = ds)) : LaysA K σ ta (Menu ds.length (· ∈ ds)) := fun H Q k => h H _ fun vs ds' H1 e s1 hvs => k vs ds' H1 (by subst e; exact ⟨rfl, fun _ h => h⟩) s1 hvs
theorem menu_use {n : Nat} {ta : TA} {P : PyData → Prop} {H : Hp} {Q : VK} (h : LaysA K σ ta (Menu n P)) (hn : n ≤ 1000 := by decide) (k : ∀ D vs ds H', Menu n P ds → Same H H' → DpAll K H' vs ds → H' D = some (.lst vs) → Q (.ref D) H') : tLst ta σ H Q :=
  h H _ fun vs ds H1 hp s1 hd => ⟨sz_lit (by rw [hd.len, hp.1]; omega), fun D hD => k D vs ds _ hp (s1.trans (Same.new hD)) (hd.mono (Same.new hD)) upd_same⟩
theorem one_menu {p c : Addr} {i n : Nat} {ta : TA} {P : PyData → Prop} {H : Hp} {Q : VK} {E : XK} (hs : σ[i]? = some (some (.ref p))) (pl : Pl H p c) (h : LaysA K σ ta (Menu n P)) (h1 : 1 ≤ n) (h2 : n ≤ 1000) (k : ∀ v d H', P d → But p H H' → Pl H' p c → Dp K H' v d → Q v H') :
    tCall (spOne K) [] E (tCons (tVar i) (tCons (tLst ta) tNil)) σ H Q := by
  refine ⟨_, hs, h H _ fun vs ds H1 hp s1 hd => ⟨sz_lit (by rw [hd.len, hp.1]; omega), fun D hD => ?_⟩⟩
  have s2 := Same.new (o := .lst vs) hD
  refine ⟨p, c, D, vs, rfl, (pl.mono s1).mono s2, .inl (.inl upd_same), by rw [hd.len, hp.1]; exact h1, by rw [hd.len, hp.1]; exact h2, fun z H' hz b pl' => ?_⟩
  obtain ⟨j, hj⟩ := List.getElem?_of_mem hz
  obtain ⟨d, hd1, hd2⟩ := hd.get hj
  exact k z d H' (hp.2 d (List.mem_of_getElem? hd1)) ((Same.but (s1.trans s2)).trans b) pl' ((hd2.mono s2).kp (((pl.mono s1).mono s2).kp b))
end
section
variable {K : PySem.W.Frag} {σ : L2.St}
theorem lay_varS {j : Nat} {x : Str} (h : σ[j]? = some (some (.str x))) : Lays K σ (tVar j) (· = .str x) := fun H Q k => ⟨_, h, k _ _ H rfl (Same.refl _) (.str x)⟩
theorem lay_varI {j : Nat} {x : Int} (h : σ[j]? = some (some (.int x))) : Lays K σ (tVar j) (· = .int x) := fun H Q k => ⟨_, h, k _ _ H rfl (Same.refl _) (.int x)⟩
/-- [..][n] -/
theorem rd_pick {ta : TA} {tb : TE} {ds : List PyData} {n : Nat} {H : Hp} {Q : VK} (h : LaysA K σ ta (· = ds)) (hl : ds.length ≤ 1000) (hn : n < ds.length) (hb : ∀ H1 (Q' : VK), Q' (.int (n : Int)) H1 → tb σ H1 Q') (k : ∀ v d H', ds[n]? = some d → Same H H' → Dp K H' v d → Q v H') : tOp (rIxL K) (tLst ta) tb σ H Q :=
  h H _ fun vs ds' H1 e s1 hvs => ⟨sz_lit (by subst e; rw [hvs.len]; omega), fun p hp => hb _ _ (by
    subst e
    have hl := hvs.len
    have hv : vs[n]? = some (vs[n]'(by omega)) := List.getElem?_eq_getElem (by omega)
    obtain ⟨d, hd1, hd2⟩ := hvs.get hv
    exact ⟨p, vs, _, _, rfl, rfl, .inl (.inl upd_same), atI_nat hv, k _ d _ hd1 (s1.trans (Same.new hp)) (hd2.mono (Same.new hp))⟩)⟩
/-- words(bag, 1, most, [])[0] -/
theorem rd_w1 {E : XK} {H : Hp} {Q : VK} {p c : Addr} {i most : Nat} {m : Int} (hs : σ[i]? = some (some (.ref p))) (pl : Pl H p c) (hm : m = most) (h1 : 1 ≤ most) (h8 : most ≤ 8) (k : ∀ z H', isWordS z = true → But p H H' → Pl H' p c → Q (.str z) H') :
    tOp (rIxL K) (tCall (spWords K) [] E (tCons (tVar i) (tCons (tC (.int 1)) (tCons (tC (.int m)) (tCons (tLst tNil) tNil))))) (tC (.int 0)) σ H Q := by
  subst hm
  refine ⟨_, hs, sz_lit (by decide), fun t0 ht0 => ⟨p, c, t0, 1, most, [], rfl, pl.mono (Same.new ht0), .inl (.inl upd_same), h1, h8, by decide, fun l zs H' hl b pl' hl' hzl _ hz => ?_⟩⟩
  have hz0 : zs[0]? = some (zs[0]'(by omega)) := List.getElem?_eq_getElem (by omega)
  refine ⟨l, _, _, .str (zs[0]'(by omega)), rfl, rfl, .inl (.inl hl'), atI_nat (j := 0) (by rw [List.getElem?_map, hz0]; rfl), k _ H' (hz _ (List.mem_of_getElem? hz0)).1 ((Same.but (Same.new ht0)).trans b) pl'⟩
end
section
variable {K : PySem.W.Frag} {H : Hp} {a b : Addr} {xs ys : List V} {Q : VK}
theorem rd_catA (ha : SqT K H a xs) (hb : SqT K H b ys) (hl : xs.length + ys.length ≤ 100000) (k : ∀ p H', Same H H' → SqT K H' p (xs ++ ys) → Q (.ref p) H') : rCatA K (.ref a) (.ref b) H Q :=
  ⟨a, b, xs, ys, rfl, rfl, ha, hb, sz_lit hl, fun e => k b H (Same.refl _) (by rw [e]; exact hb), fun _ e => k a H (Same.refl _) (by rw [e, List.append_nil]; exact ha), fun _ _ p hp => k p _ (Same.new hp) (.inl (.inl upd_same))⟩
theorem rd_slA {lo hi : Option Int} (ha : SqT K H a xs) (k : ∀ p H', Same H H' → SqT K H' p (cutV xs lo hi) → Q (.ref p) H') : rSlA K (.ref a) lo hi H Q :=
  ⟨a, xs, rfl, ha, fun e => k a H (Same.refl _) (by
    have : cutV xs lo hi = xs := by
      unfold cutV
      rw [e.1, e.2, List.drop_zero, Nat.sub_zero, List.take_of_length_le (Nat.le_refl _)]
    rw [this]
    exact ha), fun _ p hp => k p _ (Same.new hp) (.inl (.inl upd_same))⟩
theorem rd_slN {σ : L2.St} {lo : Option Int} (ha : SqT K H a xs) (k : ∀ p H', Same H H' → SqT K H' p (cutV xs lo none) → Q (.ref p) H') : tNoPart σ H (fun u H3 => rSlA K (.ref a) lo u H3 Q) := rd_slA ha k
theorem cut_drop (xs : List V) (n : Nat) : cutV xs (some (n : Int)) none = xs.drop n := by
  unfold cutV
  rw [HT.sIx_nat, HT.sIx_none]
  rcases Nat.le_total n xs.length with h | h
  · rw [Nat.min_eq_left h, List.take_of_length_le (by rw [List.length_drop]; exact Nat.le_refl _)]
  · rw [Nat.min_eq_right h, Nat.sub_self, List.take_zero, List.drop_eq_nil_of_le h]
end
end Op
set_option pp.maxSteps 500
namespace Op
open PySem L2 PyProof.Rows
/-- name = e, then the rest: what is read of e -/
theorem seq_asg {te : TE} {g : TG} {u : TS} {D : Ends} {σ : L2.St} {H : Hp} (h : te σ H fun x H1 => g x σ H1 (u D)) : tSeq (tAsg te g) u D σ H := h
theorem seq_ret {te : TE} {u : TS} {D : Ends} {σ : L2.St} {H : Hp} (h : te σ H D.rt) : tSeq (tRet te) u D σ H := h
theorem ifE {c : Bool} {A F : Prop} (h : F) (k : c = true → F → A) : (if c then A else F) := by
  cases c
  · exact h
  · exact k rfl h
/-! ### displays in which things are drawn -/
section
variable {K : PySem.W.Frag} {σ : L2.St} {p c : Addr}
def LayB (p c : Addr) (K : PySem.W.Frag) (σ : L2.St) (te : TE) (R : PyData → Prop) : Prop := ∀ (H : Hp) (Q : VK), Pl H p c → (∀ v d H', R d → But p H H' → Pl H' p c → Dp K H' v d → Q v H') → te σ H Q
def LaysB (p c : Addr) (K : PySem.W.Frag) (σ : L2.St) (ta : TA) (R : List PyData → Prop) : Prop := ∀ (H : Hp) (Q : List V → Hp → Prop), Pl H p c → (∀ vs ds H', R ds → But p H H' → Pl H' p c → DpAll K H' vs ds → Q vs H') → ta σ H Q
theorem layB_of {te : TE} {R : PyData → Prop} (h : Lays K σ te R) : LayB p c K σ te R := fun H Q pl k => h H Q fun v d H' r s hv => k v d H' r (Same.but s) (pl.mono s) hv
theorem layB_nil : LaysB p c K σ tNil (· = []) := fun H Q pl k => k _ _ H rfl (Same.but (Same.refl _)) pl .nil
theorem layB_cons {te : TE} {ta : TA} {R : PyData → Prop} {P : List PyData → Prop} (h : LayB p c K σ te R) (t : LaysB p c K σ ta P) : LaysB p c K σ (tCons te ta) (fun ds => ∃ d r, R d ∧ P r ∧ ds = d :: r) := fun H Q pl k =>
  h H _ pl fun v d H1 e b1 pl1 hv => t H1 _ pl1 fun vs ds H2 e2 b2 pl2 hvs => k _ _ H2 ⟨d, ds, e, e2, rfl⟩ (b1.trans b2) pl2 (.cons (hv.kp (pl1.kp b2)) hvs)
theorem layB_tup {ta : TA} {P : List PyData → Prop} {R : PyData → Prop} (h : LaysB p c K σ ta P) (hl : ∀ ds, P ds → ds.length ≤ 1000) (hR : ∀ ds, P ds → R (.tuple ds)) : LayB p c K σ (tTup ta) R := fun H Q pl k =>
  h H _ pl fun vs ds H1 e b1 pl1 hvs => ⟨sz_lit (by rw [hvs.len]; have := hl ds e; omega), fun q hq => k _ _ _ (hR ds e) (b1.trans (Same.but (Same.new hq))) (pl1.mono (Same.new hq)) (.tup (.inl (.inl upd_same)) (DpAll.mono (Same.new hq) hvs))⟩
/-- the display of n things -/
def AllN (n : Nat) (R : PyData → Prop) (ds : List PyData) : Prop := ds.length = n ∧ ∀ d ∈ ds, R d
theorem menB_nil {R : PyData → Prop} : LaysB p c K σ tNil (AllN 0 R) := fun H Q pl k => k _ [] H ⟨rfl, fun _ h => (List.not_mem_nil h).elim⟩ (Same.but (Same.refl _)) pl .nil
theorem menB_cons {te : TE} {ta : TA} {n : Nat} {R : PyData → Prop} (h : LayB p c K σ te R) (t : LaysB p c K σ ta (AllN n R)) : LaysB p c K σ (tCons te ta) (AllN (n + 1) R) := fun H Q pl k =>
  h H _ pl fun v d H1 e b1 pl1 hv => t H1 _ pl1 fun vs ds H2 e2 b2 pl2 hvs => k _ (d :: ds) H2 ⟨by rw [List.length_cons, e2.1], fun x hx => by
    rcases List.mem_cons.mp hx with rfl | hx
    · exact e
    · exact e2.2 x hx⟩ (b1.trans b2) pl2 (.cons (hv.kp (pl1.kp b2)) hvs)
theorem lstB_use {ta : TA} {n : Nat} {R : PyData → Prop} {H : Hp} {Q : VK} (h : LaysB p c K σ ta (AllN n R)) (hn : n ≤ 1000) (pl : Pl H p c) (k : ∀ D vs ds H', AllN n R ds → But p H H' → Pl H' p c → H' D = some (.lst vs) → DpAll K H' vs ds → Q (.ref D) H') : tLst ta σ H Q :=
  h H _ pl fun vs ds H1 e b1 pl1 hvs => ⟨sz_lit (by rw [hvs.len, e.1]; omega), fun D hD => k D vs ds _ e (b1.trans (Same.but (Same.new hD))) (pl1.mono (Same.new hD)) upd_same (DpAll.mono (Same.new hD) hvs)⟩
theorem ix_use {H : Hp} {Q : VK} {R : PyData → Prop} {D : Addr} {vs : List V} {ds : List PyData} {n j : Nat} (hD : H D = some (.lst vs)) (hd : DpAll K H vs ds) (e : AllN n R ds) (hj : j < n) {i : Int} (hi : i = (j : Int)) (k : ∀ v d, R d → Dp K H v d → Q v H) : rIxL K (.ref D) (.int i) H Q := by
  subst hi
  have hl := hd.len
  have hv : vs[j]? = some (vs[j]'(by rw [hl, e.1]; exact hj)) := List.getElem?_eq_getElem _
  obtain ⟨d, h1, h2⟩ := hd.get hv
  exact ⟨D, vs, _, _, rfl, rfl, .inl (.inl hD), atI_nat hv, k _ d (e.2 d (List.mem_of_getElem? h1)) h2⟩
theorem pickB {ta : TA} {tb : TE} {n j : Nat} {R : PyData → Prop} {H : Hp} {Q : VK} (h : LaysB p c K σ ta (AllN n R)) (hn : n ≤ 1000) (hj : j < n) (pl : Pl H p c) (hb : ∀ H1 (Q' : VK), Q' (.int (j : Int)) H1 → tb σ H1 Q') (k : ∀ v d H', R d → But p H H' → Pl H' p c → Dp K H' v d → Q v H') : tOp (rIxL K) (tLst ta) tb σ H Q :=
  lstB_use h hn pl fun D vs ds H1 e b1 pl1 hD hd => hb _ _ (ix_use hD hd e hj rfl fun v d r dv => k v d H1 r b1 pl1 dv)
end
def IsTok (d : PyData) : Prop := ∃ t, Okt t ∧ d = t.d
def IsW (d : PyData) : Prop := ∃ z, isWordS z = true ∧ d = .str z
def spLWord : Sp := fun vs H Q _ => ∃ (p c : Addr), vs = [.ref p] ∧ Pl H p c ∧ ∀ z H', isWordS z = true → But p H H' → Pl H' p c → Q (.str z) H'
theorem layB_word {K : PySem.W.Frag} {σ : L2.St} {p c : Addr} {E : XK} {i : Nat} (hs : σ[i]? = some (some (.ref p))) : LayB p c K σ (tCall spLWord [] E (tCons (tVar i) tNil)) IsW := fun H Q pl k =>
  ⟨_, hs, p, c, rfl, pl, fun z H' hz b pl' => k _ _ H' ⟨z, hz, rfl⟩ b pl' (.str z)⟩
section
variable {P : Program} {w : World} {K : PySem.W.Frag} {mg : Str → Option Value} {base : Heap}
theorem sc__law_word : FnScope ["_law_bag_here"] ["_law_bag_here"] (defScope s__law_word) := ⟨rfl, rfl, rfl, by decide +kernel, rfl, by decide +kernel, by decide +kernel⟩
theorem ok_lword {f : Addr} {fd : FuncData} (F : Fun K "_law_word" "_law_word" s__law_word f fd) (c__law_words : Cal P w K mg base CX0 2 "_law_words" ["_law_bag_here", "_law_many", "_law_most", "_law_taken"] (spWords K)) : FnOk P w K mg base CX0 3 f fd ["_law_bag_here"] spLWord := by
  refine F.ok sc__law_word (fun vs H Q E h => ?_) (fun cdv A outer s H vs Q E hr h => ?_)
  · obtain ⟨p, c, rfl, _⟩ := h
    rfl
  · obtain ⟨p, c, rfl, pl, k⟩ := h
    refine ⟨_, (pss_one (ps_ret (pe_ix ix_list (pe_cal c__law_words (hr.mono (by omega)) rfl pass0 (pa_cons (pv 0) (pa_cons pe_int (pa_cons pe_int (pa_cons (pe_lst pa_nil) pa_nil))))) pe_int (fun _ _ => rfl)))), ?_⟩
    exact rd_w1 rfl pl rfl (by decide) (by decide) fun z H1 hz b1 pl1 => k z H1 hz b1 pl1
def spLTok (K : PySem.W.Frag) : Sp := fun vs H Q _ => ∃ (p c tl : Addr) (th : List Str), vs = [.ref p, .ref tl] ∧ Pl H p c ∧ H tl = some (.lst (th.map V.str)) ∧ th.length ≤ 200 ∧ ∀ v t H', Okt t → But p H H' → Pl H' p c → Dp K H' v t.d → Q v H'
theorem sc__law_token : FnScope ["_law_bag_here", "_law_things", "_law_way", "_law_running", "_law_number", "_law_menu", "_law_k"] ["_law_bag_here", "_law_things"] (defScope s__law_token) := ⟨rfl, rfl, rfl, by decide +kernel, rfl, by decide +kernel, by decide +kernel⟩
theorem ok_ltok {f : Addr} {fd : FuncData} (F : Fun K "_law_token" "_law_token" s__law_token f fd) (T : Txt mg) (c__law_draw : Cal P w K mg base CX0 1 "_law_draw" ["_law_bag_here", "_law_many"] spD) (c__law_one : Cal P w K mg base CX0 2 "_law_one" ["_law_bag_here", "_law_items"] (spOne K)) (c__law_word : Cal P w K mg base CX0 3 "_law_word" ["_law_bag_here"] spLWord) : FnOk P w K mg base CX0 4 f fd ["_law_bag_here", "_law_things"] (spLTok K) := by
  refine F.ok sc__law_token (fun vs H Q E h => ?_) (fun cdv A outer s H vs Q E hr h => ?_)
  · obtain ⟨p, c, tl, th, rfl, _⟩ := h
    rfl
  · obtain ⟨p, c, tl, th, rfl, pl, htl, hth, k⟩ := h
    refine ⟨_, (pss_cons (ps_set (i := 2) sc__law_token.nd rfl (.inl rfl) (pe_cal c__law_draw (hr.mono (by omega)) rfl pass0 (pa_cons (pv 0) (pa_cons pe_int pa_nil))))
      (pss_cons (ps_setLc (i := 3) (own := [("_law_k", 6)]) (g := gName 6)  rfl sc__law_token.nd rfl rfl (sw_true rfl rfl rfl (by decide +kernel)) (pi_range1 (by rfl) T.b_range (pa_cons (pe_callB call_len_seq (by rfl) T.b_len (by decide +kernel) (pa_cons (pv 1) pa_nil)) pa_nil)) (blkOk_by (own := [("_law_k", 6)]) (N := ["_law_bag_here", "_law_things", "_law_way", "_law_running", "_law_number", "_law_menu", "_law_k"]) (sc := defScope s__law_token) (by decide +kernel)) (fun _ _ _ _ _ => (pg_name (i := 6) sc__law_token.nd rfl (.inl rfl))) (fun _ _ _ _ _ => (pts_one (pt_cmpR op_ne (pe_ix (r := rIxL K) ix_list (pv 1) (pv 6) (fun _ _ => rfl)) pe_str (nomark _)))) (fun _ _ _ _ _ => (pv 6)))
      (pss_cons (ps_set (i := 4) sc__law_token.nd rfl (.inl rfl) (pe_cal c__law_draw (hr.mono (by omega)) rfl pass0 (pa_cons (pv 0) (pa_cons (pe_op op_add (pe_callB call_len_seq (by rfl) T.b_len (by decide +kernel) (pa_cons (pv 1) pa_nil)) pe_int) pa_nil))))
      (Evl.pss_cut (ps_if (PW.pt (pw_and (pt_cmpR op_gt (pe_callB call_len_seq (by rfl) T.b_len (by decide +kernel) (pa_cons (pv 3) pa_nil)) pe_int (nomark _)) (pw_and1 (pt_cmpR op_ne (pe_cal c__law_draw (hr.mono (by omega)) rfl pass0 (pa_cons (pv 0) (pa_cons pe_int pa_nil))) pe_int (nomark _))))) (pss_one (ps_set (i := 4) sc__law_token.nd rfl (.inl rfl) (pe_cal c__law_one (hr.mono (by omega)) rfl pass0 (pa_cons (pv 0) (pa_cons (pv 3) pa_nil))))) pss_nil)
      (pss_cons (ps_if (pt_cmpR op_lt (pv 2) pe_int (nomark _)) (pss_one (ps_ret (pe_ix ix_list (pe_lst (pa_cons (pe_tup (pa_cons pe_str (pa_cons (pv 4) (pa_cons (pe_cal c__law_word (hr.mono (by omega)) rfl pass0 (pa_cons (pv 0) pa_nil)) pa_nil)))) (pa_cons (pe_tup (pa_cons pe_str (pa_cons (pv 4) pa_nil))) (pa_cons (pe_tup (pa_cons pe_str (pa_cons (pv 4) pa_nil))) pa_nil)))) (pv 2) (fun _ _ => rfl)))) pss_nil)
      (pss_cons (ps_if (pt_cmpR op_lt (pv 2) pe_int (nomark _)) (pss_one (ps_ret (pe_ix ix_list (pe_lst (pa_cons (pe_tup (pa_cons pe_str (pa_cons (pe_cal c__law_word (hr.mono (by omega)) rfl pass0 (pa_cons (pv 0) pa_nil)) pa_nil))) (pa_cons (pe_tup (pa_cons pe_str pa_nil)) (pa_cons (pe_tup (pa_cons pe_str (pa_cons (pe_cal c__law_word (hr.mono (by omega)) rfl pass0 (pa_cons (pv 0) pa_nil)) pa_nil))) pa_nil)))) (pe_op op_sub (pv 2) pe_int) (fun _ _ => rfl)))) pss_nil)
      (pss_cons (ps_if (pt_cmpR op_lt (pv 2) pe_int (nomark _)) (pss_cons (ps_set (i := 5) sc__law_token.nd rfl (.inl rfl) (pe_lst (pa_cons (pe_tup (pa_cons pe_str (pa_cons (pe_cal c__law_word (hr.mono (by omega)) rfl pass0 (pa_cons (pv 0) pa_nil)) (pa_cons (pe_cal c__law_word (hr.mono (by omega)) rfl pass0 (pa_cons (pv 0) pa_nil)) pa_nil)))) (pa_cons (pe_tup (pa_cons pe_str (pa_cons (pe_cal c__law_word (hr.mono (by omega)) rfl pass0 (pa_cons (pv 0) pa_nil)) pa_nil))) (pa_cons (pe_tup (pa_cons pe_str (pa_cons pe_str pa_nil))) pa_nil)))))
      (pss_one (ps_ret (pe_ix ix_list (pv 5) (pe_op op_sub (pv 2) pe_int) (fun _ _ => rfl))))) pss_nil)
      (pss_one (ps_ret (pe_ix ix_list (pe_lst (pa_cons (pe_tup (pa_cons pe_str (pa_cons (pe_cal c__law_word (hr.mono (by omega)) rfl pass0 (pa_cons (pv 0) pa_nil)) pa_nil))) (pa_cons (pe_tup (pa_cons pe_str (pa_cons (pe_cal c__law_word (hr.mono (by omega)) rfl pass0 (pa_cons (pv 0) pa_nil)) pa_nil))) pa_nil))) (pe_op op_sub (pv 2) pe_int) (fun _ _ => rfl))))))))))), ?_⟩
    have ntp : tl ≠ p := fun e => by
      obtain ⟨_, hk⟩ := pl.at
      rw [e, hk] at htl
      cases htl
    refine ⟨_, rfl, p, c, 11, rfl, pl, by decide, fun way H1 w1 w2 b1 pl1 => ?_⟩
    obtain ⟨wn, rfl⟩ := Int.eq_ofNat_of_zero_le w1
    have hwn : wn < 11 := by omega
    have t1 := b1 _ _ htl ntp
    refine ⟨_, rfl, tl, _, rfl,   .inl (.inl (.inl t1)), _, rfl, by rw [List.length_map]; omega, by rw [List.length_map]; omega, fun D hD => ?_⟩
    rw [Int.toNat_natCast, List.length_map]
    refine lc_it (walk_range (lo := 0) (n := th.length)) (fun i G => Same H1 G ∧ ∃ ns : List Nat, G D = some (.lst (ns.map fun n : Nat => V.int (n : Int))) ∧ ns.length ≤ i) ⟨Same.new hD, [], upd_same, Nat.le_refl _⟩ (fun _ _ _ _ => trivial) ?_ ?_
    · rintro i x G1 G hi ⟨sG, ns, gD, gn⟩ ⟨rfl, rfl⟩
      have zi : (0 : Int) + (i : Int) = i := by omega
      have hz : th[i]? = some (th[i]'hi) := List.getElem?_eq_getElem hi
      refine ⟨rfl, _, rfl, _, rfl, tl, _, _, .str (th[i]'hi), rfl, rfl, .inl (.inl (sG _ _ t1)), by rw [zi]; exact atI_nat (by rw [List.getElem?_map, hz]; rfl), rfl, _, rfl, ?_⟩
      by_cases hg : th[i]'hi = "gone"
      · exact ifF (by rw [decide_eq_true (congrArg V.str hg)]; rfl) ⟨sG, ns, gD, by omega⟩
      · refine ifT (by rw [decide_eq_false (fun z => hg (by injection z))]; rfl) ⟨_, rfl, _, gD, lt_sz (by rw [List.length_map]; omega), Same.updN sG hD, ns ++ [i], ?_, by rw [List.length_append]; exact Nat.succ_le_succ gn⟩
        rw [upd_same, List.map_append]
        show some (HO.lst (_ ++ [V.int ((0 : Int) + (i : Nat))])) = _
        rw [zi]
        rfl
    · rintro G ⟨sG, ns, gD, gn⟩
      have plG := pl1.mono sG
      have tG := sG _ _ t1
      have bG := b1.trans (Same.but sG)
      have nDp : D ≠ p := (pl1.new hD).1
      refine ⟨_, rfl, _, rfl, tl, _, rfl, .inl (.inl (.inl tG)), _, _, rfl, rfl, p, c, _, rfl, plG, by rw [List.length_map]; omega, fun r H2 r1 r2 b2 pl2 => ?_⟩
      obtain ⟨nn, rfl⟩ := Int.eq_ofNat_of_zero_le r1
      refine ⟨fun σ' H3 => ∃ m : Nat, σ' = [some (.ref p), some (.ref tl), some (.int (wn : Int)), some (.ref D), some (.int (m : Int)), none, none] ∧ But p H H3 ∧ Pl H3 p c, ?_, ?_⟩
      · have d2 := b2 _ _ gD nDp
        refine ⟨_, rfl, D, _, rfl, .inl (.inl (.inl d2)), _, _, rfl, rfl, _, rfl, ?_⟩
        by_cases hns : ns = []
        · subst hns
          exact ifF rfl ⟨nn, rfl, bG.trans b2, pl2⟩
        · have hnl : 0 < ns.length := List.length_pos_iff.mpr hns
          refine ifT (decide_eq_true (by rw [List.length_map]; omega)) ⟨_, rfl, p, c, 4, rfl, pl2, by decide, fun r3 H3 r31 r32 b3 pl3 => ⟨rfl, _, rfl, ?_⟩⟩
          by_cases h0 : r3 = 0
          · exact ifF (by rw [h0]; rfl) ⟨nn, rfl, (bG.trans b2).trans b3, pl3⟩
          · refine ifT (by rw [decide_eq_false (fun z => h0 (by injection z))]; rfl) ⟨_, rfl, _, rfl, p, c, D, _, rfl, pl3, .inl (.inl (b3 _ _ d2 nDp)), by rw [List.length_map]; omega, by rw [List.length_map]; omega, fun z H4 hz b4 pl4 => ?_⟩
            obtain ⟨m, _, rfl⟩ := List.mem_map.mp hz
            exact ⟨m, rfl, ((bG.trans b2).trans b3).trans b4, pl4⟩
      · rintro σ' H3 ⟨m, rfl, b3, pl3⟩
        have ans : ∀ {v : V} {d : PyData} {H4 : Hp}, IsTok d → But p H3 H4 → Pl H4 p c → Dp K H4 v d → Q v H4 := fun {v d H4} h b pl dv => by
          obtain ⟨t, ht, rfl⟩ := h
          exact k v t H4 ht (b3.trans b) pl dv
        have tok : ∀ {ds : List PyData}, ds.length ≤ 3 → ds.length ≤ 1000 := fun h => by omega
        refine ⟨_, rfl, _, _, rfl, rfl, _, rfl, ?_⟩
        by_cases h3 : wn < 3
        · refine ifT (decide_eq_true (by omega)) ?_
          refine pickB (n := 3) (j := wn) (R := IsTok) (menB_cons (layB_tup (layB_cons (layB_of lay_str) (layB_cons (layB_of (lay_varI (x := (m : Int)) rfl)) (layB_cons (layB_word rfl) layB_nil))) ?_ ?_) (menB_cons (layB_tup (layB_cons (layB_of lay_str) (layB_cons (layB_of (lay_varI (x := (m : Int)) rfl)) layB_nil)) ?_ ?_) (menB_cons (layB_tup (layB_cons (layB_of lay_str) (layB_cons (layB_of (lay_varI (x := (m : Int)) rfl)) layB_nil)) ?_ ?_) menB_nil))) (by decide) h3 pl3 (fun H1 Q' q => ⟨_, rfl, q⟩) fun v d H4 r b4 pl4 dv => ans r b4 pl4 dv
          · rintro ds ⟨_, _, rfl, ⟨_, _, rfl, ⟨_, _, ⟨z, hz, rfl⟩, rfl, rfl⟩, rfl⟩, rfl⟩
            exact Nat.le_of_ble_eq_true rfl
          · rintro ds ⟨_, _, rfl, ⟨_, _, rfl, ⟨_, _, ⟨z, hz, rfl⟩, rfl, rfl⟩, rfl⟩, rfl⟩
            exact ⟨_, (TkC.answer (n := m) hz).ok, rfl⟩
          · rintro ds ⟨_, _, rfl, ⟨_, _, rfl, rfl, rfl⟩, rfl⟩
            exact Nat.le_of_ble_eq_true rfl
          · rintro ds ⟨_, _, rfl, ⟨_, _, rfl, rfl, rfl⟩, rfl⟩
            exact ⟨_, (TkC.rang (n := m)).ok, rfl⟩
          · rintro ds ⟨_, _, rfl, ⟨_, _, rfl, rfl, rfl⟩, rfl⟩
            exact Nat.le_of_ble_eq_true rfl
          · rintro ds ⟨_, _, rfl, ⟨_, _, rfl, rfl, rfl⟩, rfl⟩
            exact ⟨_, (TkC.dropped (n := m)).ok, rfl⟩
        refine ifF (decide_eq_false (by omega)) ⟨_, rfl, _, _, rfl, rfl, _, rfl, ?_⟩
        by_cases h6 : wn < 6
        · refine ifT (decide_eq_true (by omega)) ?_
          refine pickB (n := 3) (j := wn - 3) (R := IsTok) (menB_cons (layB_tup (layB_cons (layB_of lay_str) (layB_cons (layB_word rfl) layB_nil)) ?_ ?_) (menB_cons (layB_tup (layB_cons (layB_of lay_str) layB_nil) ?_ ?_) (menB_cons (layB_tup (layB_cons (layB_of lay_str) (layB_cons (layB_word rfl) layB_nil)) ?_ ?_) menB_nil))) (by decide) (by omega) pl3 (fun H1 Q' q => ⟨_, rfl, _, _, rfl, rfl, by show Q' (.int ((wn : Int) - 3)) H1; rw [show ((wn : Int) - 3) = ((wn - 3 : Nat) : Int) by omega]; exact q⟩) fun v d H4 r b4 pl4 dv => ans r b4 pl4 dv
          · rintro ds ⟨_, _, rfl, ⟨_, _, ⟨z, hz, rfl⟩, rfl, rfl⟩, rfl⟩
            exact Nat.le_of_ble_eq_true rfl
          · rintro ds ⟨_, _, rfl, ⟨_, _, ⟨z, hz, rfl⟩, rfl, rfl⟩, rfl⟩
            exact ⟨_, (TkC.asked hz).ok, rfl⟩
          · rintro ds ⟨_, _, rfl, rfl, rfl⟩
            exact Nat.le_of_ble_eq_true rfl
          · rintro ds ⟨_, _, rfl, rfl, rfl⟩
            exact ⟨_, TkC.set.ok, rfl⟩
          · rintro ds ⟨_, _, rfl, ⟨_, _, ⟨z, hz, rfl⟩, rfl, rfl⟩, rfl⟩
            exact Nat.le_of_ble_eq_true rfl
          · rintro ds ⟨_, _, rfl, ⟨_, _, ⟨z, hz, rfl⟩, rfl, rfl⟩, rfl⟩
            exact ⟨_, (TkC.asked hz).ok, rfl⟩
        refine ifF (decide_eq_false (by omega)) ⟨_, rfl, _, _, rfl, rfl, _, rfl, ?_⟩
        by_cases h9 : wn < 9
        · refine ifT (decide_eq_true (by omega)) ?_
          refine seq_asg ?_
          refine lstB_use (K := K) (n := 3) (R := IsTok) (menB_cons (layB_tup (layB_cons (layB_of lay_str) (layB_cons (layB_word rfl) (layB_cons (layB_word rfl) layB_nil))) ?_ ?_) (menB_cons (layB_tup (layB_cons (layB_of lay_str) (layB_cons (layB_word rfl) layB_nil)) ?_ ?_) (menB_cons (layB_tup (layB_cons (layB_of lay_str) (layB_cons (layB_of lay_str) layB_nil)) ?_ ?_) menB_nil))) (by decide) pl3 fun D5 vs5 ds5 H4 r b4 pl4 hD5 hd5 => ?_
          · rintro ds ⟨_, _, rfl, ⟨_, _, ⟨z, hz, rfl⟩, ⟨_, _, ⟨z2, hz2, rfl⟩, rfl, rfl⟩, rfl⟩, rfl⟩
            exact Nat.le_of_ble_eq_true rfl
          · rintro ds ⟨_, _, rfl, ⟨_, _, ⟨z, hz, rfl⟩, ⟨_, _, ⟨z2, hz2, rfl⟩, rfl, rfl⟩, rfl⟩, rfl⟩
            exact ⟨_, (TkC.signal hz hz2).ok, rfl⟩
          · rintro ds ⟨_, _, rfl, ⟨_, _, ⟨z, hz, rfl⟩, rfl, rfl⟩, rfl⟩
            exact Nat.le_of_ble_eq_true rfl
          · rintro ds ⟨_, _, rfl, ⟨_, _, ⟨z, hz, rfl⟩, rfl, rfl⟩, rfl⟩
            exact ⟨_, (TkC.noted hz).ok, rfl⟩
          · rintro ds ⟨_, _, rfl, ⟨_, _, rfl, rfl, rfl⟩, rfl⟩
            exact Nat.le_of_ble_eq_true rfl
          · rintro ds ⟨_, _, rfl, ⟨_, _, rfl, rfl, rfl⟩, rfl⟩
            exact ⟨_, (TkC.marked (w := "g") (by decide +kernel)).ok, rfl⟩
          refine ⟨_, rfl, _, rfl, _, _, rfl, rfl, ?_⟩
          exact ix_use (j := wn - 6) hD5 hd5 r (by omega) (by omega) fun v d r' dv => ans r' b4 pl4 dv
        refine ifF (decide_eq_false (by omega)) ?_
        refine pickB (n := 2) (j := wn - 9) (R := IsTok) (menB_cons (layB_tup (layB_cons (layB_of lay_str) (layB_cons (layB_word rfl) layB_nil)) ?_ ?_) (menB_cons (layB_tup (layB_cons (layB_of lay_str) (layB_cons (layB_word rfl) layB_nil)) ?_ ?_) menB_nil)) (by decide) (by omega) pl3 (fun H1 Q' q => ⟨_, rfl, _, _, rfl, rfl, by show Q' (.int ((wn : Int) - 9)) H1; rw [show ((wn : Int) - 9) = ((wn - 9 : Nat) : Int) by omega]; exact q⟩) fun v d H4 r b4 pl4 dv => ans r b4 pl4 dv
        · rintro ds ⟨_, _, rfl, ⟨_, _, ⟨z, hz, rfl⟩, rfl, rfl⟩, rfl⟩
          exact Nat.le_of_ble_eq_true rfl
        · rintro ds ⟨_, _, rfl, ⟨_, _, ⟨z, hz, rfl⟩, rfl, rfl⟩, rfl⟩
          exact ⟨_, (TkC.ended hz).ok, rfl⟩
        · rintro ds ⟨_, _, rfl, ⟨_, _, ⟨z, hz, rfl⟩, rfl, rfl⟩, rfl⟩
          exact Nat.le_of_ble_eq_true rfl
        · rintro ds ⟨_, _, rfl, ⟨_, _, ⟨z, hz, rfl⟩, rfl, rfl⟩, rfl⟩
          exact ⟨_, (TkC.begin hz).ok, rfl⟩
end
end Op
namespace L2
theorem ix_or {X : Cx} {r1 r2 : R2} (h1 : IxR X r1) (h2 : IxR X r2) : IxR X (fun x y H Q => r1 x y H Q ∨ r2 x y H Q) := by
  intro value slice pins s σ H x y v u Q I rx ry h hs
  rcases h with h | h
  · exact h1 value slice pins s σ H x y v u Q I rx ry h hs
  · exact h2 value slice pins s σ H x y v u Q I rx ry h hs
end L2
namespace Op
open PySem L2 PyProof.Rows
theorem DpAll.at {K : PySem.W.Frag} {H : Hp} {vs : List V} {ds : List PyData} {i : Nat} {v : V} {d : PyData} (h : L2.DpAll K H vs ds) (hv : vs[i]? = some v) (hd : ds[i]? = some d) : Dp K H v d := by
  obtain ⟨d', h1, h2⟩ := h.get hv
  rw [hd] at h1
  cases h1
  exact h2
/-! ### the same data -/
def smK : Nat → PyData → Prop
  | 0, _ => False
  | n + 1, .tuple ds => ds.length ≤ 10000 ∧ ∀ d ∈ ds, smK n d
  | n + 1, .list ds => ds.length ≤ 10000 ∧ ∀ d ∈ ds, smK n d
  | n + 1, .none => True
  | n + 1, .bool _ => True
  | n + 1, .int _ => True
  | n + 1, .str s => s.length ≤ 100000
  | n + 1, .dict _ => False
def spSame (K : PySem.W.Frag) (n : Nat) : Sp := fun vs H Q _ => ∃ (v u : V) (d : PyData), vs = [v, u] ∧ Dp K H v d ∧ Dp K H u d ∧ smK n d ∧ ∀ H', Same H H' → Q (.bl true) H'
theorem kit_seq {K : PySem.W.Frag} (d : PyData) : PySem.W.kitAny K (.type (tyN d)) [.type "tuple", .type "list"] = some (isTup d || isList d) := by
  unfold PySem.W.kitAny
  rw [kit_tuple]
  cases h : isTup d with
  | true => rfl
  | false =>
    show PySem.W.kitAny K (.type (tyN d)) [.type "list"] = _
    unfold PySem.W.kitAny
    rw [kit_list]
    cases isList d <;> rfl
def isLf : PyData → Bool
  | .int _ => true
  | .bool _ => true
  | .str _ => true
  | _ => false
theorem kit_intstr {K : PySem.W.Frag} (d : PyData) (h : isLf d = true) : PySem.W.kitAny K (.type (tyN d)) [.type "int", .type "str"] = some true := by
  unfold PySem.W.kitAny
  rw [kit_int]
  cases d with
  | int _ => rfl
  | bool _ => rfl
  | str _ =>
    show PySem.W.kitAny K (.type "str") [.type "str"] = _
    unfold PySem.W.kitAny
    rw [kit_ty (show kitB "str" "str" = some true by decide +kernel)]
  | _ => cases h
section
variable {P : Program} {w : World} {K : PySem.W.Frag} {mg : Str → Option Value} {base : Heap}
theorem sc__law_same : FnScope ["_law_told_here", "_law_due", "_law_k"] ["_law_told_here", "_law_due"] (defScope s__law_same) := ⟨rfl, rfl, rfl, by decide +kernel, rfl, by decide +kernel, by decide +kernel⟩
theorem ok_same {f : Addr} {fd : FuncData} {n : Nat} (F : Fun K "_law_same" "_law_same" s__law_same f fd) (T : Txt mg) (c__law_same : Cal P w K mg base CX0 (n + 1) "_law_same" ["_law_told_here", "_law_due"] (spSame K n)) :
    FnOk P w K mg base CX0 (n + 2) f fd ["_law_told_here", "_law_due"] (spSame K (n + 1)) := by
  refine F.ok sc__law_same (fun vs H Q E h => ?_) (fun cdv A outer s H vs Q E hr h => ?_)
  · obtain ⟨v, u, d, rfl, _⟩ := h
    rfl
  · obtain ⟨v, u, d, rfl, hv, hu, hd, k⟩ := h
    refine ⟨_, (pss_cons (ps_if (pt_val (pe_callB call_isiT (by rfl) T.b_isinstance (by decide +kernel) (pa_cons (pv 1) (pa_cons (pe_tup (pa_cons (pe_bltn (v := .ty "tuple") (by rfl) T.b_tuple (by decide +kernel) rfl) (pa_cons (pe_bltn (v := .ty "list") (by rfl) T.b_list (by decide +kernel) rfl) pa_nil))) pa_nil)))) (pss_cons (ps_if (PW.pt (pw_or (pt_not (pt_val (pe_callB call_isiT (by rfl) T.b_isinstance (by decide +kernel) (pa_cons (pv 0) (pa_cons (pe_tup (pa_cons (pe_bltn (v := .ty "tuple") (by rfl) T.b_tuple (by decide +kernel) rfl) (pa_cons (pe_bltn (v := .ty "list") (by rfl) T.b_list (by decide +kernel) rfl) pa_nil))) pa_nil))))) (pw_or1 (pt_cmpR op_ne (pe_callB call_len_seq (by rfl) T.b_len (by decide +kernel) (pa_cons (pv 0) pa_nil)) (pe_callB call_len_seq (by rfl) T.b_len (by decide +kernel) (pa_cons (pv 1) pa_nil)) (nomark _))))) (pss_one (ps_ret pe_bl)) pss_nil)
      (pss_cons (ps_if (pt_cmpR op_ne (pe_callB call_isi (by rfl) T.b_isinstance (by decide +kernel) (pa_cons (pv 0) (pa_cons (pe_bltn (v := .ty "tuple") (by rfl) T.b_tuple (by decide +kernel) rfl) pa_nil))) (pe_callB call_isi (by rfl) T.b_isinstance (by decide +kernel) (pa_cons (pv 1) (pa_cons (pe_bltn (v := .ty "tuple") (by rfl) T.b_tuple (by decide +kernel) rfl) pa_nil))) (nomark _)) (pss_one (ps_ret pe_bl)) pss_nil)
      (pss_one (ps_ret (pe_cmpR op_notIn_seq pe_bl (pe_lc (own := [("_law_k", 2)]) (g := gName 2) (tt := tYes) rfl sc__law_same.nd (pi_range1 (by rfl) T.b_range (pa_cons (pe_callB call_len_seq (by rfl) T.b_len (by decide +kernel) (pa_cons (pv 1) pa_nil)) pa_nil)) (blkOk_by (own := [("_law_k", 2)]) (N := ["_law_told_here", "_law_due", "_law_k"]) (sc := defScope s__law_same) (by decide +kernel)) (fun _ _ _ _ _ => (pg_name (i := 2) sc__law_same.nd rfl (.inl rfl))) (fun _ _ _ _ _ => pts_nil) (fun _ _ _ _ _ => (pe_cal c__law_same (hr.mono (by omega)) rfl pass0 (pa_cons (pe_ix (ix_or (r1 := rIxL K) (r2 := rIxT K) ix_list ix_tup) (pv 0) (pv 2) (fun _ _ => rfl)) (pa_cons (pe_ix (ix_or (r1 := rIxL K) (r2 := rIxT K) ix_list ix_tup) (pv 1) (pv 2) (fun _ _ => rfl)) pa_nil))))) (by rfl)))))) pss_nil)
      (pss_cons (ps_if (PW.pt (pw_or (pt_cmpR op_isN (pv 1) pe_non (nomark _)) (pw_or1 (pt_cmpR op_isN (pv 0) pe_non (nomark _))))) (pss_one (ps_ret (pe_and (pe_cmpR op_isN (pv 1) pe_non (nomark _)) (pe_one (pe_cmpR op_isN (pv 0) pe_non (nomark _)))))) pss_nil)
      (pss_cons (ps_if (pt_cmpR op_ne (pe_callB call_isi (by rfl) T.b_isinstance (by decide +kernel) (pa_cons (pv 0) (pa_cons (pe_bltn (v := .ty "bool") (by rfl) T.b_bool (by decide +kernel) rfl) pa_nil))) (pe_callB call_isi (by rfl) T.b_isinstance (by decide +kernel) (pa_cons (pv 1) (pa_cons (pe_bltn (v := .ty "bool") (by rfl) T.b_bool (by decide +kernel) rfl) pa_nil))) (nomark _)) (pss_one (ps_ret pe_bl)) pss_nil)
      (pss_cons (ps_if (pt_cmpR op_ne (pe_callB call_isi (by rfl) T.b_isinstance (by decide +kernel) (pa_cons (pv 0) (pa_cons (pe_bltn (v := .ty "str") (by rfl) T.b_str (by decide +kernel) rfl) pa_nil))) (pe_callB call_isi (by rfl) T.b_isinstance (by decide +kernel) (pa_cons (pv 1) (pa_cons (pe_bltn (v := .ty "str") (by rfl) T.b_str (by decide +kernel) rfl) pa_nil))) (nomark _)) (pss_one (ps_ret pe_bl)) pss_nil)
      (pss_one (ps_ret (pe_and (pe_callB call_isiT (by rfl) T.b_isinstance (by decide +kernel) (pa_cons (pv 0) (pa_cons (pe_tup (pa_cons (pe_bltn (v := .ty "int") (by rfl) T.b_int (by decide +kernel) rfl) (pa_cons (pe_bltn (v := .ty "str") (by rfl) T.b_str (by decide +kernel) rfl) pa_nil))) pa_nil))) (pe_one (pe_cmpR op_eq (pv 0) (pv 1) (nomark _)))))))))), ?_⟩
    refine ⟨_, rfl, sz2 _ _, fun t1 g1 => ?_⟩
    have s1 := Same.new (o := .tup [.ty "tuple", .ty "list"]) g1
    have l1 := at_new (o := .tup [.ty "tuple", .ty "list"]) g1
    revert s1 l1
    generalize upd _ t1 _ = H1
    intro s1 l1
    have hv1 := hv.mono s1
    have hu1 := hu.mono s1
    refine ⟨_, t1, _, _, _, _, rfl, l1, .cons (.ty _) (.cons (.ty _) .nil), ty_dp hu1, kit_seq d, _, rfl, ?_⟩
    have seq : ∀ ds : List PyData, (d = .tuple ds ∨ d = .list ds) → ∀ G, Same H G → ∃ xs ys pv pu, v = .ref pv ∧ u = .ref pu ∧ (SqL K G pv xs ∨ SqT K G pv xs) ∧ (SqL K G pu ys ∨ SqT K G pu ys) ∧ DpAll K G xs ds ∧ DpAll K G ys ds := by
      rintro ds (rfl | rfl) G sG
      · cases hv.mono sG with
        | tup h1 h2 => cases hu.mono sG with
          | tup h3 h4 => exact ⟨_, _, _, _, rfl, rfl, .inr h1, .inr h3, h2, h4⟩
      · cases hv.mono sG with
        | lst h1 h2 => cases hu.mono sG with
          | lst h3 h4 => exact ⟨_, _, _, _, rfl, rfl, .inl h1, .inl h3, h2, h4⟩
    cases hseq : (isTup d || isList d) with
    | true =>
      refine ifT rfl ?_
      obtain ⟨ds, hds⟩ : ∃ ds, d = .tuple ds ∨ d = .list ds := by
        cases d with
        | tuple ds => exact ⟨ds, .inl rfl⟩
        | list ds => exact ⟨ds, .inr rfl⟩
        | _ => cases hseq
      have hsm : ds.length ≤ 10000 ∧ ∀ e ∈ ds, smK n e := by
        rcases hds with rfl | rfl <;> exact hd
      obtain ⟨xs, ys, pv', pu', rfl, rfl, _⟩ := seq ds hds H (Same.refl _)
      refine ⟨_, rfl, sz2 _ _, fun t2 g2 => ?_⟩
      have s2 := Same.new (o := .tup [.ty "tuple", .ty "list"]) g2
      have l2 := at_new (o := .tup [.ty "tuple", .ty "list"]) g2
      revert s2 l2
      generalize upd _ t2 _ = H2
      intro s2 l2
      have s02 := s1.trans s2
      have hv2 := hv.mono s02
      have hu2 := hu.mono s02
      obtain ⟨xs, ys, pv', pu', e1, e2, q1, q2, a1, a2⟩ := seq ds hds H2 s02
      cases e1
      cases e2
      refine ⟨_, t2, _, _, _, _, rfl, l2, .cons (.ty _) (.cons (.ty _) .nil), ty_dp hv2, kit_seq d, _, rfl, ?_⟩
      rw [hseq]
      have hl1 : xs.length = ds.length := a1.len
      have hl2 : ys.length = ds.length := a2.len
      refine ifF rfl ⟨_, rfl, _, _, rfl, q1, _, rfl, _, _, rfl, q2, rfl, _, rfl, ifF ?_ ?_⟩
      · rw [hl1, hl2]
        simp
      refine ⟨_, rfl, _, _, _, _, _, rfl, .ty _, ty_dp hv2, kit_tuple d, _, rfl, _, _, _, _, _, rfl, .ty _, ty_dp hu2, kit_tuple d, rfl, _, rfl, ifF ?_ ?_⟩
      · simp
      refine ⟨_, rfl, _, _, rfl, q2, (ys.length : Int), rfl, by omega, by omega, fun D hD => ?_⟩
      rw [Int.toNat_natCast]
      refine lc_it (walk_range (lo := 0) (n := ys.length)) (fun i H' => H' D = some (.lst (List.replicate i (.bl true))) ∧ Same H2 H') ⟨upd_same, Same.new hD⟩ (fun _ _ _ _ => trivial) ?_ ?_
      · rintro i x H5 H4 hi ⟨hD4, s4⟩ ⟨rfl, rfl⟩
        have hx : xs[i]? = some xs[i] := List.getElem?_eq_getElem (by omega)
        have hy : ys[i]? = some ys[i] := List.getElem?_eq_getElem hi
        have hdi : ds[i]? = some ds[i] := List.getElem?_eq_getElem (by omega)
        have zi : (0 : Int) + (i : Int) = i := by omega
        have at1 : atI xs (0 + (i : Int)) = some xs[i] := by rw [zi]; exact atI_nat hx
        have at2 : atI ys (0 + (i : Int)) = some ys[i] := by rw [zi]; exact atI_nat hy
        have fin : ∃ (v u : V) (d : PyData), [xs[i], ys[i]] = [v, u] ∧ Dp K H4 v d ∧ Dp K H4 u d ∧ smK n d ∧ ∀ H', Same H4 H' → ∃ acc, H' D = some (.lst acc) ∧ acc.length < sizeLine ∧ upd H' D (.lst (acc ++ [.bl true])) D = some (.lst (List.replicate (i + 1) (.bl true))) ∧ Same H2 (upd H' D (.lst (acc ++ [.bl true]))) := by
          refine ⟨_, _, ds[i], rfl, (DpAll.at a1 hx hdi).mono s4, (DpAll.at a2 hy hdi).mono s4, hsm.2 _ (List.mem_of_getElem? hdi), fun H' s' => ⟨_, s' _ _ hD4, lt_sz (by rw [List.length_replicate]; omega), ?_, fun b o hb => ?_⟩⟩
          · rw [upd_same, List.replicate_succ']
          · rw [L2.upd_ne (ne_of_none hb hD)]
            exact s' _ _ (s4 b o hb)
        refine ⟨rfl, _, rfl, _, rfl, ?_⟩
        rcases q1 with q1 | q1 <;> rcases q2 with q2 | q2
        · exact .inl ⟨_, _, _, _, rfl, rfl, q1.mono s4, at1, _, rfl, _, rfl, .inl ⟨_, _, _, _, rfl, rfl, q2.mono s4, at2, fin⟩⟩
        · exact .inl ⟨_, _, _, _, rfl, rfl, q1.mono s4, at1, _, rfl, _, rfl, .inr ⟨_, _, _, _, rfl, rfl, q2.mono s4, at2, fin⟩⟩
        · exact .inr ⟨_, _, _, _, rfl, rfl, q1.mono s4, at1, _, rfl, _, rfl, .inl ⟨_, _, _, _, rfl, rfl, q2.mono s4, at2, fin⟩⟩
        · exact .inr ⟨_, _, _, _, rfl, rfl, q1.mono s4, at1, _, rfl, _, rfl, .inr ⟨_, _, _, _, rfl, rfl, q2.mono s4, at2, fin⟩⟩
      · rintro H4 ⟨hD4, s4⟩
        refine ⟨D, _, rfl, .inl (.inl (.inl hD4)), rfl, ?_, ?_⟩
        · exact List.all_eq_true.mpr fun v hv => by rw [(List.mem_replicate.mp hv).2]; rfl
        · have : inV (.bl false) (List.replicate ys.length (.bl true)) = false := by
            unfold inV
            refine List.any_eq_false.mpr fun v hv => ?_
            rw [(List.mem_replicate.mp hv).2]
            decide
          rw [if_pos rfl, this]
          exact k H4 (s02.trans s4)
    | false =>
      refine ifF rfl ?_
      by_cases hnon : d = .none
      · subst hnon
        cases hv
        cases hu
        exact ⟨_, rfl, rfl, _, rfl, ifT rfl (ifT rfl ⟨_, rfl, rfl, _, rfl, ifT rfl ⟨_, rfl, rfl, k H1 s1⟩⟩)⟩
      · have leaf : isLf d = true := by
          cases d with
          | none => exact (hnon rfl).elim
          | bool b => exact rfl
          | int i => exact rfl
          | str z => exact rfl
          | tuple ds => cases hseq
          | list ds => cases hseq
          | dict ds => exact hd.elim
        have f1 := leaf
        have nv : decide (v = .non) = false := decide_eq_false fun e => by
          subst e
          cases hv
          exact hnon rfl
        have nu : decide (u = .non) = false := decide_eq_false fun e => by
          subst e
          cases hu
          exact hnon rfl
        refine ⟨_, rfl, rfl, _, rfl, ifF nu ⟨_, rfl, rfl, _, rfl, ifF nv ?_⟩⟩
        refine ⟨_, rfl, _, _, _, _, _, rfl, .ty _, ty_dp hv1, kit_bool d, _, rfl, _, _, _, _, _, rfl, .ty _, ty_dp hu1, kit_bool d, rfl, _, rfl, ifF ?_ ?_⟩
        · simp
        refine ⟨_, rfl, _, _, _, _, _, rfl, .ty _, ty_dp hv1, kit_str d, _, rfl, _, _, _, _, _, rfl, .ty _, ty_dp hu1, kit_str d, rfl, _, rfl, ifF ?_ ?_⟩
        · simp
        refine ⟨_, rfl, sz2 _ _, fun t2 g2 => ?_⟩
        have s2 := Same.new (o := .tup [.ty "int", .ty "str"]) g2
        have l2 := at_new (o := .tup [.ty "int", .ty "str"]) g2
        revert s2 l2
        generalize upd _ t2 _ = H2
        intro s2 l2
        refine ⟨_, t2, _, _, _, _, rfl, l2, .cons (.ty _) (.cons (.ty _) .nil), ty_dp (hv1.mono s2), kit_intstr d f1, _, rfl, ifT rfl ?_⟩
        have fin := k H2 (s1.trans s2)
        cases d with
        | none => cases f1
        | bool b =>
          cases hv
          cases hu
          refine ⟨_, rfl, _, rfl, rfl, ?_⟩
          rw [decide_eq_true rfl]
          exact fin
        | int i =>
          cases hv
          cases hu
          refine ⟨_, rfl, _, rfl, rfl, ?_⟩
          rw [decide_eq_true rfl]
          exact fin
        | str z =>
          cases hv
          cases hu
          refine ⟨_, rfl, _, rfl, rfl, ?_⟩
          rw [decide_eq_true rfl]
          exact fin
        | _ => cases f1
theorem ok_sameN {f : Addr} {fd : FuncData} (F : Fun K "_law_same" "_law_same" s__law_same f fd) (T : Txt mg) (g1 : mg "_law_same" = some (.ref f)) (k1 : PySem.W.keepIn K (.ref f) = true)
    (b1 : Binds K fd ["_law_told_here", "_law_due"] []) : ∀ n : Nat, Cal P w K mg base CX0 (n + 1) "_law_same" ["_law_told_here", "_law_due"] (spSame K n)
  | 0 => ⟨f, fd, g1, k1, b1, F.ok sc__law_same (fun vs H Q E h => by obtain ⟨v, u, d, rfl, _⟩ := h; rfl) (fun cdv A outer s H vs Q E hr h => by obtain ⟨v, u, d, _, _, _, hk, _⟩ := h; exact hk.elim)⟩
  | n + 1 => ⟨f, fd, g1, k1, b1, ok_same F T (ok_sameN F T g1 k1 b1 n)⟩
end
end Op
set_option pp.maxSteps 500
namespace Op
open PySem L2 PyProof.Rows
/-! ### data of histories -/
def wsB : PyData → Bool
  | .tuple (_ :: ps) => ps.all fun x => match x with | .str s => decide (s.length ≤ 100000) | _ => true
  | _ => true
theorem short_of {d : PyData} (h : wsB d = true) : Short d := by
  intro k ps e x hx
  subst e
  exact of_decide_eq_true (List.all_eq_true.mp h _ hx)
def smB : Nat → PyData → Bool
  | 0, _ => false
  | n + 1, .tuple ds => decide (ds.length ≤ 10000) && ds.all (smB n)
  | n + 1, .list ds => decide (ds.length ≤ 10000) && ds.all (smB n)
  | _ + 1, .none => true
  | _ + 1, .bool _ => true
  | _ + 1, .int _ => true
  | _ + 1, .str s => decide (s.length ≤ 100000)
  | _ + 1, .dict _ => false
theorem smB_K : ∀ {n : Nat} {d : PyData}, smB n d = true → smK n d
  | 0, _, h => by cases h
  | n + 1, .tuple ds, h => by
    have h := Bool.and_eq_true_iff.mp h
    exact ⟨of_decide_eq_true h.1, fun d hd => smB_K (List.all_eq_true.mp h.2 d hd)⟩
  | n + 1, .list ds, h => by
    have h := Bool.and_eq_true_iff.mp h
    exact ⟨of_decide_eq_true h.1, fun d hd => smB_K (List.all_eq_true.mp h.2 d hd)⟩
  | n + 1, .none, _ => trivial
  | n + 1, .bool _, _ => trivial
  | n + 1, .int _, _ => trivial
  | n + 1, .str s, h => show s.length ≤ 100000 from of_decide_eq_true h
  | n + 1, .dict _, h => by cases h
structure GD (d : PyData) : Prop where
  sh : Short d
  lay : PyData.canLay0 d = true
  dp : PyData.depth d ≤ 10
  sm : smK 6 d
  nl : ∀ ds, d = .tuple ds → ∀ e ∈ ds, noL e = true
def nlB : PyData → Bool
  | .tuple ds => ds.all noL
  | _ => true
def gdB (d : PyData) : Bool := wsB d && (PyData.canLay0 d && (decide (PyData.depth d ≤ 10) && (smB 6 d && nlB d)))
theorem gd_of {d : PyData} (h : gdB d = true) : GD d := by
  have h1 := Bool.and_eq_true_iff.mp h
  have h2 := Bool.and_eq_true_iff.mp h1.2
  have h3 := Bool.and_eq_true_iff.mp h2.2
  have h4 := Bool.and_eq_true_iff.mp h3.2
  exact ⟨short_of h1.1, h2.1, of_decide_eq_true h3.1, smB_K h4.1, fun ds e x hx => by subst e; exact List.all_eq_true.mp h4.2 x hx⟩
section
variable {K : PySem.W.Frag} {σ : L2.St}
theorem lay_neg {x : Int} : Lays K σ (tUn (rU fun i => .int (-i)) (tC (.int x))) (· = .int (-x)) := fun H Q k => ⟨x, rfl, k _ _ H rfl (Same.refl _) (.int (-x))⟩
theorem lay_pow {x y : Int} (h : CPow x y) : Lays K σ (tOp (rI CPow fun i j => .int (i ^ j.toNat)) (tC (.int x)) (tC (.int y))) (· = .int (x ^ y.toNat)) := fun H Q k => ⟨x, y, rfl, rfl, h, k _ _ H rfl (Same.refl _) (.int _)⟩
end
theorem seq_asg2 {r : R2} {tb : TE} {j : Nat} {v : V} {g : TG} {u : TS} {D : Ends} {σ : L2.St} {H : Hp} (hs : σ[j]? = some (some v)) (h : tb σ H fun y H1 => r v y H1 fun x H2 => g x σ H2 (u D)) : tSeq (tAsg (tOp r (tVar j) tb) g) u D σ H := ⟨v, hs, h⟩
def odd1 : List PyData := [.tuple [.str "anew", .str "x"], .tuple [.str "ended"], .tuple [.str "asked"], .tuple [.str "set", .int 0], .tuple [.str "asked", .str "A"], .tuple [.str "noted", .str ""]]
def odd2 : List PyData := [.tuple [.str "answer", .int (-1), .str "a"], .tuple [.str "rang", .bool true], .tuple [.str "dropped", .bool false], .tuple [.str "answer", .str "0", .str "a"]]
def odd3 : List PyData := [.tuple [.str "signal", .str "a"], .tuple [.str "signal", .str "a", .int 5], .list [.str "set"], .none, .str "set", .tuple [], .int 0, .tuple [.str "gone"]]
def odd4 : List PyData := [.tuple [.str "answer", .int 0], .tuple [.str "rang", .int 0, .str "rang"], .tuple [.str "marked", .none], .tuple [.tuple [.str "set"]], .tuple [.int 0]]
def odd5 : List PyData := [.tuple [.str "noted", .str "a", .str "b"], .tuple [.str "Set"], .tuple [.str "rang", .int (10 ^ (30 : Int).toNat)], .tuple [.str "asked", .str "abcdefghi"]]
theorem odd_gd : ∀ d ∈ odd1 ++ odd2 ++ odd3 ++ odd4 ++ odd5, GD d := fun d hd => by
  have h : (odd1 ++ odd2 ++ odd3 ++ odd4 ++ odd5).all gdB = true := by decide +kernel
  exact gd_of (List.all_eq_true.mp h d hd)
section
variable {P : Program} {w : World} {K : PySem.W.Frag} {mg : Str → Option Value} {base : Heap}
def spLOdd (K : PySem.W.Frag) : Sp := fun vs H Q _ => ∃ (p c : Addr) (tv : V), vs = [.ref p, tv] ∧ Pl H p c ∧ ∀ v d H', GD d → But p H H' → Pl H' p c → Dp K H' v d → Q v H'
theorem sc__law_odd : FnScope ["_law_bag_here", "_law_things", "_law_menu"] ["_law_bag_here", "_law_things"] (defScope s__law_odd) := ⟨rfl, rfl, rfl, by decide +kernel, rfl, by decide +kernel, by decide +kernel⟩
theorem ok_lodd {f : Addr} {fd : FuncData} (F : Fun K "_law_odd" "_law_odd" s__law_odd f fd) (T : Txt mg) (c__law_draw : Cal P w K mg base CX0 1 "_law_draw" ["_law_bag_here", "_law_many"] spD) : FnOk P w K mg base CX0 2 f fd ["_law_bag_here", "_law_things"] (spLOdd K) := by
  refine F.ok sc__law_odd (fun vs H Q E h => ?_) (fun cdv A outer s H vs Q E hr h => ?_)
  · obtain ⟨p, c, tv, rfl, _⟩ := h
    rfl
  · obtain ⟨p, c, tv, rfl, pl, k⟩ := h
    refine ⟨_, (pss_cons (ps_set (i := 2) sc__law_odd.nd rfl (.inl rfl) (pe_lst (pa_cons (pe_tup (pa_cons pe_str (pa_cons pe_str pa_nil))) (pa_cons (pe_tup (pa_cons pe_str pa_nil)) (pa_cons (pe_tup (pa_cons pe_str pa_nil)) (pa_cons (pe_tup (pa_cons pe_str (pa_cons pe_int pa_nil))) (pa_cons (pe_tup (pa_cons pe_str (pa_cons pe_str pa_nil))) (pa_cons (pe_tup (pa_cons pe_str (pa_cons pe_str pa_nil))) pa_nil))))))))
      (pss_cons (ps_set (i := 2) sc__law_odd.nd rfl (.inl rfl) (pe_op op_cat (pv 2) (pe_lst (pa_cons (pe_tup (pa_cons pe_str (pa_cons (pe_un un_neg pe_int) (pa_cons pe_str pa_nil)))) (pa_cons (pe_tup (pa_cons pe_str (pa_cons pe_bl pa_nil))) (pa_cons (pe_tup (pa_cons pe_str (pa_cons pe_bl pa_nil))) (pa_cons (pe_tup (pa_cons pe_str (pa_cons pe_str (pa_cons pe_str pa_nil)))) pa_nil)))))))
      (pss_cons (ps_set (i := 2) sc__law_odd.nd rfl (.inl rfl) (pe_op op_cat (pv 2) (pe_lst (pa_cons (pe_tup (pa_cons pe_str (pa_cons pe_str pa_nil))) (pa_cons (pe_tup (pa_cons pe_str (pa_cons pe_str (pa_cons pe_int pa_nil)))) (pa_cons (pe_lst (pa_cons pe_str pa_nil)) (pa_cons pe_non (pa_cons pe_str (pa_cons (pe_tup pa_nil) (pa_cons pe_int (pa_cons (pe_tup (pa_cons pe_str pa_nil)) pa_nil)))))))))))
      (pss_cons (ps_set (i := 2) sc__law_odd.nd rfl (.inl rfl) (pe_op op_cat (pv 2) (pe_lst (pa_cons (pe_tup (pa_cons pe_str (pa_cons pe_int pa_nil))) (pa_cons (pe_tup (pa_cons pe_str (pa_cons pe_int (pa_cons pe_str pa_nil)))) (pa_cons (pe_tup (pa_cons pe_str (pa_cons pe_non pa_nil))) (pa_cons (pe_tup (pa_cons (pe_tup (pa_cons pe_str pa_nil)) pa_nil)) (pa_cons (pe_tup (pa_cons pe_int pa_nil)) pa_nil))))))))
      (pss_cons (ps_set (i := 2) sc__law_odd.nd rfl (.inl rfl) (pe_op op_cat (pv 2) (pe_lst (pa_cons (pe_tup (pa_cons pe_str (pa_cons pe_str (pa_cons pe_str pa_nil)))) (pa_cons (pe_tup (pa_cons pe_str pa_nil)) (pa_cons (pe_tup (pa_cons pe_str (pa_cons (pe_op op_pow pe_int pe_int) pa_nil))) (pa_cons (pe_tup (pa_cons pe_str (pa_cons pe_str pa_nil))) pa_nil)))))))
      (pss_one (ps_ret (pe_ix ix_list (pv 2) (pe_cal c__law_draw (hr.mono (by omega)) rfl pass0 (pa_cons (pv 0) (pa_cons (pe_callB call_len_seq (by rfl) T.b_len (by decide +kernel) (pa_cons (pv 2) pa_nil)) pa_nil))) (fun _ _ => rfl))))))))), ?_⟩
    refine seq_asg ?_
    refine menu_use (K := K) (menu_of (ds := odd1) (by repeat' (first | exact layA_nil | refine layA_cons ?_ ?_ | exact lay_str | exact lay_int | exact lay_bl | exact lay_non | exact lay_neg | exact lay_pow ⟨by decide, by decide, by decide⟩ | refine lay_tup ?_ (by decide) | refine lay_lst ?_ (by decide)))) (by decide) fun D1 vs1 ds1 H1 m1 s1 d1 h1 => ?_
    have r1 : ∀ d ∈ ds1, d ∈ odd1 ++ odd2 ++ odd3 ++ odd4 ++ odd5 := fun d hd => by have := m1.2 d hd; simp only [List.mem_append]; simp [this]
    have l1 : vs1.length = 6 := by rw [d1.len, m1.1]; rfl
    refine seq_asg2 (j := 2) (v := .ref D1) rfl ?_
    refine menu_use (K := K) (menu_of (ds := odd2) (by repeat' (first | exact layA_nil | refine layA_cons ?_ ?_ | exact lay_str | exact lay_int | exact lay_bl | exact lay_non | exact lay_neg | exact lay_pow ⟨by decide, by decide, by decide⟩ | refine lay_tup ?_ (by decide) | refine lay_lst ?_ (by decide)))) (by decide) fun E us es G m t e g => ?_
    have lu : us.length = 4 := by rw [e.len, m.1]; rfl
    refine ⟨D1, E, vs1, us, rfl, rfl, t _ _ h1, g, sz_lit (by omega), fun D2 q => ?_⟩
    obtain ⟨vs2, ev⟩ : ∃ z, z = vs1 ++ us := ⟨_, rfl⟩
    obtain ⟨ds2, ed⟩ : ∃ z, z = ds1 ++ es := ⟨_, rfl⟩
    rw [← ev]
    have w := Same.new (o := .lst vs2) q
    have d2 : DpAll K (upd G D2 (.lst vs2)) vs2 ds2 := by rw [ev, ed]; exact (DpAll.mono (t.trans (by rw [ev] at w; exact w)) d1).append (DpAll.mono (by rw [ev] at w; exact w) e)
    have h2 : upd G D2 (.lst vs2) D2 = some (.lst vs2) := upd_same
    have s2 := (s1.trans t).trans w
    have r2 : ∀ d ∈ ds2, d ∈ odd1 ++ odd2 ++ odd3 ++ odd4 ++ odd5 := fun d hd => by
      rw [ed] at hd
      rcases List.mem_append.mp hd with hd | hd
      · exact r1 d hd
      · have := m.2 d hd; simp only [List.mem_append]; simp [this]
    have l2 : vs2.length = 10 := by rw [ev, List.length_append]; omega
    clear ev ed d1 h1 e g t w s1 m r1 l1 lu
    revert d2 h2 s2
    generalize upd G D2 _ = H2
    intro d2 h2 s2
    refine seq_asg2 (j := 2) (v := .ref D2) rfl ?_
    refine menu_use (K := K) (menu_of (ds := odd3) (by repeat' (first | exact layA_nil | refine layA_cons ?_ ?_ | exact lay_str | exact lay_int | exact lay_bl | exact lay_non | exact lay_neg | exact lay_pow ⟨by decide, by decide, by decide⟩ | refine lay_tup ?_ (by decide) | refine lay_lst ?_ (by decide)))) (by decide) fun E us es G m t e g => ?_
    have lu : us.length = 8 := by rw [e.len, m.1]; rfl
    refine ⟨D2, E, vs2, us, rfl, rfl, t _ _ h2, g, sz_lit (by omega), fun D3 q => ?_⟩
    obtain ⟨vs3, ev⟩ : ∃ z, z = vs2 ++ us := ⟨_, rfl⟩
    obtain ⟨ds3, ed⟩ : ∃ z, z = ds2 ++ es := ⟨_, rfl⟩
    rw [← ev]
    have w := Same.new (o := .lst vs3) q
    have d3 : DpAll K (upd G D3 (.lst vs3)) vs3 ds3 := by rw [ev, ed]; exact (DpAll.mono (t.trans (by rw [ev] at w; exact w)) d2).append (DpAll.mono (by rw [ev] at w; exact w) e)
    have h3 : upd G D3 (.lst vs3) D3 = some (.lst vs3) := upd_same
    have s3 := (s2.trans t).trans w
    have r3 : ∀ d ∈ ds3, d ∈ odd1 ++ odd2 ++ odd3 ++ odd4 ++ odd5 := fun d hd => by
      rw [ed] at hd
      rcases List.mem_append.mp hd with hd | hd
      · exact r2 d hd
      · have := m.2 d hd; simp only [List.mem_append]; simp [this]
    have l3 : vs3.length = 18 := by rw [ev, List.length_append]; omega
    clear ev ed d2 h2 e g t w s2 m r2 l2 lu
    revert d3 h3 s3
    generalize upd G D3 _ = H3
    intro d3 h3 s3
    refine seq_asg2 (j := 2) (v := .ref D3) rfl ?_
    refine menu_use (K := K) (menu_of (ds := odd4) (by repeat' (first | exact layA_nil | refine layA_cons ?_ ?_ | exact lay_str | exact lay_int | exact lay_bl | exact lay_non | exact lay_neg | exact lay_pow ⟨by decide, by decide, by decide⟩ | refine lay_tup ?_ (by decide) | refine lay_lst ?_ (by decide)))) (by decide) fun E us es G m t e g => ?_
    have lu : us.length = 5 := by rw [e.len, m.1]; rfl
    refine ⟨D3, E, vs3, us, rfl, rfl, t _ _ h3, g, sz_lit (by omega), fun D4 q => ?_⟩
    obtain ⟨vs4, ev⟩ : ∃ z, z = vs3 ++ us := ⟨_, rfl⟩
    obtain ⟨ds4, ed⟩ : ∃ z, z = ds3 ++ es := ⟨_, rfl⟩
    rw [← ev]
    have w := Same.new (o := .lst vs4) q
    have d4 : DpAll K (upd G D4 (.lst vs4)) vs4 ds4 := by rw [ev, ed]; exact (DpAll.mono (t.trans (by rw [ev] at w; exact w)) d3).append (DpAll.mono (by rw [ev] at w; exact w) e)
    have h4 : upd G D4 (.lst vs4) D4 = some (.lst vs4) := upd_same
    have s4 := (s3.trans t).trans w
    have r4 : ∀ d ∈ ds4, d ∈ odd1 ++ odd2 ++ odd3 ++ odd4 ++ odd5 := fun d hd => by
      rw [ed] at hd
      rcases List.mem_append.mp hd with hd | hd
      · exact r3 d hd
      · have := m.2 d hd; simp only [List.mem_append]; simp [this]
    have l4 : vs4.length = 23 := by rw [ev, List.length_append]; omega
    clear ev ed d3 h3 e g t w s3 m r3 l3 lu
    revert d4 h4 s4
    generalize upd G D4 _ = H4
    intro d4 h4 s4
    refine seq_asg2 (j := 2) (v := .ref D4) rfl ?_
    refine menu_use (K := K) (menu_of (ds := odd5) (by repeat' (first | exact layA_nil | refine layA_cons ?_ ?_ | exact lay_str | exact lay_int | exact lay_bl | exact lay_non | exact lay_neg | exact lay_pow ⟨by decide, by decide, by decide⟩ | refine lay_tup ?_ (by decide) | refine lay_lst ?_ (by decide)))) (by decide) fun E us es G m t e g => ?_
    have lu : us.length = 4 := by rw [e.len, m.1]; rfl
    refine ⟨D4, E, vs4, us, rfl, rfl, t _ _ h4, g, sz_lit (by omega), fun D5 q => ?_⟩
    obtain ⟨vs5, ev⟩ : ∃ z, z = vs4 ++ us := ⟨_, rfl⟩
    obtain ⟨ds5, ed⟩ : ∃ z, z = ds4 ++ es := ⟨_, rfl⟩
    rw [← ev]
    have w := Same.new (o := .lst vs5) q
    have d5 : DpAll K (upd G D5 (.lst vs5)) vs5 ds5 := by rw [ev, ed]; exact (DpAll.mono (t.trans (by rw [ev] at w; exact w)) d4).append (DpAll.mono (by rw [ev] at w; exact w) e)
    have h5 : upd G D5 (.lst vs5) D5 = some (.lst vs5) := upd_same
    have s5 := (s4.trans t).trans w
    have r5 : ∀ d ∈ ds5, d ∈ odd1 ++ odd2 ++ odd3 ++ odd4 ++ odd5 := fun d hd => by
      rw [ed] at hd
      rcases List.mem_append.mp hd with hd | hd
      · exact r4 d hd
      · have := m.2 d hd; simp only [List.mem_append]; simp [this]
    have l5 : vs5.length = 27 := by rw [ev, List.length_append]; omega
    clear ev ed d4 h4 e g t w s4 m r4 l4 lu
    revert d5 h5 s5
    generalize upd G D5 _ = H5
    intro d5 h5 s5
    have pl5 := pl.mono s5
    have nDp : D5 ≠ p := fun e => by
      obtain ⟨_, hk⟩ := pl5.at
      rw [e, hk] at h5
      cases h5
    refine ⟨_, rfl, _, rfl, _, rfl, D5, _, rfl, .inl (.inl (.inl h5)), p, c, _, rfl, pl5, by omega, fun r H6 r1 r2 b6 pl6 => ?_⟩
    obtain ⟨m, rfl⟩ := Int.eq_ofNat_of_zero_le r1
    have hv : vs5[m]? = some (vs5[m]'(by omega)) := List.getElem?_eq_getElem _
    obtain ⟨d, e1, e2⟩ := d5.get hv
    exact ⟨D5, _, _, _, rfl, rfl, .inl (.inl (b6 _ _ h5 nDp)), atI_nat hv, k _ d H6 (odd_gd d (r5 d (List.mem_of_getElem? e1))) ((Same.but s5).trans b6) pl6 (e2.kp (pl5.kp b6))⟩
end
end Op
set_option pp.maxSteps 500
namespace Op
open PySem L2 PyProof.Rows
/-! ### the law's own look at a token -/
def fitsO (o : Option Tk) (th : List Str) (at' : Int) : Bool := match o with
  | none => false
  | some t => decide (decide (t.k = "begin") = decide (at' = 0)) && suits t th
def formsN : List (Key × V) := forms.map fun p => (.inr p.1, .int (p.2.length : Int))
theorem formsN_val (k : Str) : ∀ l : List (Str × Str), valV (l.map fun p => ((.inr p.1 : Key), V.int (p.2.length : Int))) (.inr k) = (l.lookup k).map fun f => V.int (f.length : Int)
  | [] => rfl
  | (a, b) :: r => by
    rw [List.map_cons, List.lookup_cons]
    by_cases h : k = a
    · subst h
      rw [valV_pos rfl, beq_self_eq_true]
      rfl
    · rw [valV_neg (show ¬ ((.inr a : Key) = .inr k) from fun e => h (by injection e with e; exact e.symm)), beq_false_of_ne h]
      exact formsN_val k r
def numK (k : Str) : Bool := decide (k ∈ (["answer", "rang", "dropped"] : List Str))
/-- the codes of a form -/
theorem form_num {k f : Str} (h : forms.lookup k = some f) (hk : numK k = true) : ∃ r : List Nat, f.cps.toList = 110 :: r ∧ (∀ c ∈ r, c = 119) ∧ f.length = r.length + 1 := by
  have hm := look_mem h
  have hk := of_decide_eq_true hk
  simp only [forms, List.mem_cons, List.not_mem_nil, or_false, Prod.mk.injEq] at hm hk
  rcases hm with ⟨rfl, rfl⟩ | ⟨rfl, rfl⟩ | ⟨rfl, rfl⟩ | ⟨rfl, rfl⟩ | ⟨rfl, rfl⟩ | ⟨rfl, rfl⟩ | ⟨rfl, rfl⟩ | ⟨rfl, rfl⟩ | ⟨rfl, rfl⟩ | ⟨rfl, rfl⟩ | ⟨rfl, rfl⟩
  case inr.inl => exact ⟨[119], by decide +kernel, fun c hc => List.mem_singleton.mp hc, by decide +kernel⟩
  case inr.inr.inl => exact ⟨[], by decide +kernel, fun c hc => (List.not_mem_nil hc).elim, by decide +kernel⟩
  case inr.inr.inr.inr.inr.inr.inl => exact ⟨[], by decide +kernel, fun c hc => (List.not_mem_nil hc).elim, by decide +kernel⟩
  all_goals (exfalso; revert hk; decide +kernel)
theorem form_word {k f : Str} (h : forms.lookup k = some f) (hk : numK k = false) : (∀ c ∈ f.cps.toList, c = 119) ∧ f.length = f.cps.toList.length := by
  have hm := look_mem h
  have hk := of_decide_eq_false hk
  simp only [forms, List.mem_cons, List.not_mem_nil, or_false, Prod.mk.injEq] at hm hk
  rcases hm with ⟨rfl, rfl⟩ | ⟨rfl, rfl⟩ | ⟨rfl, rfl⟩ | ⟨rfl, rfl⟩ | ⟨rfl, rfl⟩ | ⟨rfl, rfl⟩ | ⟨rfl, rfl⟩ | ⟨rfl, rfl⟩ | ⟨rfl, rfl⟩ | ⟨rfl, rfl⟩ | ⟨rfl, rfl⟩
  all_goals first
    | exact (by decide +kernel)
    | (exfalso; revert hk; decide +kernel)
theorem zip_words : ∀ (cs : List Nat) (ds : List PyData), cs.length = ds.length → (∀ c ∈ cs, c = 119) → (cs.zip ds).all (fun p => codeFits p.1 p.2) = ds.all isWord
  | [], [], _, _ => rfl
  | [], _ :: _, h, _ => by cases h
  | _ :: _, [], h, _ => by cases h
  | c :: cs, d :: ds, h, hc => by
    rw [List.zip_cons_cons, List.all_cons, List.all_cons, zip_words cs ds (Nat.succ.inj h) fun x hx => hc x (List.mem_cons_of_mem _ hx)]
    rw [hc c List.mem_cons_self]
    rfl
theorem hasForm_look {k : Str} {parts : List PyData} : hasForm (.tuple (.str k :: parts)) = match forms.lookup k with | none => false | some f => decide (parts.length = f.length) && (f.cps.toList.zip parts).all fun p => codeFits p.1 p.2 := rfl
theorem DT.none_of {d : PyData} {o : Option Tk} (h : DT d o) (hf : hasForm d = false) : o = none := by
  cases o with
  | none => rfl
  | some t => rw [h.form] at hf; cases hf
def numOk : PyData → Bool
  | .int i => decide (0 ≤ i)
  | _ => false
theorem hasForm_num {k f : Str} {p0 : PyData} {ws : List PyData} (h : forms.lookup k = some f) (hk : numK k = true) (hl : (p0 :: ws).length = f.length) : hasForm (.tuple (.str k :: p0 :: ws)) = (numOk p0 && ws.all isWord) := by
  obtain ⟨r, e1, e2, e3⟩ := form_num h hk
  rw [hasForm_look, h]
  dsimp only
  rw [decide_eq_true hl, Bool.true_and, e1, List.zip_cons_cons, List.all_cons, zip_words r ws (by have : (p0 :: ws).length = ws.length + 1 := rfl; omega) e2]
  rw [show codeFits 110 p0 = numOk p0 by cases p0 <;> rfl]
theorem hasForm_word {k f : Str} {parts : List PyData} (h : forms.lookup k = some f) (hk : numK k = false) (hl : parts.length = f.length) : hasForm (.tuple (.str k :: parts)) = parts.all isWord := by
  obtain ⟨e1, e2⟩ := form_word h hk
  rw [hasForm_look, h]
  dsimp only
  rw [decide_eq_true hl, Bool.true_and, zip_words _ _ (by omega) e1]
/-- a numbered token -/
theorem fits_num {k f : Str} {n : Int} {ws : List PyData} {o : Option Tk} {th : List Str} {at' : Int} (h : forms.lookup k = some f) (hk : numK k = true) (hl : ws.length + 1 = f.length) (hd : DT (.tuple (.str k :: .int n :: ws)) o) (hb : decide (k = "begin") = decide (at' = 0)) (h0 : 0 ≤ n) {z : Str} (hz : th[n.toNat]? = some z) :
    fitsO o th at' = (ws.all isWord && thingFits k z) := by
  have hf := hasForm_num (p0 := .int n) (ws := ws) h hk hl
  rw [hd.form] at hf
  rw [show numOk (.int n) = true from decide_eq_true h0, Bool.true_and] at hf
  rw [← hf]
  cases o with
  | none => rfl
  | some t =>
    obtain ⟨hok, e⟩ := hd
    have e' : PyData.tuple (.str k :: .int n :: ws) = .tuple (.str t.k :: t.parts) := e
    injection e' with e'
    injection e' with e1 e2
    injection e1 with e1
    have hn : t.n = some n.toNat := by
      have hs := num_iff hok.c
      rw [← e1] at hs
      rw [show decide (k ∈ (["answer", "rang", "dropped"] : List Str)) = true from hk] at hs
      cases hn : t.n with
      | none => rw [hn] at hs; cases hs
      | some m =>
        unfold Tk.parts at e2
        rw [hn] at e2
        have e2 : PyData.int n :: ws = .int (m : Int) :: t.ws.map .str := e2
        injection e2 with e3 _
        injection e3 with e3
        rw [e3, Int.toNat_natCast]
    show (decide (decide (t.k = "begin") = decide (at' = 0)) && suits t th) = (true && thingFits k z)
    rw [← e1, decide_eq_true hb]
    unfold suits
    rw [hn]
    dsimp only
    rw [hz, ← e1]
theorem fits_numx {k f : Str} {p0 : PyData} {ws : List PyData} {o : Option Tk} {th : List Str} {at' : Int} (h : forms.lookup k = some f) (hk : numK k = true) (hl : ws.length + 1 = f.length) (hd : DT (.tuple (.str k :: p0 :: ws)) o) (hx : ∀ n : Int, p0 = .int n → n < 0 ∨ th.length ≤ n.toNat) :
    fitsO o th at' = false := by
  cases o with
  | none => rfl
  | some t =>
    have hf := hasForm_num (p0 := p0) (ws := ws) h hk hl
    rw [hd.form] at hf
    have hf : (numOk p0 && ws.all isWord) = true := hf.symm
    have h1 := (Bool.and_eq_true_iff.mp hf).1
    cases p0 with
    | int n =>
      have h0 : 0 ≤ n := of_decide_eq_true h1
      have h2 := (hx n rfl).resolve_left (by omega)
      obtain ⟨hok, e⟩ := hd
      have e' : PyData.tuple (.str k :: .int n :: ws) = .tuple (.str t.k :: t.parts) := e
      injection e' with e'
      injection e' with e1 e2
      injection e1 with e1
      have hn : t.n = some n.toNat := by
        have hs := num_iff hok.c
        rw [← e1] at hs
        rw [show decide (k ∈ (["answer", "rang", "dropped"] : List Str)) = true from hk] at hs
        cases hn : t.n with
        | none => rw [hn] at hs; cases hs
        | some m =>
          unfold Tk.parts at e2
          rw [hn] at e2
          have e2 : PyData.int n :: ws = .int (m : Int) :: t.ws.map .str := e2
          injection e2 with e3 _
          injection e3 with e3
          rw [e3, Int.toNat_natCast]
      show (_ && suits t th) = false
      unfold suits
      rw [hn]
      dsimp only
      rw [List.getElem?_eq_none h2, Bool.and_false]
    | _ => cases h1
theorem fits_word {k f : Str} {parts : List PyData} {o : Option Tk} {th : List Str} {at' : Int} (h : forms.lookup k = some f) (hk : numK k = false) (hl : parts.length = f.length) (hd : DT (.tuple (.str k :: parts)) o) (hb : decide (k = "begin") = decide (at' = 0)) : fitsO o th at' = parts.all isWord := by
  have hf := hasForm_word (parts := parts) h hk hl
  rw [hd.form] at hf
  rw [← hf]
  cases o with
  | none => rfl
  | some t =>
    obtain ⟨hok, e⟩ := hd
    have e' : PyData.tuple (.str k :: parts) = .tuple (.str t.k :: t.parts) := e
    injection e' with e'
    injection e' with e1 e2
    injection e1 with e1
    have hs := num_iff hok.c
    rw [← e1] at hs
    rw [show decide (k ∈ (["answer", "rang", "dropped"] : List Str)) = false from hk] at hs
    show (decide (decide (t.k = "begin") = decide (at' = 0)) && suits t th) = true
    rw [← e1, decide_eq_true hb]
    unfold suits
    cases hn : t.n with
    | none => rfl
    | some m => rw [hn] at hs; cases hs
mutual
/-- data without lists keep when a list is changed -/
theorem dp_updN {K : PySem.W.Frag} {H : Hp} {D : Addr} {ys : List V} {o : HO} (hD : H D = some (.lst ys)) : ∀ {v : V} {d : PyData}, noL d = true → Dp K H v d → Dp K (upd H D o) v d
  | _, _, _, .non => .non
  | _, _, _, .bl b => .bl b
  | _, _, _, .int i => .int i
  | _, _, _, .str x => .str x
  | _, _, h, .lst _ _ => by unfold noL at h; cases h
  | _, _, h, .tup hs a => .tup (sqt_updL hs hD) (dps_updN hD (by unfold noL at h; exact h) a)
theorem dps_updN {K : PySem.W.Frag} {H : Hp} {D : Addr} {ys : List V} {o : HO} (hD : H D = some (.lst ys)) : ∀ {vs : List V} {ds : List PyData}, noLs ds = true → DpAll K H vs ds → DpAll K (upd H D o) vs ds
  | _, _, _, .nil => .nil
  | _, _, h, .cons a b => .cons (dp_updN hD (by unfold noLs at h; exact (Bool.and_eq_true_iff.mp h).1) a) (dps_updN hD (by unfold noLs at h; exact (Bool.and_eq_true_iff.mp h).2) b)
end
theorem seq_nat {n len : Nat} (h : n < len) : seqIndex? (n : Int) len = some n := by
  have h0 : ¬ ((n : Int) < 0) := by omega
  simp [seqIndex?, h0, h]
theorem inV_bls (zs : List Nat) : inV (.bl false) (zs.map fun c => V.bl (decide (c ∈ letters.cps.toList))) = !(zs.all fun c => decide (c ∈ letters.cps.toList)) := by
  induction zs with
  | nil => rfl
  | cons c r ih =>
    unfold inV at ih ⊢
    rw [List.map_cons, List.any_cons, List.all_cons, ih]
    cases decide (c ∈ letters.cps.toList) <;> rfl
theorem flat_bls (zs : List Nat) : (zs.map fun c => V.bl (decide (c ∈ letters.cps.toList))).all flatV = true := List.all_eq_true.mpr fun v hv => by
  obtain ⟨z, _, rfl⟩ := List.mem_map.mp hv
  rfl
section
variable {P : Program} {w : World} {K : PySem.W.Frag} {mg : Str → Option Value} {base : Heap}
def spLFits (K : PySem.W.Frag) : Sp := fun vs H Q _ => ∃ (v : V) (tl : Addr) (at' : Int) (d : PyData) (o : Option Tk) (th : List Str), vs = [v, .ref tl, .int at'] ∧ Dp K H v d ∧ GD d ∧ DT d o ∧ H tl = some (.lst (th.map V.str)) ∧ th.length ≤ 1000 ∧ ∀ H', Same H H' → Q (.bl (fitsO o th at')) H'
theorem sc__law_fits : FnScope ["_law_token_here", "_law_things", "_law_at", "_law_forms", "_law_words_here", "_law_number", "_law_word_here", "_law_letter"] ["_law_token_here", "_law_things", "_law_at"] (defScope s__law_fits) := ⟨rfl, rfl, rfl, by decide +kernel, rfl, by decide +kernel, by decide +kernel⟩
theorem ok_lfits {f : Addr} {fd : FuncData} (F : Fun K "_law_fits" "_law_fits" s__law_fits f fd) (T : Txt mg) : FnOk P w K mg base CX0 1 f fd ["_law_token_here", "_law_things", "_law_at"] (spLFits K) := by
  refine F.ok sc__law_fits (fun vs H Q E h => ?_) (fun cdv A outer s H vs Q E hr h => ?_)
  · obtain ⟨v, tl, at', d, o, th, rfl, _⟩ := h
    rfl
  · obtain ⟨v, tl, at', d, o, th, rfl, hd, gd, dt, htl, hth, k⟩ := h
    have hu := hu_of hr
    refine ⟨_, (pss_cons (ps_set (i := 3) sc__law_fits.nd rfl (.inl rfl) (pe_disp (pps_cons pe_str pe_int (pps_cons pe_str pe_int (pps_cons pe_str pe_int (pps_cons pe_str pe_int (pps_cons pe_str pe_int (pps_cons pe_str pe_int (pps_cons pe_str pe_int (pps_cons pe_str pe_int (pps_cons pe_str pe_int (pps_cons pe_str pe_int (pps_cons pe_str pe_int pps_nil))))))))))) (by rfl) (by rfl) (fun z => by cases z) (by decide)))
      (pss_cons (ps_if (PW.pt (pw_or (pt_not (pt_val (pe_callB call_isi (by rfl) T.b_isinstance (by decide +kernel) (pa_cons (pv 0) (pa_cons (pe_bltn (v := .ty "tuple") (by rfl) T.b_tuple (by decide +kernel) rfl) pa_nil))))) (pw_or (pt_cmpR op_eq (pe_callB call_len_seq (by rfl) T.b_len (by decide +kernel) (pa_cons (pv 0) pa_nil)) pe_int (nomark _)) (pw_or1 (pt_not (pt_val (pe_callB call_isi (by rfl) T.b_isinstance (by decide +kernel) (pa_cons (pe_ix ix_tup (pv 0) pe_int (fun _ _ => rfl)) (pa_cons (pe_bltn (v := .ty "str") (by rfl) T.b_str (by decide +kernel) rfl) pa_nil))))))))) (pss_one (ps_ret pe_bl)) pss_nil)
      (pss_cons (ps_if (pt_cmp (pc_dnotin hu (pe_ix ix_tup (pv 0) pe_int (fun _ _ => rfl)) (pv 3))) (pss_one (ps_ret pe_bl)) pss_nil)
      (pss_cons (ps_if (PW.pt (pw_or (pt_cmpR op_ne (pe_callB call_len_seq (by rfl) T.b_len (by decide +kernel) (pa_cons (pv 0) pa_nil)) (pe_op op_add pe_int (pe_dget hu (pv 3) (pe_ix ix_tup (pv 0) pe_int (fun _ _ => rfl)) (fun _ _ => rfl))) (nomark _)) (pw_or1 (pt_cmpR op_ne (pe_cmpR op_eq (pe_ix ix_tup (pv 0) pe_int (fun _ _ => rfl)) pe_str (nomark _)) (pe_cmpR op_eq (pv 2) pe_int (nomark _)) (nomark _))))) (pss_one (ps_ret pe_bl)) pss_nil)
      (pss_cons (ps_set (i := 4) sc__law_fits.nd rfl (.inl rfl) (pe_callTy call_list_of (by rfl) T.b_list (by decide +kernel) (pa_cons (pe_slice sl_tupA (pv 0) (po_some pe_int) po_none) pa_nil)))
      (Evl.pss_cut (ps_if (pt_cmpR op_in_seq (pe_ix ix_tup (pv 0) pe_int (fun _ _ => rfl)) (pe_tup (pa_cons pe_str (pa_cons pe_str (pa_cons pe_str pa_nil)))) (by rfl)) (pss_cons (ps_set (i := 5) sc__law_fits.nd rfl (.inl rfl) (pe_bm PySem.F.plainAttrs_list PySem.F.slot_list_pop PySem.F.type_list_pop mt_popAt (pv 4) (pa_cons pe_int pa_nil)))
      (pss_cons (ps_if (PW.pt (pw_or (pt_not (pt_val (pe_callB call_isi (by rfl) T.b_isinstance (by decide +kernel) (pa_cons (pv 5) (pa_cons (pe_bltn (v := .ty "int") (by rfl) T.b_int (by decide +kernel) rfl) pa_nil))))) (pw_or (pt_val (pe_callB call_isi (by rfl) T.b_isinstance (by decide +kernel) (pa_cons (pv 5) (pa_cons (pe_bltn (v := .ty "bool") (by rfl) T.b_bool (by decide +kernel) rfl) pa_nil)))) (pw_or1 (pt_not (pt_chain op_le op_lt pe_int (pv 5) (pe_callB call_len_seq (by rfl) T.b_len (by decide +kernel) (pa_cons (pv 1) pa_nil)))))))) (pss_one (ps_ret pe_bl)) pss_nil)
      (pss_cons (ps_if (PW.pt (pw_or (pt_cmpR op_eq (pe_ix ix_list (pv 1) (pv 5) (fun _ _ => rfl)) pe_str (nomark _)) (pw_or1 (PW.pt (pw_and (pt_cmpR op_eq (pe_ix ix_tup (pv 0) pe_int (fun _ _ => rfl)) pe_str (nomark _)) (pw_and1 (pt_cmpR op_ne (pe_ix ix_list (pv 1) (pv 5) (fun _ _ => rfl)) pe_str (nomark _)))))))) (pss_one (ps_ret pe_bl)) pss_nil)
      (pss_one (ps_if (PW.pt (pw_and (pt_cmpR op_eq (pe_ix ix_tup (pv 0) pe_int (fun _ _ => rfl)) pe_str (nomark _)) (pw_and1 (pt_cmpR op_ne (pe_ix ix_list (pv 1) (pv 5) (fun _ _ => rfl)) pe_str (nomark _))))) (pss_one (ps_ret pe_bl)) pss_nil))))) pss_nil)
      (pss_cons (ps_for PassesOwn.never rfl (pi_list (pv 4)) (pg_name (i := 6) sc__law_fits.nd rfl (.inl rfl)) (pss_cons (ps_if (PW.pt (pw_or (pt_not (pt_val (pe_callB call_isi (by rfl) T.b_isinstance (by decide +kernel) (pa_cons (pv 6) (pa_cons (pe_bltn (v := .ty "str") (by rfl) T.b_str (by decide +kernel) rfl) pa_nil))))) (pw_or1 (pt_not (pt_chain op_le op_le pe_int (pe_callB call_len_str (by rfl) T.b_len (by decide +kernel) (pa_cons (pv 6) pa_nil)) pe_int))))) (pss_one (ps_ret pe_bl)) pss_nil)
      (pss_one (ps_if (pt_cmpR op_in_seq pe_bl (pe_lc (own := [("_law_letter", 7)]) (g := gName 7) (tt := tYes) rfl sc__law_fits.nd (pi_str (pv 6)) (blkOk_by (own := [("_law_letter", 7)]) (N := ["_law_token_here", "_law_things", "_law_at", "_law_forms", "_law_words_here", "_law_number", "_law_word_here", "_law_letter"]) (sc := defScope s__law_fits) (by decide +kernel)) (fun _ _ _ _ _ => (pg_name (i := 7) sc__law_fits.nd rfl (.inl rfl))) (fun _ _ _ _ _ => pts_nil) (fun _ _ _ _ _ => (pe_cmpR op_in_sign (pv 7) pe_str (by rfl)))) (by rfl)) (pss_one (ps_ret pe_bl)) pss_nil))))
      (pss_one (ps_ret pe_bl))))))))), ?_⟩
    refine fun fd' hfd => ⟨upd_same, formsN, rfl, by decide, ?_⟩
    rw [show mergeK [] formsN = formsN by first | rfl | kernel_rfl]
    have s1 : Same H (upd (upd H fd' (.dK [])) fd' (.dK formsN)) := fun b o hb => by
      have hne := ne_of_none hb hfd
      rw [L2.upd_ne hne, L2.upd_ne hne]
      exact hb
    have f1 : upd (upd H fd' (.dK [])) fd' (.dK formsN) fd' = some (.dK formsN) := upd_same
    revert s1 f1
    generalize upd (upd H fd' (.dK [])) fd' _ = H1
    intro s1 f1
    have no : o = none → ∀ H', Same H H' → Q (.bl false) H' := fun e => by rw [e] at k; exact k
    have hd1 := hd.mono s1
    refine ⟨_, rfl, v, _, _, _, _, rfl, .ty _, ty_dp hd1, kit_tuple d, _, rfl, ?_⟩
    cases hd1 with
    | @tup p xs ds hq hx =>
      have hxl := hx.len
      refine ifF rfl ⟨_, rfl, p, xs, rfl, .inr hq, rfl, _, rfl, ?_⟩
      cases hx with
      | nil => exact ifT rfl (ifT rfl (no (dt.none_of rfl) _ s1))
      | @cons x0 xr d0 dr h0 hr0 =>
        refine ifF rfl ⟨_, rfl, p, _, 0, _, rfl, rfl, hq, atI_zero _ _, x0, _, _, _, _, rfl, .ty _, ty_dp h0, kit_str d0, _, rfl, ?_⟩
        cases h0 with
        | str kk =>
          refine ifF rfl ?_
          have hlr := hr0.len
          refine ⟨_, rfl, p, _, 0, _, rfl, rfl, hq, atI_zero _ _, _, rfl, fd', _, rfl, DGet.k (k := (.inr kk : Key)) f1, _, rfl, ?_⟩
          rw [show valV formsN (.inr kk) = (forms.lookup kk).map fun f => V.int (f.length : Int) from formsN_val kk forms]
          cases hf : forms.lookup kk with
          | none => exact ifT rfl (no (dt.none_of (by rw [hasForm_look, hf])) _ s1)
          | some f =>
            refine ifF rfl ?_
            have hget : DGet H1 fd' (.str kk) (some (.int (f.length : Int))) := by
              have := DGet.k (k := (.inr kk : Key)) f1
              rw [show valV formsN (.inr kk) = (forms.lookup kk).map fun f => V.int (f.length : Int) from formsN_val kk forms, hf] at this
              exact this
            refine ⟨_, rfl, p, _, rfl, .inr hq, _, rfl, _, rfl, p, _, 0, _, rfl, rfl, hq, atI_zero _ _, fd', _, rfl, hget, _, _, rfl, rfl, rfl, _, rfl, ?_⟩
            have hxl2 : (V.str kk :: xr).length = xr.length + 1 := rfl
            by_cases hl : dr.length = f.length
            case neg =>
              refine ifT (by show (!decide (V.int ((xr.length + 1 : Nat) : Int) = .int (1 + (f.length : Int)))) = true; rw [decide_eq_false (by intro z; injection z with z; omega)]; rfl) (ifT rfl (no (dt.none_of ?_) _ s1))
              rw [hasForm_look, hf]
              dsimp only
              rw [decide_eq_false hl, Bool.false_and]
            refine ifF (by show (!decide (V.int ((xr.length + 1 : Nat) : Int) = .int (1 + (f.length : Int)))) = false; rw [decide_eq_true (congrArg V.int (by omega))]; rfl) ⟨_, rfl, p, _, 0, _, rfl, rfl, hq, atI_zero _ _, rfl, _, rfl, rfl, rfl, _, rfl, ?_⟩
            have hat : decide (V.int at' = V.int 0) = decide (at' = 0) := decide_eq_decide.mpr ⟨fun h => by injection h, fun h => by rw [h]⟩
            rw [dec_strV, hat]
            by_cases hb : decide (kk = "begin") = decide (at' = 0)
            case neg =>
              refine ifT (by simpa using hb) ?_
              have e : fitsO o th at' = false := by
                cases o with
                | none => rfl
                | some t =>
                  obtain ⟨_, e⟩ := dt
                  have e' : PyData.tuple (.str kk :: dr) = .tuple (.str t.k :: t.parts) := e
                  injection e' with e'
                  injection e' with e1 _
                  injection e1 with e1
                  show (decide (decide (t.k = "begin") = decide (at' = 0)) && _) = false
                  rw [← e1, decide_eq_false hb, Bool.false_and]
              rw [e] at k
              exact k _ s1
            refine ifF (by simpa using hb) ?_
            -- the words
            refine ⟨_, rfl, 1, rfl, ?_⟩
            refine rd_slN (lo := some 1) hq fun p2 H2 s2 q2 => ?_
            have q2 : SqT K H2 p2 xr := by
              rw [show (some 1 : Option Int) = some ((1 : Nat) : Int) from rfl, cut_drop] at q2
              exact q2
            refine ⟨p2, xr, rfl, .inr q2, fun wl hwl => ?_⟩
            have s3 := Same.new (o := .lst xr) hwl
            have w3 : upd H2 wl (.lst xr) wl = some (.lst xr) := upd_same
            have q3 := (hq.mono s2).mono s3
            have r3 := DpAll.mono (s2.trans s3) hr0
            have s13 := (s1.trans s2).trans s3
            have zwl : H wl = none := by
              cases z : H wl with
              | none => rfl
              | some u => rw [(s1.trans s2) _ _ z] at hwl; cases hwl
            clear hget f1 s3
            revert w3 q3 r3 s13
            generalize upd H2 wl _ = H3
            intro w3 q3 r3 s13
            refine ⟨fun σ' H4 => ∃ (y5 : Option V) (ws : List V) (es : List PyData) (bb : Bool), σ' = [some (.ref p), some (.ref tl), some (.int at'), some (.ref fd'), some (.ref wl), y5, none, none] ∧ Same H H4 ∧ H4 wl = some (.lst ws) ∧ DpAll K H4 ws es ∧ (∀ e ∈ es, ∀ x, e = .str x → x.length ≤ 100000) ∧ es.length ≤ 10000 ∧ fitsO o th at' = (es.all isWord && true), ?_, ?_⟩
            · refine ⟨_, rfl, p, _, 0, _, rfl, rfl, q3, atI_zero _ _, sz_lit (by show 3 ≤ 100000; decide), fun o1 ho1 => ⟨o1, _, rfl, .inr (.inl (.inl upd_same)), rfl, flat_strs ["answer", "rang", "dropped"], _, rfl, ?_⟩⟩
              rw [show inV (.str kk) [.str "answer", .str "rang", .str "dropped"] = numK kk from inV_st kk ["answer", "rang", "dropped"]]
              have so := Same.new (o := .tup [.str "answer", .str "rang", .str "dropped"]) ho1
              have w4 := so _ _ w3
              have q4 := q3.mono so
              have r4 := DpAll.mono so r3
              have s4 := s13.trans so
              clear so
              revert w4 q4 r4 s4
              generalize upd H3 o1 _ = H4
              intro w4 q4 r4 s4
              have small : ∀ e ∈ dr, ∀ x, e = .str x → x.length ≤ 100000 := fun e he x ex => gd.sh (.str kk) dr rfl x (by rw [← ex]; exact he)
              have drl : dr.length ≤ 10000 := by
                have h := gd.sm.1
                have h2 : (PyData.str kk :: dr).length = dr.length + 1 := rfl
                omega
              by_cases hk : numK kk = true
              · rw [hk]
                obtain ⟨rr, e1, e2, e3⟩ := form_num hf hk
                cases r4 with
                | nil => exfalso; have : ([] : List PyData).length = 0 := rfl; omega
                | @cons v0 vr p0 ws h0 hws =>
                  have hl' : ws.length + 1 = f.length := hl
                  refine ifT rfl ⟨_, rfl, .inl ⟨rfl, _, .inl (.inl w4)⟩, wl, _, 0, 0, v0, rfl, rfl, w4, by decide, by decide, seq_nat (n := 0) (Nat.succ_pos _), rfl, ?_⟩
                  have w5 : upd H4 wl (.lst ((v0 :: vr).eraseIdx 0)) wl = some (.lst vr) := upd_same
                  have s5 : Same H (upd H4 wl (.lst ((v0 :: vr).eraseIdx 0))) := Same.updN s4 zwl
                  have q5 : SqT K (upd H4 wl (.lst ((v0 :: vr).eraseIdx 0))) p (.str kk :: v0 :: vr) := sqt_updL q4 w4
                  have gd2 : ∀ e ∈ p0 :: ws, noL e = true := fun e he => gd.nl _ rfl e (List.mem_cons_of_mem _ he)
                  have h5 : Dp K (upd H4 wl (.lst ((v0 :: vr).eraseIdx 0))) v0 p0 := dp_updN w4 (gd2 p0 List.mem_cons_self) h0
                  have r5 : DpAll K (upd H4 wl (.lst ((v0 :: vr).eraseIdx 0))) vr ws := dps_updN w4 (noLs_mem.mpr fun e he => gd2 e (List.mem_cons_of_mem _ he)) hws
                  revert w5 s5 q5 h5 r5
                  generalize upd H4 wl _ = H5
                  intro w5 s5 q5 h5 r5
                  have fx : (∀ n : Int, p0 = .int n → n < 0 ∨ th.length ≤ n.toNat) → Q (.bl false) H5 := fun h => by
                    rw [fits_numx hf hk hl' dt h] at k
                    exact k _ s5
                  have t5 := s5 _ _ htl
                  refine ⟨_, rfl, v0, _, _, _, _, rfl, .ty _, ty_dp h5, kit_int p0, _, rfl, ?_⟩
                  cases h5 with
                  | int n =>
                    refine ifF rfl ⟨_, rfl, .int n, _, _, _, _, rfl, .ty _, ty_dp (.int n : Dp K H5 (.int n) (.int n)), kit_bool _, _, rfl, ifF rfl ?_⟩
                    refine ⟨_, rfl, _, _, rfl, rfl, _, rfl, ?_⟩
                    by_cases h0 : 0 ≤ n
                    case neg => exact ifF (decide_eq_false h0) ⟨_, rfl, ifT rfl (fx fun m e => by injection e with e; left; omega)⟩
                    refine ifT (decide_eq_true h0) ⟨_, rfl, tl, _, rfl, .inl (.inl (.inl t5)), _, _, rfl, rfl, _, rfl, ?_⟩
                    obtain ⟨m, rfl⟩ := Int.eq_ofNat_of_zero_le h0
                    by_cases h1 : m < th.length
                    case neg => exact ifT (by rw [decide_eq_false (by rw [List.length_map]; omega)]; rfl) (fx fun m' e => by injection e with e; right; omega)
                    refine ifF (by rw [decide_eq_true (by rw [List.length_map]; omega)]; rfl) ?_
                    have hz : th[m]? = some (th[m]'h1) := List.getElem?_eq_getElem h1
                    revert hz
                    generalize th[m]'h1 = z
                    intro hz
                    have hzv : (th.map V.str)[m]? = some (.str z) := by rw [List.getElem?_map, hz]; rfl
                    have hfit : fitsO o th at' = (ws.all isWord && thingFits kk z) := fits_num hf hk hl' dt hb h0 (by rw [Int.toNat_natCast]; exact hz)
                    have smallw : ∀ e ∈ ws, ∀ x, e = .str x → x.length ≤ 100000 := fun e he => small e (List.mem_cons_of_mem _ he)
                    have wsl : ws.length ≤ 10000 := by have : (PyData.int (m : Int) :: ws).length = ws.length + 1 := rfl; omega
                    have no2 : thingFits kk z = false → Q (.bl false) H5 := fun h => by
                      rw [hfit, h, Bool.and_false] at k
                      exact k _ s5
                    have yes : thingFits kk z = true → fitsO o th at' = (ws.all isWord && true) := fun h => by rw [hfit, h]
                    refine ⟨_, rfl, _, rfl, tl, _, _, .str z, rfl, rfl, .inl (.inl t5), atI_nat hzv, rfl, _, rfl, ?_⟩
                    rw [dec_strV]
                    have h3 : kk = "answer" ∨ kk = "rang" ∨ kk = "dropped" := by
                      have := of_decide_eq_true hk
                      simpa using this
                    by_cases hg : z = "gone"
                    · refine ifT (decide_eq_true hg) (no2 ?_)
                      rcases h3 with rfl | rfl | rfl <;> (rw [hg]; decide +kernel)
                    refine ifF (decide_eq_false hg) ⟨_, rfl, p, _, 0, _, rfl, rfl, q5, atI_zero _ _, rfl, _, rfl, ?_⟩
                    rw [dec_strV]
                    rcases h3 with rfl | rfl | rfl
                    · refine ifT (by decide +kernel) ⟨_, rfl, _, rfl, tl, _, _, .str z, rfl, rfl, .inl (.inl t5), atI_nat hzv, rfl, _, rfl, ?_⟩
                      by_cases hz2 : z = "ask"
                      · refine ifF (by rw [dec_strV, decide_eq_true hz2]; rfl) ⟨_, rfl, p, _, 0, _, rfl, rfl, q5, atI_zero _ _, rfl, _, rfl, ifF (by decide +kernel) ?_⟩
                        exact ⟨_, vr, ws, true, rfl, s5, w5, r5, smallw, wsl, yes (by rw [hz2]; decide +kernel)⟩
                      · refine ifT (by rw [dec_strV, decide_eq_false hz2]; rfl) (no2 ?_)
                        show (if ("answer" : Str) = "answer" then decide (z = "ask") else _) = false
                        rw [if_pos rfl, decide_eq_false hz2]
                    · refine ifF (by decide +kernel) ⟨_, rfl, p, _, 0, _, rfl, rfl, q5, atI_zero _ _, rfl, _, rfl, ?_⟩
                      refine ifT (by decide +kernel) ⟨_, rfl, _, rfl, tl, _, _, .str z, rfl, rfl, .inl (.inl t5), atI_nat hzv, rfl, _, rfl, ?_⟩
                      by_cases hz2 : z = "timer"
                      · exact ifF (by rw [dec_strV, decide_eq_true hz2]; rfl) ⟨_, vr, ws, true, rfl, s5, w5, r5, smallw, wsl, yes (by rw [hz2]; decide +kernel)⟩
                      · refine ifT (by rw [dec_strV, decide_eq_false hz2]; rfl) (no2 ?_)
                        show (if ("rang" : Str) = "answer" then _ else if ("rang" : Str) = "rang" then decide (z = "timer") else _) = false
                        rw [if_neg (by decide +kernel), if_pos rfl, decide_eq_false hz2]
                    · refine ifF (by decide +kernel) ⟨_, rfl, p, _, 0, _, rfl, rfl, q5, atI_zero _ _, rfl, _, rfl, ifF (by decide +kernel) ?_⟩
                      refine ⟨_, vr, ws, true, rfl, s5, w5, r5, smallw, wsl, yes ?_⟩
                      show (if ("dropped" : Str) = "answer" then _ else if ("dropped" : Str) = "rang" then _ else !decide (z = "gone")) = true
                      rw [if_neg (by decide +kernel), if_neg (by decide +kernel), decide_eq_false hg]
                      rfl
                  | bl b => exact ifF rfl ⟨_, rfl, .bl b, _, _, _, _, rfl, .ty _, ty_dp (.bl b : Dp K H5 (.bl b) (.bool b)), kit_bool _, _, rfl, ifT rfl (fx fun n e => by cases e)⟩
                  | _ => exact ifT rfl (fx fun n e => by cases e)
              · have hk := Bool.eq_false_iff.mpr hk
                rw [hk]
                refine ifF rfl ⟨_, xr, dr, true, rfl, s4, w4, r4, small, drl, ?_⟩
                rw [fits_word hf hk hl dt hb, Bool.and_true]
            · rintro σ4 H4 ⟨y5, ws, es, bb, rfl, s4, w4, r4, small, hel, hfit⟩
              rw [Bool.and_true] at hfit
              rw [hfit] at k
              have hwl2 := r4.len
              refine ⟨_, rfl, wl, rfl, ⟨_, .inl (.inl w4)⟩, ?_⟩
              refine for_it (walk_list (xs := ws)) (fun i σ G => (∃ y6 : Option V, σ = [some (.ref p), some (.ref tl), some (.int at'), some (.ref fd'), some (.ref wl), y5, y6, none]) ∧ Same H4 G ∧ (es.take i).all isWord = true) ⟨⟨_, rfl⟩, Same.refl _, rfl⟩ (fun i σ G _ z => .inl (.inl (z.2.1 _ _ w4))) ?_ ?_
              · rintro i x σ G1 G hi ⟨⟨y6, rfl⟩, sG, hall⟩ ⟨rfl, hx⟩
                obtain ⟨e, he1, he2⟩ := r4.get hx
                have he2 := he2.mono sG
                have bad : isWord e = false → ∀ G', Same G G' → Q (.bl false) G' := fun h G' s' => by
                  have : es.all isWord = false := Bool.eq_false_iff.mpr fun z => by
                    have := List.all_eq_true.mp z e (List.mem_of_getElem? he1)
                    rw [h] at this
                    cases this
                  rw [this] at k
                  exact k _ ((s4.trans sG).trans s')
                refine ⟨_, rfl, x, _, _, _, _, rfl, .ty _, ty_dp he2, kit_str e, _, rfl, ?_⟩
                cases he2 with
                | str z =>
                  refine ifF rfl ?_
                  refine chain_le _ (fun Q q => q) (fun Q q => ⟨_, rfl, z, rfl, Evl.sz_of (small _ (List.mem_of_getElem? he1) z rfl), q⟩) (fun Q q => q) ⟨_, rfl, ?_⟩
                  by_cases c : (1 : Int) ≤ (z.length : Int) ∧ (z.length : Int) ≤ 8
                  · rw [decide_eq_true c]
                    refine ifF rfl ?_
                    have eL : decide (1 ≤ z.length ∧ z.length ≤ 8) = true := decide_eq_true (by omega)
                    refine ⟨_, rfl, z, rfl, fun D hD => ?_⟩
                    refine lc_it walk_str (fun i G' => Same G G' ∧ G' D = some (.lst ((z.cps.toList.take i).map fun c => V.bl (decide (c ∈ letters.cps.toList))))) ⟨Same.new hD, upd_same⟩ (fun _ _ _ _ => trivial) ?_ ?_
                    · rintro i v G1 G2 hi ⟨s2, d2⟩ ⟨rfl, c, hc, rfl⟩
                      have hc' : z.cps.toList[i]? = some c := by rw [Array.getElem?_toList]; exact hc
                      refine ⟨rfl, _, rfl, c, letters, rfl, rfl, _, d2, lt_sz (by rw [List.length_map, List.length_take, Array.length_toList]; have : z.cps.size = z.length := rfl; omega), Same.updN s2 hD, ?_⟩
                      rw [upd_same, TS.take_one hc', List.map_append]
                      rfl
                    · rintro G2 ⟨s2, d2⟩
                      rw [List.take_of_length_le (by rw [Array.length_toList]; exact Nat.le_refl _)] at d2
                      refine ⟨D, _, rfl, .inl (.inl (.inl d2)), rfl, flat_bls _, _, rfl, ?_⟩
                      rw [inV_bls]
                      by_cases m : z.cps.toList.all (fun c => decide (c ∈ letters.cps.toList)) = true
                      · rw [m]
                        refine ifF rfl ⟨⟨_, rfl⟩, sG.trans s2, ?_⟩
                        rw [TS.take_one he1, List.all_append, hall, List.all_cons, List.all_nil, show isWord (.str z) = true by show (_ && _) = true; rw [eL, m]; rfl]
                        rfl
                      · rw [Bool.eq_false_iff.mpr m]
                        refine ifT rfl (bad ?_ _ s2)
                        show (_ && _) = false
                        rw [Bool.eq_false_iff.mpr m, Bool.and_false]
                  · rw [decide_eq_false c]
                    refine ifT rfl (bad ?_ _ (Same.refl _))
                    show (decide (1 ≤ z.length ∧ z.length ≤ 8) && _) = false
                    rw [decide_eq_false (by omega), Bool.false_and]
                | _ => exact ifT rfl (ifT rfl (bad rfl _ (Same.refl _)))
              · rintro σ G ⟨⟨y6, rfl⟩, sG, hall⟩
                rw [List.take_of_length_le (by omega)] at hall
                rw [hall] at k
                exact k _ (s4.trans sG)
        | _ => exact ifT rfl (no (dt.none_of rfl) _ s1)
    | _ => exact ifT rfl (no (dt.none_of rfl) _ s1)
end
end Op
set_option pp.maxSteps 500
namespace Op
open PySem L2 PyProof.Rows
theorem sqt_butL {K : PySem.W.Frag} {H H' : Hp} {a tl : Addr} {xs ys : List V} (h : SqT K H a xs) (b : But tl H H') (ht : H tl = some (.lst ys)) : SqT K H' a xs := by
  have hne : ∀ {o : HO}, H a = some o → o ≠ .lst ys → a ≠ tl := fun e hn z => by
    rw [z, ht] at e
    exact hn (Option.some.inj e).symm
  rcases h with (h | ⟨u, h⟩) | h
  · exact .inl (.inl (b _ _ h (hne h (fun e => by cases e))))
  · exact .inl (.inr ⟨u, b _ _ h (hne h (fun e => by cases e))⟩)
  · exact .inr h
theorem num_in {t : Tk} (h : Okt t) : inV (.str t.k) [.str "answer", .str "rang", .str "dropped"] = t.n.isSome := (inV_st t.k ["answer", "rang", "dropped"]).trans (num_iff h.c)
theorem new_in (t : Tk) : inV (.str t.k) [.str "asked", .str "set"] = isNew t := inV_st t.k ["asked", "set"]
theorem last_in (t : Tk) : inV (.str t.k) [.str "ended", .str "anew"] = isLast t := inV_st t.k ["ended", "anew"]
theorem isOut_in (t : Tk) : inV (.str t.k) [.str "begin", .str "answer", .str "rang", .str "signal"] = isOut t := inV_st t.k ["begin", "answer", "rang", "signal"]
theorem strV_snoc (zs : List Str) (z : Str) : zs.map V.str ++ [.str z] = (zs ++ [z]).map V.str := by rw [List.map_append]; rfl
theorem But.updN {x a : Addr} {H H' : Hp} {o : HO} (b : But x H H') (h : H a = none) : But x H (L2.upd H' a o) := fun c u e n => by rw [L2.upd_ne (ne_of_none e h)]; exact b c u e n
theorem isNew_n {t : Tk} (h : TkC t) {n : Nat} (hn : t.n = some n) : t.k ≠ "asked" ∧ t.k ≠ "set" ∧ isNew t = false := by
  cases h with
  | answer => exact ⟨(show ("answer" : Str) ≠ "asked" by decide +kernel), (show ("answer" : Str) ≠ "set" by decide +kernel), rfl⟩
  | rang => exact ⟨(show ("rang" : Str) ≠ "asked" by decide +kernel), (show ("rang" : Str) ≠ "set" by decide +kernel), rfl⟩
  | dropped => exact ⟨(show ("dropped" : Str) ≠ "asked" by decide +kernel), (show ("dropped" : Str) ≠ "set" by decide +kernel), rfl⟩
  | _ => cases hn
theorem enter_new {t : Tk} (hw : isNew t = true) : ∃ y : Str, enter t = (fun th => th ++ [y]) ∧ ((t.k = "asked" ∧ y = "ask") ∨ (t.k = "set" ∧ y = "timer")) := by
  have hw := of_decide_eq_true hw
  rcases List.mem_cons.mp hw with e | e
  · exact ⟨"ask", by funext th; unfold enter; rw [if_pos e], .inl ⟨e, rfl⟩⟩
  · have e := List.mem_singleton.mp e
    exact ⟨"timer", by funext th; unfold enter; rw [if_neg (by rw [e]; decide +kernel), if_pos e], .inr ⟨e, rfl⟩⟩
theorem enter_old {t : Tk} (hw : isNew t = false) (th : List Str) : enter t th = match t.n with | none => th | some n => th.set n "gone" := by
  have hnm := of_decide_eq_false hw
  unfold enter
  rw [if_neg fun e => hnm (by rw [e]; exact List.mem_cons_self), if_neg fun e => hnm (by rw [e]; exact List.mem_cons_of_mem _ List.mem_cons_self)]
  first | done | (cases t.n <;> rfl)
section
variable {P : Program} {w : World} {K : PySem.W.Frag} {mg : Str → Option Value} {base : Heap}
def spLEnter (K : PySem.W.Frag) : Sp := fun vs H Q _ => ∃ (v : V) (t : Tk) (tl : Addr) (th : List Str), vs = [v, .ref tl] ∧ Dp K H v t.d ∧ Okt t ∧ H tl = some (.lst (th.map V.str)) ∧ th.length < 10000 ∧ (∀ n, t.n = some n → n < th.length) ∧ ∀ H', But tl H H' → H' tl = some (.lst ((enter t th).map V.str)) → Q .non H'
theorem sc__law_enter : FnScope ["_law_token_here", "_law_things"] ["_law_token_here", "_law_things"] (defScope s__law_enter) := ⟨rfl, rfl, rfl, by decide +kernel, rfl, by decide +kernel, by decide +kernel⟩
theorem ok_lenter {f : Addr} {fd : FuncData} (F : Fun K "_law_enter" "_law_enter" s__law_enter f fd) (T : Txt mg) : FnOk P w K mg base CX0 1 f fd ["_law_token_here", "_law_things"] (spLEnter K) := by
  refine F.ok sc__law_enter (fun vs H Q E h => ?_) (fun cdv A outer s H vs Q E hr h => ?_)
  · obtain ⟨v, t, tl, th, rfl, _⟩ := h
    rfl
  · obtain ⟨v, t, tl, th, rfl, hd, hkt, htl, hth, hin, k⟩ := h
    have hu := hu_of hr
    obtain ⟨a, rfl, hq⟩ := tk_at hd
    refine ⟨_, (Evl.pss_cut (ps_if (pt_cmpR op_in_seq (pe_ix ix_tup (pv 0) pe_int (fun _ _ => rfl)) (pe_tup (pa_cons pe_str (pa_cons pe_str pa_nil))) (by rfl)) (pss_one (ps_expr (pe_bm PySem.F.plainAttrs_list PySem.F.slot_list_append PySem.F.type_list_append mt_append (pv 1) (pa_cons (pe_dget hu (pe_disp (pps_cons pe_str pe_str (pps_cons pe_str pe_str pps_nil)) (by rfl) (by rfl) (fun z => by cases z) (by decide)) (pe_ix ix_tup (pv 0) pe_int (fun _ _ => rfl)) (fun _ _ => rfl)) pa_nil)))) pss_nil)
      (pss_one (ps_if (pt_cmpR op_in_seq (pe_ix ix_tup (pv 0) pe_int (fun _ _ => rfl)) (pe_tup (pa_cons pe_str (pa_cons pe_str (pa_cons pe_str pa_nil)))) (by rfl)) (pss_one (ps_asg pe_str (pg_sub (pv 1) (pe_ix ix_tup (pv 0) pe_int (fun _ _ => rfl)) set_list))) pss_nil))), ?_⟩
    refine ⟨fun σ' H1 => σ' = [some (.ref a), some (.ref tl)] ∧ But tl H H1 ∧ SqT K H1 a t.vs ∧ H1 tl = some (.lst ((if isNew t = true then enter t th else th).map V.str)), ?_, ?_⟩
    · refine ⟨_, rfl, a, _, 0, _, rfl, rfl, hq, atI_zero _ _, sz2 _ _, fun o1 ho1 => ⟨o1, _, rfl, .inr (.inl (.inl upd_same)), rfl, flat_strs ["asked", "set"], _, rfl, ?_⟩⟩
      rw [new_in]
      have so := Same.new (o := .tup [.str "asked", .str "set"]) ho1
      have q1 := hq.mono so
      have t1 := so _ _ htl
      revert so q1 t1
      generalize upd H o1 _ = H1
      intro so q1 t1
      by_cases hw : isNew t = true
      · rw [if_pos hw, hw]
        obtain ⟨y, e1, e2⟩ := enter_new hw
        refine ifT rfl ⟨_, rfl, .inl ⟨rfl, _, .inl (.inl t1)⟩, ?_⟩
        refine fun dd hdd => ⟨upd_same, [(.inr "asked", .str "ask"), (.inr "set", .str "timer")], rfl, by show 2 ≤ 15; decide, ?_⟩
        rw [show mergeK [] [((.inr "asked" : Key), V.str "ask"), (.inr "set", .str "timer")] = [((.inr "asked" : Key), V.str "ask"), (.inr "set", .str "timer")] by first | rfl | kernel_rfl]
        have sd : Same H1 (upd (upd H1 dd (.dK [])) dd (.dK [((.inr "asked" : Key), V.str "ask"), (.inr "set", .str "timer")])) := fun b o hb => by
          have hne := ne_of_none hb hdd
          rw [L2.upd_ne hne, L2.upd_ne hne]
          exact hb
        have hdk : upd (upd H1 dd (.dK [])) dd (.dK [((.inr "asked" : Key), V.str "ask"), (.inr "set", .str "timer")]) dd = some (.dK [((.inr "asked" : Key), V.str "ask"), (.inr "set", .str "timer")]) := upd_same
        have t2 := sd _ _ t1
        have q2 := q1.mono sd
        have s2 := so.trans sd
        revert hdk t2 q2 s2
        generalize upd (upd H1 dd (.dK [])) dd _ = H2
        intro hdk t2 q2 s2
        have hget : DGet H2 dd (.str t.k) (some (.str y)) := by
          rcases e2 with ⟨e2, e3⟩ | ⟨e2, e3⟩
          · rw [e2, e3]; exact DGet.k (k := (.inr "asked" : Key)) hdk
          · rw [e2, e3]; exact DGet.k (k := (.inr "set" : Key)) hdk
        refine ⟨_, rfl, a, _, 0, _, rfl, rfl, q2, atI_zero _ _, dd, _, rfl, hget, tl, _, _, rfl, rfl, t2, lt_sz (by rw [List.length_map]; omega), ⟨rfl, (Same.but s2).upd, sqt_updL q2 t2, ?_⟩⟩
        rw [upd_same, strV_snoc, e1]
      · rw [if_neg hw, Bool.eq_false_iff.mpr hw]
        exact ifF rfl ⟨rfl, Same.but so, q1, t1⟩
    · rintro σ1 H1 ⟨rfl, b1, q1, t1⟩
      refine ⟨_, rfl, a, _, 0, _, rfl, rfl, q1, atI_zero _ _, sz_lit (by show 3 ≤ 100000; decide), fun o1 ho1 => ⟨o1, _, rfl, .inr (.inl (.inl upd_same)), rfl, flat_strs ["answer", "rang", "dropped"], _, rfl, ?_⟩⟩
      rw [num_in hkt]
      have so := Same.new (o := .tup [.str "answer", .str "rang", .str "dropped"]) ho1
      have q2 := q1.mono so
      have t2 := so _ _ t1
      have b2 := b1.trans (Same.but so)
      revert so q2 t2 b2
      generalize upd H1 o1 _ = H2
      intro so q2 t2 b2
      cases hn : t.n with
      | none =>
        refine ifF rfl (k _ b2 ?_)
        rw [t2]
        by_cases hw : isNew t = true
        · rw [if_pos hw]
        · rw [if_neg hw, enter_old (Bool.eq_false_iff.mpr hw), hn]
      | some n =>
        have hw := (isNew_n hkt.c hn).2.2
        rw [if_neg (by rw [hw]; exact Bool.false_ne_true)] at t2
        have hN := numQ q2 hn
        refine ifT rfl ⟨_, rfl, _, rfl, a, _, 1, _, rfl, rfl, hN, atI_one _ _ _, tl, _, _, n, rfl, rfl, t2, ixN_nat (by rw [List.length_map]; exact hin n hn), k _ b2.upd ?_⟩
        rw [upd_same, enter_old hw, hn]
        dsimp only
        rw [List.map_set]
theorem chkO_step {o : Option Tk} {r : List (Option Tk)} {i : Nat} {th : List Str} {ov : Bool} : (ov = true ∨ fitsO o th (i : Int) = false → chkO (o :: r) i th ov = some i) ∧ (∀ t, o = some t → ov = false → fitsO o th (i : Int) = true → chkO (o :: r) i th ov = chkO r (i + 1) (enter t th) (isLast t) ∧ suits t th = true) := by
  have hi : decide ((i : Int) = 0) = decide (i = 0) := decide_eq_decide.mpr ⟨fun h => by omega, fun h => by omega⟩
  constructor
  · intro h
    cases o with
    | none => rfl
    | some t =>
      unfold chkO
      by_cases hc : ov = true ∨ decide (t.k = "begin") ≠ decide (i = 0)
      · rw [if_pos hc]
      · rw [if_neg hc, if_neg]
        intro hs
        rcases h with h | h
        · exact hc (.inl h)
        · have h : (decide (decide (t.k = "begin") = decide ((i : Int) = 0)) && suits t th) = false := h
          rw [hs, Bool.and_true, hi] at h
          exact hc (.inr (of_decide_eq_false h))
  · rintro t rfl rfl h
    have h : (decide (decide (t.k = "begin") = decide ((i : Int) = 0)) && suits t th) = true := h
    rw [hi] at h
    obtain ⟨h1, h2⟩ := Bool.and_eq_true_iff.mp h
    refine ⟨?_, h2⟩
    conv => lhs; unfold chkO
    rw [if_neg, if_pos h2]
    rintro (z | z)
    · cases z
    · exact z (of_decide_eq_true h1)
def faultV : Option Nat → V
  | none => .non
  | some i => .int (i : Int)
def spLFault (K : PySem.W.Frag) : Sp := fun vs H Q _ => ∃ (l : Addr) (us : List V) (ds : List PyData) (os : List (Option Tk)), vs = [.ref l] ∧ H l = some (.lst us) ∧ DpAll K H us ds ∧ (∀ d ∈ ds, GD d) ∧ DTs ds os ∧ ds.length ≤ 1000 ∧ ∀ H', Same H H' → Q (faultV (chkO os 0 [] false)) H'
theorem sc__law_fault : FnScope ["_law_history_here", "_law_things", "_law_over", "_law_at"] ["_law_history_here"] (defScope s__law_fault) := ⟨rfl, rfl, rfl, by decide +kernel, rfl, by decide +kernel, by decide +kernel⟩
theorem ok_lfault {f : Addr} {fd : FuncData} (F : Fun K "_law_fault" "_law_fault" s__law_fault f fd) (T : Txt mg) (c__law_fits : Cal P w K mg base CX0 1 "_law_fits" ["_law_token_here", "_law_things", "_law_at"] (spLFits K)) (c__law_enter : Cal P w K mg base CX0 1 "_law_enter" ["_law_token_here", "_law_things"] (spLEnter K)) : FnOk P w K mg base CX0 2 f fd ["_law_history_here"] (spLFault K) := by
  refine F.ok sc__law_fault (fun vs H Q E h => ?_) (fun cdv A outer s H vs Q E hr h => ?_)
  · obtain ⟨l, us, ds, os, rfl, _⟩ := h
    rfl
  · obtain ⟨l, us, ds, os, rfl, hl, ht, hgd, hdt, hn, k⟩ := h
    have hul := ht.len
    have hol := hdt.len
    refine ⟨_, (pss_cons (ps_set (i := 1) sc__law_fault.nd rfl (.inl rfl) (pe_lst pa_nil))
      (pss_cons (ps_set (i := 2) sc__law_fault.nd rfl (.inl rfl) pe_bl)
      (pss_cons (ps_for PassesOwn.never rfl (pi_range1 (by rfl) T.b_range (pa_cons (pe_callB call_len_seq (by rfl) T.b_len (by decide +kernel) (pa_cons (pv 0) pa_nil)) pa_nil)) (pg_name (i := 3) sc__law_fault.nd rfl (.inl rfl)) (pss_cons (ps_if (PW.pt (pw_or (pt_val (pv 2)) (pw_or1 (pt_not (pt_val (pe_cal c__law_fits (hr.mono (by omega)) rfl pass0 (pa_cons (pe_ix ix_list (pv 0) (pv 3) (fun _ _ => rfl)) (pa_cons (pv 1) (pa_cons (pv 3) pa_nil))))))))) (pss_one (ps_ret (pv 3))) pss_nil)
      (pss_cons (ps_expr (pe_cal c__law_enter (hr.mono (by omega)) rfl pass0 (pa_cons (pe_ix ix_list (pv 0) (pv 3) (fun _ _ => rfl)) (pa_cons (pv 1) pa_nil))))
      (pss_one (ps_set (i := 2) sc__law_fault.nd rfl (.inl rfl) (pe_cmpR op_in_seq (pe_ix ix_tup (pe_ix ix_list (pv 0) (pv 3) (fun _ _ => rfl)) pe_int (fun _ _ => rfl)) (pe_tup (pa_cons pe_str (pa_cons pe_str pa_nil))) (by rfl)))))))
      (pss_one (ps_ret pe_non))))), ?_⟩
    refine ⟨sz_lit (by decide), fun q hq => ?_⟩
    have s1 : Same H (upd H q (.lst [])) := Same.new hq
    have c1 : upd H q (.lst []) q = some (.lst (([] : List Str).map V.str)) := upd_same
    revert s1 c1
    generalize upd H q (.lst []) = H1
    intro s1 c1
    have nlq : l ≠ q := fun e => by rw [← e, hl] at hq; cases hq
    refine ⟨_, rfl, l, us, rfl, .inl (.inl (.inl (s1 _ _ hl))), (us.length : Int), rfl, by omega, by omega, ?_⟩
    rw [Int.toNat_natCast]
    refine for_it (walk_range (lo := 0) (n := us.length)) (fun i σ H' => ∃ (th : List Str) (ov : Bool) (y3 : Option V), σ = [some (.ref l), some (.ref q), some (.bl ov), y3] ∧ Same H H' ∧ H' q = some (.lst (th.map V.str)) ∧ chkO os 0 [] false = chkO (os.drop i) i th ov ∧ th.length ≤ i) ⟨[], false, _, rfl, s1, c1, rfl, Nat.le_refl _⟩ (fun _ _ _ _ _ => trivial) ?_ ?_
    · rintro i x σ H3 H2 hi ⟨th, ov, y3, rfl, s2, h2, h3, h4⟩ ⟨rfl, rfl⟩
      have zi : (0 : Int) + (i : Int) = i := by omega
      have hv : us[i]? = some (us[i]'hi) := List.getElem?_eq_getElem hi
      obtain ⟨d, hd1, hd⟩ := ht.get hv
      obtain ⟨o, ho1, hdo⟩ := hdt.get hd1
      have hgdd := hgd d (List.mem_of_getElem? hd1)
      rw [drop_one ho1] at h3
      obtain ⟨st1, st2⟩ := chkO_step (o := o) (r := os.drop (i + 1)) (i := i) (th := th) (ov := ov)
      have ans : ∀ H', (ov = true ∨ fitsO o th (i : Int) = false) → Same H H' → Q (.int ((0 : Int) + (i : Nat))) H' := fun H' h s' => by
        have := k H' s'
        rw [h3, st1 h] at this
        rw [zi]
        exact this
      refine ⟨_, rfl, _, rfl, ?_⟩
      cases ov with
      | true => exact ifT rfl (ifT rfl ⟨_, rfl, ans _ (.inl rfl) s2⟩)
      | false =>
      refine ifF rfl ⟨_, rfl, _, rfl, l, us, _, _, rfl, rfl, .inl (.inl (s2 _ _ hl)), by rw [zi]; exact atI_nat hv, _, rfl, _, rfl, _, q, _, d, o, th, rfl, hd.mono s2, hgdd, hdo, h2, by omega, fun H4 s4 => ⟨_, rfl, ?_⟩⟩
      rw [zi]
      have s24 := s2.trans s4
      by_cases hf : fitsO o th (i : Int) = true
      case neg =>
        rw [Bool.eq_false_iff.mpr hf]
        exact ifT rfl ⟨_, rfl, ans _ (.inr (Bool.eq_false_iff.mpr hf)) s24⟩
      rw [hf]
      cases o with
      | none => cases hf
      | some t =>
        obtain ⟨hkt, rfl⟩ := hdo
        obtain ⟨st3, hs⟩ := st2 t rfl rfl hf
        have hin : ∀ n, t.n = some n → n < th.length := fun n hn => by
          unfold suits at hs
          rw [hn] at hs
          dsimp only at hs
          cases z : th[n]? with
          | none => rw [z] at hs; cases hs
          | some x => exact (List.getElem?_eq_some_iff.mp z).1
        have h5 := s4 _ _ h2
        refine ifF rfl ⟨_, rfl, _, rfl, l, us, _, _, rfl, rfl, .inl (.inl (s24 _ _ hl)), by rw [zi]; exact atI_nat hv, _, rfl, _, t, q, th, rfl, hd.mono s24, hkt, h5, by omega, hin, fun H5 b5 g5 => ?_⟩
        have s5 : Same H H5 := fun b o hb => b5 b o (s24 b o hb) fun e => by rw [e, hq] at hb; cases hb
        obtain ⟨a, ea, hqa⟩ := tk_at (hd.mono s5)
        have hva : us[i]? = some (.ref a) := by rw [hv, ea]
        refine ⟨_, rfl, _, rfl, l, us, _, _, rfl, rfl, .inl (.inl (s5 _ _ hl)), by rw [zi]; exact atI_nat hva, a, _, 0, _, rfl, rfl, hqa, atI_zero _ _, sz2 _ _, fun o1 ho1 => ⟨o1, _, rfl, .inr (.inl (.inl upd_same)), rfl, flat_strs ["ended", "anew"], ?_⟩⟩
        have e1 : inV (.str t.k) [.str "ended", .str "anew"] = isLast t := last_in t
        show ∃ (th' : List Str) (ov' : Bool) (y : Option V), _
        have h6 := enter_len t th
        exact ⟨enter t th, isLast t, _, by rw [← e1]; rfl, s5.trans (Same.new ho1), Same.new ho1 _ _ g5, h3.trans st3, by omega⟩
    · rintro σ H' ⟨th, ov, y3, rfl, s2, h2, h3, h4⟩
      rw [List.drop_of_length_le (by omega)] at h3
      have := k H' s2
      rw [h3] at this
      exact this
end
end Op
set_option pp.maxSteps 500
namespace Op
open PySem L2 PyProof.Rows
theorem okt_klen {t : Tk} (h : Okt t) : t.k.length ≤ 100000 := by
  obtain ⟨f, h1, _⟩ := h
  have h2 : ∀ p ∈ forms, p.1.length ≤ 100000 := by decide +kernel
  exact h2 _ (look_mem h1)
theorem smK_tk {t : Tk} (h : Okt t) {n : Nat} : smK (n + 2) t.d := by
  refine ⟨?_, fun d hd => ?_⟩
  · have := h.c
    cases this <;> exact Nat.le_of_ble_eq_true rfl
  · rcases List.mem_cons.mp hd with rfl | hd
    · exact okt_klen h
    · have hs := okt_short h _ _ rfl
      have hp := hd
      unfold Tk.parts at hd
      rcases List.mem_append.mp hd with hd | hd
      · obtain ⟨n, _, rfl⟩ := List.mem_map.mp hd
        trivial
      · obtain ⟨z, _, rfl⟩ := List.mem_map.mp hd
        exact hs z hp
theorem word_ok {w : Str} (h : isWordS w = true) : PyData.canLay0 (.str w) = true := by
  have h2 := (Bool.and_eq_true_iff.mp h).2
  have h3 : ∀ c ∈ letters.cps.toList, c < 0x110000 := by decide +kernel
  simp only [PyData.canLay0]
  show w.cps.all _ = true
  rw [← Array.all_toList]
  exact List.all_eq_true.mpr fun c hc => decide_eq_true (h3 c (of_decide_eq_true (List.all_eq_true.mp h2 c hc)))
theorem key_ok {t : Tk} (h : Okt t) : PyData.canLay0 (.str t.k) = true := by
  obtain ⟨f, h1, _⟩ := h
  have h2 : ∀ p ∈ forms, PyData.canLay0 (.str p.1) = true := by decide +kernel
  exact h2 _ (look_mem h1)
theorem lay_words : ∀ ws : List Str, (∀ w ∈ ws, isWordS w = true) → PyData.canLayAll0 (ws.map .str) = true ∧ PyData.depthAll (ws.map .str) ≤ 1
  | [], _ => ⟨by simp [PyData.canLayAll0], by simp [PyData.depthAll]⟩
  | x :: r, h => by
    have g := lay_words r fun w hw => h w (List.mem_cons_of_mem _ hw)
    have hx := word_ok (h x List.mem_cons_self)
    refine ⟨by simp [PyData.canLayAll0, hx, g.1], ?_⟩
    have h2 := g.2
    simp only [List.map_cons, PyData.depthAll, PyData.depth]
    omega
theorem lay_tk {t : Tk} (h : Okt t) : PyData.canLay0 t.d = true ∧ PyData.depth t.d ≤ 2 := by
  have hk := key_ok h
  obtain ⟨f, _, _, hw⟩ := id h
  have g := lay_words t.ws hw
  have e : t.d = .tuple (.str t.k :: ((t.n.toList.map fun n : Nat => PyData.int (n : Int)) ++ t.ws.map .str)) := rfl
  rw [e]
  have g2 := g.2
  cases t.n with
  | none =>
    show PyData.canLay0 (.tuple (.str t.k :: t.ws.map .str)) = true ∧ PyData.depth (.tuple (.str t.k :: t.ws.map .str)) ≤ 2
    refine ⟨by simp [PyData.canLay0, PyData.canLayAll0, g.1] at hk ⊢; exact hk, ?_⟩
    simp only [PyData.depthAll, PyData.depth]
    omega
  | some n =>
    show PyData.canLay0 (.tuple (.str t.k :: .int (n : Int) :: t.ws.map .str)) = true ∧ PyData.depth (.tuple (.str t.k :: .int (n : Int) :: t.ws.map .str)) ≤ 2
    refine ⟨by simp [PyData.canLay0, PyData.canLayAll0, g.1] at hk ⊢; exact hk, ?_⟩
    simp only [PyData.depthAll, PyData.depth]
    omega
theorem lay_tks : ∀ ts : List Tk, (∀ t ∈ ts, Okt t) → PyData.canLayAll0 (ts.map Tk.d) = true ∧ PyData.depthAll (ts.map Tk.d) ≤ 2
  | [], _ => ⟨by simp [PyData.canLayAll0], by simp [PyData.depthAll]⟩
  | x :: r, h => by
    have g := lay_tks r fun w hw => h w (List.mem_cons_of_mem _ hw)
    have hx := lay_tk (h x List.mem_cons_self)
    refine ⟨by simp [PyData.canLayAll0, hx.1, g.1], ?_⟩
    have h2 := g.2
    have h3 := hx.2
    simp only [List.map_cons, PyData.depthAll]
    omega
theorem tks_shaped {ts : List Tk} (h : ∀ t ∈ ts, Okt t) : SeqAt.shaped (.list (ts.map Tk.d)) = true ∧ PyData.eqv (.list (ts.map Tk.d)) (.list (ts.map Tk.d)) = true := by
  have g := lay_tks ts h
  have g2 := g.2
  have c : PyData.canLay0 (.list (ts.map Tk.d)) = true := by simp only [PyData.canLay0]; exact g.1
  refine ⟨?_, SeqAt.eqv_refl _ c⟩
  show (PyData.canLay0 (.list (ts.map Tk.d)) && decide (PyData.depth (.list (ts.map Tk.d)) ≤ 64)) = true
  rw [Bool.and_eq_true]
  refine ⟨c, decide_eq_true ?_⟩
  simp only [PyData.depth]
  omega
theorem TT.ps {K : PySem.W.Frag} {H0 H : Hp} {q : Addr} {tss : List (List Tk)} {ps : List Addr} (h : TT K H0 H q tss) (hq : H q = some (.lst (ps.map V.ref))) : ps.length = tss.length ∧ (∀ p ∈ ps, ∃ vs, H p = some (.lst vs)) ∧ q ∉ ps := by
  obtain ⟨ps', g1, g2, g3, g4, g5, g6, g7⟩ := h
  obtain rfl : ps' = ps := by
    rw [hq] at g1
    injection g1 with g1
    injection g1 with g1
    exact (List.map_inj_right (fun a b e => by injection e)).mp g1.symm
  refine ⟨g6, fun p hp => ?_, g4⟩
  obtain ⟨j, hj⟩ := List.getElem?_of_mem hp
  have hjl := (List.getElem?_eq_some_iff.mp hj).1
  obtain ⟨ws, z, _⟩ := g7 j p _ hj (List.getElem?_eq_getElem (by omega))
  exact ⟨ws, z⟩

theorem TT.monoS {K : PySem.W.Frag} {H0 H H' : Hp} {q : Addr} {tss : List (List Tk)} (h : TT K H0 H q tss) (s : Same H H') : TT K H0 H' q tss := by
  obtain ⟨ps, h1, h2, h3, h4, h5, h6, h7⟩ := h
  refine ⟨ps, s _ _ h1, h2, h3, h4, h5, h6, fun i p ts e1 e2 => ?_⟩
  obtain ⟨vs, h8, h9⟩ := h7 i p ts e1 e2
  exact ⟨vs, s _ _ h8, h9.mono s⟩
theorem len_flatX {α : Type} {tss : List (List α)} {ts : List α} (h : ts ∈ tss) : ts.length ≤ tss.flatten.length := by
  induction tss with
  | nil => cases h
  | cons a r ih =>
    rw [List.flatten_cons, List.length_append]
    rcases List.mem_cons.mp h with rfl | h
    · omega
    · have := ih h
      omega
theorem gd_tok {t : Tk} (h : Okt t) : GD t.d := by
  obtain ⟨h1, h2⟩ := lay_tk h
  refine ⟨okt_short h, h1, by omega, smK_tk h, fun ds e x hx => ?_⟩
  have e' : PyData.tuple (.str t.k :: t.parts) = .tuple ds := e
  injection e' with e'
  subst e'
  rcases List.mem_cons.mp hx with rfl | hx
  · unfold noL; rfl
  · unfold Tk.parts at hx
    rcases List.mem_append.mp hx with hx | hx
    · obtain ⟨n, _, rfl⟩ := List.mem_map.mp hx
      unfold noL; rfl
    · obtain ⟨n, _, rfl⟩ := List.mem_map.mp hx
      unfold noL; rfl
section
variable {P : Program} {w : World} {K : PySem.W.Frag} {mg : Str → Option Value} {base : Heap}
theorem sc__law_turns : FnScope ["_law_history_here", "_law_turns_here", "_law_token_here"] ["_law_history_here"] (defScope s__law_turns) := ⟨rfl, rfl, rfl, by decide +kernel, rfl, by decide +kernel, by decide +kernel⟩
theorem ok_lturns {f : Addr} {fd : FuncData} (F : Fun K "_law_turns" "_law_turns" s__law_turns f fd) (T : Txt mg) : FnOk P w K mg base CX0 1 f fd ["_law_history_here"] (spSplit K) := by
  refine F.ok sc__law_turns (fun vs H Q E h => ?_) (fun cdv A outer s H vs Q E hr h => ?_)
  · obtain ⟨l, us, ts, rfl, _⟩ := h
    rfl
  · obtain ⟨l, us, ts, rfl, hl, ht, hn, h0, k⟩ := h
    have hul := ht.len
    refine ⟨_, (pss_cons (ps_set (i := 1) sc__law_turns.nd rfl (.inl rfl) (pe_lst pa_nil))
      (pss_cons (ps_for PassesOwn.never rfl (pi_list (pv 0)) (pg_name (i := 2) sc__law_turns.nd rfl (.inl rfl)) (Evl.pss_cut (ps_if (pt_cmpR op_in_seq (pe_ix ix_tup (pv 2) pe_int (fun _ _ => rfl)) (pe_tup (pa_cons pe_str (pa_cons pe_str (pa_cons pe_str (pa_cons pe_str pa_nil))))) (by rfl)) (pss_one (ps_expr (pe_bm PySem.F.plainAttrs_list PySem.F.slot_list_append PySem.F.type_list_append mt_append (pv 1) (pa_cons (pe_lst pa_nil) pa_nil)))) pss_nil)
      (pss_one (ps_expr (pe_bm PySem.F.plainAttrs_list PySem.F.slot_list_append PySem.F.type_list_append mt_append (pe_ix ix_list (pv 1) (pe_op op_sub (pe_callB call_len_seq (by rfl) T.b_len (by decide +kernel) (pa_cons (pv 1) pa_nil)) pe_int) (fun _ _ => rfl)) (pa_cons (pv 2) pa_nil))))))
      (pss_one (ps_ret (pv 1))))), ?_⟩
    refine ⟨sz_lit (by show 0 ≤ 100000; decide), fun q hq => ?_⟩
    have s1 : Same H (upd H q (.lst [])) := Same.new hq
    have q1 : upd H q (.lst []) q = some (.lst []) := upd_same
    revert s1 q1
    generalize upd H q (.lst []) = H1
    intro s1 q1
    refine ⟨_, rfl, l, rfl, ⟨_, .inl (.inl (s1 _ _ hl))⟩, ?_⟩
    refine for_it (walk_list (xs := us)) (fun i σ H' => (∃ y2 : Option V, σ = [some (.ref l), some (.ref q), y2]) ∧ Same H H' ∧ TT K H H' q (split (ts.take i))) ⟨⟨_, rfl⟩, s1, TT.nil q1 hq⟩ (fun i σ H' _ z => .inl (.inl (z.2.1 _ _ hl))) ?_ ?_
    · rintro i x σ H'' H' hi ⟨⟨y2, rfl⟩, s2, t2⟩ ⟨rfl, hx⟩
      obtain ⟨t, h1, hd⟩ := ht.get hx
      have hst : split (ts.take (i + 1)) = splitA (split (ts.take i)) t := by
        unfold split
        rw [TS.take_one h1, List.foldl_append]
        rfl
      obtain ⟨a, rfl, hqa⟩ := tk_at (hd.mono s2)
      have hsl : (split (ts.take i)).length ≤ i := by
        have := split_len (ts.take i) []
        rw [List.length_take] at this
        have e : (split (ts.take i)).length ≤ 0 + min i ts.length := this
        omega
      refine ⟨fun σ' H5 => ∃ (ps : List Addr) (tss : List (List Tk)), σ' = [some (.ref l), some (.ref q), some (.ref a)] ∧ Same H H5 ∧ SqT K H5 a t.vs ∧ TT K H H5 q tss ∧ H5 q = some (.lst (ps.map V.ref)) ∧ tss ≠ [] ∧ tss.length ≤ i + 1 ∧ tss.dropLast ++ [tss.getLastD [] ++ [t]] = split (ts.take (i + 1)) ∧ (tss.getLastD []).length ≤ 1000, ?_, ?_⟩
      · refine ⟨_, rfl, a, _, 0, _, rfl, rfl, hqa, atI_zero _ _, sz_lit (by show 4 ≤ 100000; decide), fun p hp => ⟨p, _, rfl, .inr (.inl (.inl upd_same)), rfl, flat_strs ["begin", "answer", "rang", "signal"], _, rfl, ?_⟩⟩
        rw [isOut_in]
        have sp := Same.new (o := .tup [.str "begin", .str "answer", .str "rang", .str "signal"]) hp
        have s5 := s2.trans sp
        have q5 := hqa.mono sp
        have t5 : TT K H (upd H' p (.tup [.str "begin", .str "answer", .str "rang", .str "signal"])) q (split (ts.take i)) := TT.monoS t2 sp
        revert s5 q5 t5
        generalize upd H' p _ = H5
        intro s5 q5 t5
        obtain ⟨ps, p1, _⟩ := id t5
        have hps := t5.ps p1
        by_cases ho : isOut t = true
        · rw [ho]
          refine ifT rfl ⟨_, rfl, .inl ⟨rfl, _, .inl (.inl p1)⟩, sz_lit (by decide), fun p2 hp2 => ?_⟩
          have sp2 := Same.new (o := .lst []) hp2
          refine ⟨q, _, _, rfl, rfl, sp2 _ _ p1, lt_sz (by rw [List.length_map]; omega), ?_⟩
          refine ⟨ps ++ [p2], split (ts.take i) ++ [[]], rfl, Same.updN (s5.trans sp2) hq, sqt_updL (q5.mono sp2) (sp2 _ _ p1), (TT.monoS t5 sp2).push (sp2 _ _ p1) upd_same (fun hm => ?_) (fun e => by rw [e, p1] at hp2; cases hp2) (new_of s5 hp2) .nil, by rw [upd_same, List.map_append]; rfl, by simp, by rw [List.length_append]; exact Nat.succ_le_succ hsl, ?_, by rw [List.getLastD_concat]; decide⟩
          · obtain ⟨vs, hv⟩ := hps.2.1 p2 hm
            rw [hv] at hp2; cases hp2
          · rw [List.dropLast_concat, List.getLastD_concat, hst]
            unfold splitA
            rw [if_pos ho]
            rfl
        · have hi0 : i ≠ 0 := fun e => ho (h0 t (e ▸ h1))
          have h0' : ∀ t', (ts.take i)[0]? = some t' → isOut t' = true := fun t' e => h0 t' (by rw [List.getElem?_take, if_pos (by omega)] at e; exact e)
          have hne : split (ts.take i) ≠ [] := split_ne (fun e => by
            have := congrArg List.length e
            rw [List.length_take, List.length_nil] at this
            omega) h0'
          rw [Bool.eq_false_iff.mpr ho]
          refine ifF rfl ⟨ps, split (ts.take i), rfl, s5, q5, t5, p1, hne, by omega, ?_, ?_⟩
          · rw [hst]
            unfold splitA
            rw [if_neg ho]
          · have e1 : (split (ts.take i)).flatten = ts.take i := split_flat h0'
            have hm : (split (ts.take i)).getLastD [] ∈ split (ts.take i) := by
              obtain ⟨x, hx⟩ : ∃ x, (split (ts.take i)).getLast? = some x := ⟨_, List.getLast?_eq_some_getLast hne⟩
              rw [List.getLastD_eq_getLast?, hx]
              rw [List.getLast?_eq_getElem?] at hx
              exact List.mem_of_getElem? hx
            have := len_flatX hm
            rw [e1, List.length_take] at this
            omega
      · rintro σ' H5 ⟨ps, tss, rfl, s5, q5, t5, p1, hne, htl, hsp, hgl⟩
        have hps := (t5.ps p1).1
        obtain ⟨p, hp⟩ : ∃ p, ps.getLast? = some p := by
          cases z : ps.getLast? with
          | some p => exact ⟨p, rfl⟩
          | none =>
            rw [List.getLast?_eq_none_iff] at z
            rw [z] at hps
            exact absurd (List.length_eq_zero_iff.mp hps.symm) hne
        have hp' := hp
        rw [List.getLast?_eq_getElem?] at hp'
        obtain ⟨ws, w1, w2, w3, w4⟩ := t5.last p1 hp (tk_dp q5)
        have w3' := w3.len
        have hpl : 0 < ps.length := by
          rw [hps]
          exact List.length_pos_iff.mpr hne
        refine ⟨_, rfl, _, rfl, q, _, rfl, .inl (.inl (.inl p1)), _, _, rfl, rfl, q, _, ((ps.length - 1 : Nat) : Int), .ref p, rfl, congrArg V.int (by rw [List.length_map]; omega), .inl (.inl p1), atI_nat (by rw [List.getElem?_map, hp']; rfl), ?_⟩
        refine ⟨.inl ⟨rfl, _, .inl (.inl w1)⟩, _, rfl, p, _, _, rfl, rfl, w1, lt_sz (by omega), ?_⟩
        refine ⟨⟨_, rfl⟩, Same.updN s5 w2, ?_⟩
        rw [← hsp]
        exact w4
    · rintro σ H' ⟨⟨y2, rfl⟩, s2, t2⟩
      rw [List.take_of_length_le (by omega)] at t2
      exact ⟨_, rfl, k q H' s2 t2⟩
end
end Op
set_option pp.maxSteps 500
namespace Op
open PySem L2 PyProof.Rows
theorem cut_takeK (xs : List V) (n : Nat) : cutV xs none (some (n : Int)) = xs.take n := by
  unfold cutV
  rw [HT.sIx_nat, HT.sIx_none, List.drop_zero, Nat.sub_zero]
  rcases Nat.le_total n xs.length with h | h
  · rw [Nat.min_eq_left h]
  · rw [Nat.min_eq_right h, List.take_of_length_le (Nat.le_refl _), List.take_of_length_le h]
theorem dps_takeK {K : PySem.W.Frag} {H : Hp} : ∀ {vs : List V} {ds : List PyData} (n : Nat), DpAll K H vs ds → DpAll K H (vs.take n) (ds.take n)
  | _, _, 0, _ => .nil
  | _, _, _ + 1, .nil => .nil
  | _, _, n + 1, .cons h a => .cons h (dps_takeK n a)
theorem tksButL {K : PySem.W.Frag} {H H' : Hp} {tl : Addr} {ys : List V} (b : But tl H H') (hD : H tl = some (.lst ys)) : ∀ {vs : List V} {ts : List Tk}, Tks K H vs ts → Tks K H' vs ts
  | _, [], .nil => .nil
  | _, t :: r, .cons h1 h2 => .cons (by obtain ⟨a, rfl, hq⟩ := tk_at h1; exact tk_dp (sqt_butL hq b hD)) (tksButL b hD (ts := r) h2)
theorem pl_ne {H : Hp} {p c a : Addr} {xs : List V} (pl : Pl H p c) (h : H a = some (.lst xs)) : a ≠ p := fun e => by
  obtain ⟨_, hk⟩ := pl.at
  rw [e, hk] at h
  cases h
theorem pl_butL {H H' : Hp} {p c tl : Addr} {xs : List V} (pl : Pl H p c) (h : H tl = some (.lst xs)) (hc : tl ≠ c) (b : But tl H H') : Pl H' p c := by
  have hp := pl_ne pl h
  obtain ⟨a, r, sd, m, ns, h1, h2, h3⟩ := pl
  exact ⟨a, r, sd, m, ns, b _ _ h1 (Ne.symm hp), b _ _ h2 (Ne.symm hc), h3⟩
structure LF (K : PySem.W.Frag) (H : Hp) (p c l tl : Addr) (us : List V) (ts : List Tk) (th : List Str) : Prop where
  pl : Pl H p c
  hl : H l = some (.lst us)
  tk : Tks K H us ts
  ok : ∀ t ∈ ts, Okt t
  ht : H tl = some (.lst (th.map V.str))
  n1 : l ≠ tl
  n2 : l ≠ c
  n3 : tl ≠ c
section
variable {K : PySem.W.Frag} {H H' : Hp} {p c l tl : Addr} {us : List V} {ts : List Tk} {th : List Str}
theorem LF.but (h : LF K H p c l tl us ts th) (b : But p H H') (pl : Pl H' p c) : LF K H' p c l tl us ts th :=
  ⟨pl, b _ _ h.hl (pl_ne h.pl h.hl), DpAll.kp (h.pl.kp b) h.tk, h.ok, b _ _ h.ht (pl_ne h.pl h.ht), h.n1, h.n2, h.n3⟩
theorem LF.same (h : LF K H p c l tl us ts th) (s : Same H H') : LF K H' p c l tl us ts th := h.but (Same.but s) (h.pl.mono s)
theorem LF.len (h : LF K H p c l tl us ts th) : us.length = ts.length := Tks.len h.tk
theorem LF.push {v : V} {t : Tk} (h : LF K H p c l tl us ts th) (hd : Dp K H v t.d) (ht : Okt t) : LF K (upd H l (.lst (us ++ [v]))) p c l tl (us ++ [v]) (ts ++ [t]) th :=
  ⟨h.pl.put (pl_ne h.pl h.hl) h.n2, upd_same, Tks.updL h.hl (Tks.app h.tk (Tks.one hd)), fun x hx => by
    rcases List.mem_append.mp hx with hx | hx
    · exact h.ok x hx
    · rw [List.mem_singleton.mp hx]; exact ht, by rw [L2.upd_ne (Ne.symm h.n1)]; exact h.ht, h.n1, h.n2, h.n3⟩
theorem LF.enters {t : Tk} (h : LF K H p c l tl us ts th) (b : But tl H H') (e : H' tl = some (.lst ((enter t th).map V.str))) : LF K H' p c l tl us ts (enter t th) :=
  ⟨pl_butL h.pl h.ht h.n3 b, b _ _ h.hl h.n1, tksButL b h.ht h.tk, h.ok, e, h.n1, h.n2, h.n3⟩
end
theorem rep2 {α : Type} (x : α) : (List.replicate (2 : Int).toNat [x]).flatten = [x, x] := rfl
section
variable {P : Program} {w : World} {K : PySem.W.Frag} {mg : Str → Option Value} {base : Heap}
def spLHistory (K : PySem.W.Frag) : Sp := fun vs H Q _ => ∃ (p c tl : Addr), vs = [.ref p, .ref tl] ∧ Pl H p c ∧ H tl = some (.lst []) ∧ tl ≠ c ∧ ∀ l us ds H', H' l = some (.lst us) → DpAll K H' us ds → (∀ d ∈ ds, GD d) → ds.length ≤ 70 → Q (.ref l) H'
theorem sc__law_history : FnScope ["_law_bag_here", "_law_things", "_law_history_here", "_law_k", "_law_token_here", "_law_place", "_law_way", "_law_odd_here", "_law_instead"] ["_law_bag_here", "_law_things"] (defScope s__law_history) := ⟨rfl, rfl, rfl, by decide +kernel, rfl, by decide +kernel, by decide +kernel⟩
theorem ok_lhistory {f : Addr} {fd : FuncData} (F : Fun K "_law_history" "_law_history" s__law_history f fd) (T : Txt mg) (c__law_draw : Cal P w K mg base CX0 1 "_law_draw" ["_law_bag_here", "_law_many"] spD) (c__law_one : Cal P w K mg base CX0 2 "_law_one" ["_law_bag_here", "_law_items"] (spOne K)) (c__law_word : Cal P w K mg base CX0 3 "_law_word" ["_law_bag_here"] spLWord) (c__law_token : Cal P w K mg base CX0 4 "_law_token" ["_law_bag_here", "_law_things"] (spLTok K)) (c__law_odd : Cal P w K mg base CX0 2 "_law_odd" ["_law_bag_here", "_law_things"] (spLOdd K)) (c__law_fits : Cal P w K mg base CX0 1 "_law_fits" ["_law_token_here", "_law_things", "_law_at"] (spLFits K)) (c__law_enter : Cal P w K mg base CX0 1 "_law_enter" ["_law_token_here", "_law_things"] (spLEnter K)) : FnOk P w K mg base CX0 5 f fd ["_law_bag_here", "_law_things"] (spLHistory K) := by
  refine F.ok sc__law_history (fun vs H Q E h => ?_) (fun cdv A outer s H vs Q E hr h => ?_)
  · obtain ⟨p, c, tl, rfl, _⟩ := h
    rfl
  · obtain ⟨p, c, tl, rfl, hp, htl, hc, k⟩ := h
    refine ⟨_, (pss_cons (ps_set (i := 2) sc__law_history.nd rfl (.inl rfl) (pe_lst (pa_cons (pe_tup (pa_cons pe_str (pa_cons (pe_cal c__law_word (hr.mono (by omega)) rfl pass0 (pa_cons (pv 0) pa_nil)) pa_nil))) pa_nil)))
      (pss_cons (ps_for PassesOwn.never rfl (pi_range1 (by rfl) T.b_range (pa_cons (pe_cal c__law_draw (hr.mono (by omega)) rfl pass0 (pa_cons (pv 0) (pa_cons pe_int pa_nil))) pa_nil)) (pg_name (i := 3) sc__law_history.nd rfl (.inl rfl)) (pss_cons (ps_set (i := 4) sc__law_history.nd rfl (.inl rfl) (pe_cal c__law_token (hr.mono (by omega)) rfl pass0 (pa_cons (pv 0) (pa_cons (pv 1) pa_nil))))
      (pss_one (ps_if (PW.pt (pw_and (pt_val (pe_cal c__law_fits (hr.mono (by omega)) rfl pass0 (pa_cons (pv 4) (pa_cons (pv 1) (pa_cons (pe_callB call_len_seq (by rfl) T.b_len (by decide +kernel) (pa_cons (pv 2) pa_nil)) pa_nil))))) (pw_and1 (pt_cmpR op_ne (pe_ix ix_tup (pv 4) pe_int (fun _ _ => rfl)) pe_str (nomark _))))) (pss_cons (ps_expr (pe_bm PySem.F.plainAttrs_list PySem.F.slot_list_append PySem.F.type_list_append mt_append (pv 2) (pa_cons (pv 4) pa_nil)))
      (pss_one (ps_expr (pe_cal c__law_enter (hr.mono (by omega)) rfl pass0 (pa_cons (pv 4) (pa_cons (pv 1) pa_nil)))))) pss_nil))))
      (Evl.pss_cut (ps_if (pt_cmpR op_eq (pe_cal c__law_draw (hr.mono (by omega)) rfl pass0 (pa_cons (pv 0) (pa_cons pe_int pa_nil))) pe_int (nomark _)) (pss_one (ps_expr (pe_bm PySem.F.plainAttrs_list PySem.F.slot_list_append PySem.F.type_list_append mt_append (pv 2) (pa_cons (pe_cal c__law_one (hr.mono (by omega)) rfl pass0 (pa_cons (pv 0) (pa_cons (pe_lst (pa_cons (pe_tup (pa_cons pe_str (pa_cons pe_str pa_nil))) (pa_cons (pe_tup (pa_cons pe_str (pa_cons pe_str pa_nil))) pa_nil))) pa_nil))) pa_nil)))) pss_nil)
      (pss_cons (ps_set (i := 5) sc__law_history.nd rfl (.inl rfl) (pe_cal c__law_draw (hr.mono (by omega)) rfl pass0 (pa_cons (pv 0) (pa_cons (pe_callB call_len_seq (by rfl) T.b_len (by decide +kernel) (pa_cons (pv 2) pa_nil)) pa_nil))))
      (pss_cons (ps_set (i := 6) sc__law_history.nd rfl (.inl rfl) (pe_cal c__law_draw (hr.mono (by omega)) rfl pass0 (pa_cons (pv 0) (pa_cons pe_int pa_nil))))
      (pss_cons (ps_set (i := 7) sc__law_history.nd rfl (.inl rfl) (pe_cal c__law_odd (hr.mono (by omega)) rfl pass0 (pa_cons (pv 0) (pa_cons (pv 1) pa_nil))))
      (Evl.pss_cut (ps_if (pt_cmpR op_eq (pe_cal c__law_draw (hr.mono (by omega)) rfl pass0 (pa_cons (pv 0) (pa_cons pe_int pa_nil))) pe_int (nomark _)) (pss_one (ps_set (i := 7) sc__law_history.nd rfl (.inl rfl) (pe_cal c__law_token (hr.mono (by omega)) rfl pass0 (pa_cons (pv 0) (pa_cons (pv 1) pa_nil))))) pss_nil)
      (pss_cons (ps_if (pt_cmpR op_eq (pv 6) pe_int (nomark _)) (pss_one (ps_ret (pe_op op_cat (pe_slice sl_list (pv 2) po_none (po_some (pv 5))) (pe_slice sl_list (pv 2) (po_some (pe_op op_add (pv 5) pe_int)) po_none)))) pss_nil)
      (pss_cons (ps_if (pt_cmpR op_gt (pv 6) pe_int (nomark _)) (pss_one (ps_ret (pv 2))) pss_nil)
      (pss_cons (ps_set (i := 8) sc__law_history.nd rfl (.inl rfl) (pe_ix ix_list (pe_lst (pa_cons (pe_lst (pa_cons (pv 7) pa_nil)) (pa_cons (pe_lst (pa_cons (pv 7) (pa_cons (pe_ix ix_list (pv 2) (pv 5) (fun _ _ => rfl)) pa_nil))) (pa_cons (pe_op op_rep (pe_lst (pa_cons (pe_ix ix_list (pv 2) (pv 5) (fun _ _ => rfl)) pa_nil)) pe_int) pa_nil)))) (pe_op op_sub (pv 6) pe_int) (fun _ _ => rfl)))
      (pss_one (ps_ret (pe_op op_cat (pe_op op_cat (pe_slice sl_list (pv 2) po_none (po_some (pv 5))) (pv 8)) (pe_slice sl_list (pv 2) (po_some (pe_op op_add (pv 5) pe_int)) po_none)))))))))))))), ?_⟩
    refine ⟨_, rfl, p, c, rfl, hp, fun z0 H1 hz0 b1 pl1 => ?_⟩
    have ht1 := b1 _ _ htl (pl_ne hp htl)
    refine ⟨sz2 _ _, fun t1 hn1 => ⟨sz1 _, fun l hl => ?_⟩⟩
    have sa := Same.new (o := .tup [.str "begin", .str z0]) hn1
    have sb := Same.new (o := .lst [.ref t1]) hl
    have n1 : l ≠ tl := fun e => by rw [e, sa _ _ ht1] at hl; cases hl
    have n2 : l ≠ c := ((pl1.mono sa).new hl).2
    have L0 : LF K (upd (upd H1 t1 (.tup [.str "begin", .str z0])) l (.lst [.ref t1])) p c l tl [.ref t1] [⟨"begin", none, [z0]⟩] [] := ⟨pl1.mono (sa.trans sb), upd_same, Tks.one (tk_dp (.inl (.inl (sb _ _ upd_same)))), fun x hx => by rw [List.mem_singleton.mp hx]; exact (TkC.begin hz0).ok, (sa.trans sb) _ _ ht1, n1, n2, hc⟩
    revert L0
    generalize upd (upd H1 t1 _) l _ = H2
    intro L0
    refine ⟨_, rfl, p, c, 60, rfl, L0.pl, by decide, fun r H5 r1 r2 b5 pl5 => ?_⟩
    obtain ⟨n, rfl⟩ := Int.eq_ofNat_of_zero_le r1
    have hn : n < 60 := by omega
    refine ⟨n, rfl, by omega, by omega, ?_⟩
    rw [Int.toNat_natCast]
    refine for_it (walk_range (lo := 0) (n := n)) (fun i σ H' => ∃ (us : List V) (ts : List Tk) (th : List Str) (y3 y4 : Option V), σ = [some (.ref p), some (.ref tl), some (.ref l), y3, y4, none, none, none, none] ∧ LF K H' p c l tl us ts th ∧ 1 ≤ ts.length ∧ ts.length ≤ i + 1 ∧ th.length ≤ i)
      ⟨_, _, [], _, _, rfl, L0.but b5 pl5, Nat.le_refl _, Nat.le_refl _, Nat.le_refl _⟩ (fun _ _ _ _ _ => trivial) ?_ ?_
    · rintro i x σ H' H6 hi ⟨us, ts, th, y3, y4, rfl, L, q1, q2, q3⟩ ⟨rfl, rfl⟩
      refine ⟨_, rfl, _, rfl, p, c, tl, th, rfl, L.pl, L.ht, by omega, fun v t H7 hk b7 pl7 dv => ?_⟩
      have L7 := L.but b7 pl7
      have hul := L7.len
      refine ⟨_, rfl, _, rfl, _, rfl, l, us, rfl, .inl (.inl (.inl L7.hl)), v, tl, _, t.d, some t, th, rfl, dv, gd_tok hk, ⟨hk, rfl⟩, L7.ht, by omega, fun H8 s8 => ?_⟩
      have L8 := L7.same s8
      have dv8 := dv.mono s8
      refine ⟨_, rfl, ?_⟩
      by_cases hf : fitsO (some t) th (us.length : Int) = true
      case neg =>
        rw [Bool.eq_false_iff.mpr hf]
        exact ifF rfl ⟨us, ts, th, _, _, rfl, L8, q1, by omega, by omega⟩
      rw [hf]
      have hs : suits t th = true := (Bool.and_eq_true_iff.mp hf).2
      have hin : ∀ n, t.n = some n → n < th.length := fun n hn => by
        unfold suits at hs
        rw [hn] at hs
        dsimp only at hs
        cases z : th[n]? with
        | none => rw [z] at hs; cases hs
        | some x => exact (List.getElem?_eq_some_iff.mp z).1
      obtain ⟨a, rfl, hqa⟩ := tk_at dv8
      refine ifT rfl ⟨_, rfl, a, _, 0, _, rfl, rfl, hqa, atI_zero _ _, rfl, _, rfl, ?_⟩
      rw [dec_strV]
      by_cases he : t.k = "ended"
      · exact ifF (by rw [decide_eq_true he]; rfl) ⟨us, ts, th, _, _, rfl, L8, q1, by omega, by omega⟩
      refine ifT (by rw [decide_eq_false he]; rfl) ⟨_, rfl, .inl ⟨rfl, _, .inl (.inl L8.hl)⟩, _, rfl, l, _, _, rfl, rfl, L8.hl, lt_sz (by omega), ?_⟩
      have L9 := L8.push dv8 hk
      have d9 : Dp K (upd H8 l (.lst (us ++ [.ref a]))) (.ref a) t.d := tk_updL dv8 L8.hl
      revert L9 d9
      generalize upd H8 l _ = H9
      intro L9 d9
      have h6 := enter_len t th
      refine ⟨_, rfl, _, rfl, _, t, tl, th, rfl, d9, hk, L9.ht, by omega, hin, fun H10 b10 e10 => ?_⟩
      exact ⟨_, _, _, _, _, rfl, L9.enters b10 e10, by rw [List.length_append]; omega, by rw [List.length_append]; exact Nat.succ_le_succ q2, by omega⟩
    · rintro σ H' ⟨us, ts, th, y3, y4, rfl, L, q1, q2, q3⟩
      refine ⟨fun σ' H' => ∃ (us : List V) (ts : List Tk), σ' = [some (.ref p), some (.ref tl), some (.ref l), y3, y4, none, none, none, none] ∧ LF K H' p c l tl us ts th ∧ 1 ≤ ts.length ∧ ts.length ≤ n + 2, ?_, ?_⟩
      · refine ⟨_, rfl, p, c, 3, rfl, L.pl, by decide, fun r H6 w1 w2 b6 pl6 => ⟨rfl, _, rfl, ?_⟩⟩
        have L6 := L.but b6 pl6
        have hul := L6.len
        by_cases h1 : r = 1
        · refine ifT (decide_eq_true (by rw [h1])) ⟨_, rfl, .inl ⟨rfl, _, .inl (.inl L6.hl)⟩, ?_⟩
          refine one_menu rfl L6.pl (menu_of (layA_cons (lay_tup (layA_cons lay_str (layA_cons lay_str layA_nil)) (Nat.le_of_ble_eq_true rfl)) (layA_cons (lay_tup (layA_cons lay_str (layA_cons lay_str layA_nil)) (Nat.le_of_ble_eq_true rfl)) layA_nil))) (Nat.le_of_ble_eq_true rfl) (Nat.le_of_ble_eq_true rfl) fun v d H7 hm b7 pl7 dv => ?_
          have L7 := L6.but b7 pl7
          obtain ⟨t, ht1, ht2⟩ : ∃ t : Tk, Okt t ∧ d = t.d := by
            rcases List.mem_cons.mp hm with e | hm
            · exact ⟨_, (TkC.ended (w := "x") (by decide +kernel)).ok, e⟩
            · rcases List.mem_cons.mp hm with e | hm
              · exact ⟨_, (TkC.anew (w := "yes") (by decide +kernel)).ok, e⟩
              · cases hm
          subst ht2
          refine ⟨l, _, _, rfl, rfl, L7.hl, lt_sz (by omega), ?_⟩
          exact ⟨_, _, rfl, L7.push dv ht1, by rw [List.length_append]; omega, by rw [List.length_append]; exact Nat.succ_le_succ q2⟩
        · exact ifF (decide_eq_false (by intro z; injection z with z; omega)) ⟨us, ts, rfl, L6, q1, by omega⟩
      · rintro σ8 H8 ⟨us, ts, rfl, L8, q1, q2⟩
        have hul := L8.len
        refine ⟨_, rfl, _, rfl, l, us, rfl, .inl (.inl (.inl L8.hl)), p, c, _, rfl, L8.pl, by omega, fun r H9 r1 r2 b9 pl9 => ?_⟩
        obtain ⟨pl, rfl⟩ := Int.eq_ofNat_of_zero_le r1
        have hpl : pl < us.length := by omega
        have L9 := L8.but b9 pl9
        refine ⟨_, rfl, p, c, 6, rfl, L9.pl, by decide, fun r H10 w1 w2 b10 pl10 => ?_⟩
        obtain ⟨wy, rfl⟩ := Int.eq_ofNat_of_zero_le w1
        have hwy : wy < 6 := by omega
        have L10 := L9.but b10 pl10
        refine ⟨_, rfl, _, rfl, p, c, _, rfl, L10.pl, fun v0 d0 H11 g0 b11 pl11 dv0 => ?_⟩
        have L11 := L10.but b11 pl11
        refine ⟨fun σ' H' => ∃ (v : V) (d : PyData), σ' = [some (.ref p), some (.ref tl), some (.ref l), y3, y4, some (.int (pl : Int)), some (.int (wy : Int)), some v, none] ∧ LF K H' p c l tl us ts th ∧ GD d ∧ Dp K H' v d, ?_, ?_⟩
        · refine ⟨_, rfl, p, c, 2, rfl, L11.pl, by decide, fun r H12 u1 u2 b12 pl12 => ⟨rfl, _, rfl, ?_⟩⟩
          have L12 := L11.but b12 pl12
          by_cases h1 : r = 1
          · refine ifT (decide_eq_true (by rw [h1])) ⟨_, rfl, _, rfl, p, c, tl, th, rfl, L12.pl, L12.ht, by omega, fun v t H7 hk b7 pl7 dv => ?_⟩
            exact ⟨v, t.d, rfl, L12.but b7 pl7, gd_tok hk, dv⟩
          · exact ifF (decide_eq_false (by intro z; injection z with z; omega)) ⟨v0, d0, rfl, L12, g0, Dp.kp (L11.pl.kp b12) dv0⟩
        · rintro σ13 H13 ⟨v, d, rfl, L13, gd, dv⟩
          have hds : DpAll K H13 us (ts.map Tk.d) := L13.tk
          have hgs : ∀ d ∈ ts.map Tk.d, GD d := fun d hd => by
            obtain ⟨t, ht, rfl⟩ := List.mem_map.mp hd
            exact gd_tok (L13.ok t ht)
          have gtk : ∀ d ∈ (ts.map Tk.d).take pl, GD d := fun d hd => hgs d (List.mem_of_mem_take hd)
          have gdr : ∀ d ∈ (ts.map Tk.d).drop (pl + 1), GD d := fun d hd => hgs d (List.mem_of_mem_drop hd)
          have zp : ((pl : Nat) : Int) + 1 = ((pl + 1 : Nat) : Int) := by omega
          have ltk : (us.take pl).length ≤ 70 := by rw [List.length_take]; omega
          have ldr : (us.drop (pl + 1)).length ≤ 70 := by rw [List.length_drop]; omega
          have lall : ((ts.map Tk.d).take pl).length + ((ts.map Tk.d).drop (pl + 1)).length ≤ 65 := by rw [List.length_take, List.length_drop, List.length_map]; omega
          have sl1 : ∀ {G : Hp}, Same H13 G → SqL K G l us := fun s => .inl (.inl (s _ _ L13.hl))
          refine ⟨_, rfl, rfl, _, rfl, ?_⟩
          by_cases w0 : wy = 0
          · refine ifT (decide_eq_true (by rw [w0]; rfl)) ⟨_, rfl, _, rfl, _, rfl, l, us, rfl, sl1 (Same.refl _), fun pa ha => ?_⟩
            rw [cut_takeK]
            have s1 := Same.new (o := .lst (us.take pl)) ha
            have e1 : upd H13 pa (.lst (us.take pl)) pa = some (.lst (us.take pl)) := upd_same
            revert s1 e1
            generalize upd H13 pa _ = H14
            intro s1 e1
            refine ⟨_, rfl, _, rfl, _, _, rfl, rfl, _, rfl, l, us, rfl, sl1 s1, fun pb hb => ?_⟩
            rw [zp, cut_drop]
            have s2 := Same.new (o := .lst (us.drop (pl + 1))) hb
            have e2 : upd H14 pb (.lst (us.drop (pl + 1))) pb = some (.lst (us.drop (pl + 1))) := upd_same
            have e3 := s2 _ _ e1
            have d2 := hds.mono (s1.trans s2)
            refine ⟨pa, pb, _, _, rfl, rfl, e3, e2, sz_lit (by omega), fun q hq => ?_⟩
            exact k q _ ((ts.map Tk.d).take pl ++ (ts.map Tk.d).drop (pl + 1)) _ upd_same (((dps_takeK pl d2).append (d2.drop (pl + 1))).mono (Same.new hq)) (fun d hd => by
              rcases List.mem_append.mp hd with h | h
              · exact gtk d h
              · exact gdr d h) (by rw [List.length_append]; omega)
          refine ifF (decide_eq_false (by intro z; injection z with z; omega)) ⟨_, rfl, _, _, rfl, rfl, _, rfl, ?_⟩
          by_cases w3 : 3 < wy
          · exact ifT (decide_eq_true (by omega)) ⟨_, rfl, k l us _ H13 L13.hl hds hgs (by rw [List.length_map]; omega)⟩
          refine ifF (decide_eq_false (by omega)) ?_
          have hv : us[pl]? = some (us[pl]'hpl) := List.getElem?_eq_getElem hpl
          revert hv
          generalize us[pl]'hpl = u
          intro hv
          obtain ⟨e, he1, he2⟩ := hds.get hv
          have ge := hgs e (List.mem_of_getElem? he1)
          refine ⟨_, rfl, sz1 _, fun a1 ha1 => ?_⟩
          have s1 := Same.new (o := .lst [v]) ha1
          have e1 : upd H13 a1 (.lst [v]) a1 = some (.lst [v]) := upd_same
          revert s1 e1
          generalize upd H13 a1 _ = H14
          intro s1 e1
          refine ⟨_, rfl, _, rfl, _, rfl, l, us, _, _, rfl, rfl, sl1 s1, atI_nat hv, sz2 _ _, fun a2 ha2 => ?_⟩
          have s2 := Same.new (o := .lst [v, u]) ha2
          have e2 : upd H14 a2 (.lst [v, u]) a2 = some (.lst [v, u]) := upd_same
          have s2' := s1.trans s2
          have e1' := s2 _ _ e1
          revert e2 s2' e1'
          generalize upd H14 a2 _ = H15
          intro e2 s2' e1'
          refine ⟨_, rfl, _, rfl, l, us, _, _, rfl, rfl, sl1 s2', atI_nat hv, sz1 _, fun a3 ha3 => ?_⟩
          have s3 := Same.new (o := .lst [u]) ha3
          have e3 : upd H15 a3 (.lst [u]) a3 = some (.lst [u]) := upd_same
          refine ⟨a3, 2, [u], rfl, rfl, e3, by decide, by decide, sz_lit (by show 1 * 2 ≤ 100000; decide), fun a4 ha4 => ?_⟩
          rw [rep2]
          have s4 := (s2'.trans s3).trans (Same.new (o := .lst [u, u]) ha4)
          have f1 := (s3.trans (Same.new (o := .lst [u, u]) ha4)) _ _ e1'
          have f2 := (s3.trans (Same.new (o := .lst [u, u]) ha4)) _ _ e2
          have f4 : upd (upd H15 a3 (.lst [u])) a4 (.lst [u, u]) a4 = some (.lst [u, u]) := upd_same
          revert s4 f1 f2 f4
          generalize upd (upd H15 a3 _) a4 _ = H16
          intro s4 f1 f2 f4
          refine ⟨sz_lit (by show 3 ≤ 100000; decide), fun ao hao => ?_⟩
          have so := Same.new (o := .lst [.ref a1, .ref a2, .ref a4]) hao
          have fo : upd H16 ao (.lst [.ref a1, .ref a2, .ref a4]) ao = some (.lst [.ref a1, .ref a2, .ref a4]) := upd_same
          have s5 := s4.trans so
          have f1 := so _ _ f1
          have f2 := so _ _ f2
          have f4 := so _ _ f4
          clear so
          revert s5 f1 f2 f4 fo
          generalize upd H16 ao _ = H17
          intro fo s5 f1 f2 f4
          obtain ⟨li, ins, es, i1, i2, i3, i4, i5⟩ : ∃ (li : Addr) (ins : List V) (es : List PyData), [V.ref a1, .ref a2, .ref a4][wy - 1]? = some (.ref li) ∧ H17 li = some (.lst ins) ∧ DpAll K H17 ins es ∧ (∀ e ∈ es, GD e) ∧ es.length ≤ 2 := by
            have dv' := dv.mono s5
            have he' := he2.mono s5
            have h3 : wy = 1 ∨ wy = 2 ∨ wy = 3 := by omega
            rcases h3 with rfl | rfl | rfl
            · exact ⟨a1, _, [d], rfl, f1, .cons dv' .nil, fun x hx => by rw [List.mem_singleton.mp hx]; exact gd, by simp⟩
            · exact ⟨a2, _, [d, e], rfl, f2, .cons dv' (.cons he' .nil), fun x hx => by
                rcases List.mem_cons.mp hx with rfl | hx
                · exact gd
                · rw [List.mem_singleton.mp hx]; exact ge, by simp⟩
            · exact ⟨a4, _, [e, e], rfl, f4, .cons he' (.cons he' .nil), fun x hx => by
                rcases List.mem_cons.mp hx with rfl | hx
                · exact ge
                · rw [List.mem_singleton.mp hx]; exact ge, by simp⟩
          have zw : ((wy : Nat) : Int) - 1 = ((wy - 1 : Nat) : Int) := by omega
          refine ⟨_, rfl, _, _, rfl, rfl, ao, _, _, _, rfl, rfl, .inl (.inl fo), by rw [zw]; exact atI_nat i1, ?_⟩
          refine ⟨_, rfl, _, rfl, _, rfl, l, us, rfl, sl1 s5, fun pa ha => ?_⟩
          rw [cut_takeK]
          have s6 := Same.new (o := .lst (us.take pl)) ha
          have e6 : upd H17 pa (.lst (us.take pl)) pa = some (.lst (us.take pl)) := upd_same
          have i2 := s6 _ _ i2
          have i3 := i3.mono s6
          have s7 := s5.trans s6
          clear s6
          revert e6 i2 i3 s7
          generalize upd H17 pa _ = H18
          intro e6 i2 i3 s7
          have il := i3.len
          refine ⟨_, rfl, pa, li, _, _, rfl, rfl, e6, i2, sz_lit (by omega), fun q hq => ?_⟩
          have d7 := (dps_takeK pl (hds.mono s7)).append i3
          have s8 := Same.new (o := .lst (us.take pl ++ ins)) hq
          have e8 : upd H18 q (.lst (us.take pl ++ ins)) q = some (.lst (us.take pl ++ ins)) := upd_same
          have d8 := d7.mono s8
          have s9 := s7.trans s8
          clear s8
          revert e8 d8 s9
          generalize upd H18 q _ = H19
          intro e8 d8 s9
          refine ⟨_, rfl, _, rfl, _, _, rfl, rfl, _, rfl, l, us, rfl, sl1 s9, fun pb hb => ?_⟩
          rw [zp, cut_drop]
          have s10 := Same.new (o := .lst (us.drop (pl + 1))) hb
          have e10 : upd H19 pb (.lst (us.drop (pl + 1))) pb = some (.lst (us.drop (pl + 1))) := upd_same
          have d10 := (d8.mono s10).append ((hds.mono (s9.trans s10)).drop (pl + 1))
          have e9 := s10 _ _ e8
          refine ⟨q, pb, _, _, rfl, rfl, e9, e10, sz_lit (by rw [List.length_append]; omega), fun z hz => ?_⟩
          exact k z _ _ _ upd_same (d10.mono (Same.new hz)) (fun d hd => by
            rcases List.mem_append.mp hd with h | h
            · rcases List.mem_append.mp h with h | h
              · exact gtk d h
              · exact i4 d h
            · exact gdr d h) (by rw [List.length_append, List.length_append]; omega)
end
end Op
set_option pp.maxSteps 500
namespace Op
open PySem L2 PyProof.Rows
theorem split_count {ts : List Tk} : (split ts).length ≤ ts.length := by
  have := split_len ts []
  rw [List.length_nil, Nat.zero_add] at this
  exact this
theorem split_ok {ts : List Tk} (h0 : ∀ t, ts[0]? = some t → isOut t = true) (h : ∀ t ∈ ts, Okt t) : ∀ x ∈ split ts, ∀ t ∈ x, Okt t := fun x hx t htx => h t (by rw [← split_flat h0]; exact List.mem_flatten.mpr ⟨x, hx, htx⟩)
theorem smK_tks {ts : List Tk} (h : ∀ t ∈ ts, Okt t) (hl : ts.length ≤ 1000) {n : Nat} : smK (n + 3) (.list (ts.map Tk.d)) := by
  refine ⟨by rw [List.length_map]; omega, fun d hd => ?_⟩
  obtain ⟨t, ht, rfl⟩ := List.mem_map.mp hd
  exact smK_tk (h t ht)
theorem len_flat {α : Type} {tss : List (List α)} {ts : List α} (h : ts ∈ tss) : ts.length ≤ tss.flatten.length := by
  induction tss with
  | nil => cases h
  | cons a r ih =>
    rw [List.flatten_cons, List.length_append]
    rcases List.mem_cons.mp h with rfl | h
    · omega
    · have := ih h
      omega
theorem smK_tss {tss : List (List Tk)} (h : ∀ ts ∈ tss, ∀ t ∈ ts, Okt t) (h1 : tss.flatten.length ≤ 1000) (h2 : tss.length ≤ 1000) {n : Nat} : smK (n + 4) (tssD tss) := by
  refine ⟨by rw [List.length_map]; omega, fun d hd => ?_⟩
  obtain ⟨ts, hts, rfl⟩ := List.mem_map.mp hd
  exact smK_tks (h ts hts) (Nat.le_trans (len_flat hts) h1)

theorem noL_refI (i : Int) : noL (refI i) = true := by simp [refI, noL, noLs]
theorem smK_refI {i : Int} {n : Nat} : smK (n + 2) (refI i) := by
  refine ⟨by show 2 ≤ 10000; decide, fun d hd => ?_⟩
  rcases List.mem_cons.mp hd with rfl | hd
  · show ("refused" : Str).length ≤ 100000
    decide +kernel
  · rw [List.mem_singleton.mp hd]
    trivial
theorem smK_rep {d : PyData} {m n : Nat} (h : smK n d) (hm : m ≤ 10000) : smK (n + 1) (.list (List.replicate m d)) := ⟨by rw [List.length_replicate]; exact hm, fun x hx => by rw [List.eq_of_mem_replicate hx]; exact h⟩
theorem smK_tol {d : PyData} {n : Nat} (h : smK (n + 1) d) : smK (n + 2) (.tuple [.str "told", d]) := by
  refine ⟨by show 2 ≤ 10000; decide, fun x hx => ?_⟩
  rcases List.mem_cons.mp hx with rfl | hx
  · show ("told" : Str).length ≤ 100000
    decide +kernel
  · rw [List.mem_singleton.mp hx]
    exact h
theorem gds_shaped {ds : List PyData} (h : ∀ d ∈ ds, GD d) : SeqAt.shaped (.list ds) = true ∧ PyData.eqv (.list ds) (.list ds) = true := by
  have g : PyData.canLayAll0 ds = true ∧ PyData.depthAll ds ≤ 10 := by
    induction ds with
    | nil => exact ⟨by simp [PyData.canLayAll0], by simp [PyData.depthAll]⟩
    | cons x r ih =>
      have hx := h x List.mem_cons_self
      have g := ih fun w hw => h w (List.mem_cons_of_mem _ hw)
      have h1 := hx.lay
      have h2 := hx.dp
      have g2 := g.2
      constructor
      · simp only [PyData.canLayAll0, Bool.and_eq_true]
        exact ⟨h1, g.1⟩
      · simp only [PyData.depthAll]
        omega
  have g2 := g.2
  have c : PyData.canLay0 (.list ds) = true := by simp only [PyData.canLay0]; exact g.1
  refine ⟨?_, SeqAt.eqv_refl _ c⟩
  show (PyData.canLay0 (.list ds) && decide (PyData.depth (.list ds) ≤ 64)) = true
  rw [Bool.and_eq_true]
  refine ⟨c, decide_eq_true ?_⟩
  simp only [PyData.depth]
  omega
theorem dps_snoc {K : PySem.W.Frag} {H : Hp} {D : Addr} {vs : List V} {v : V} {n : Nat} {i : Int} (hD : H D = some (.lst vs)) (h : DpAll K H vs (List.replicate n (refI i))) (hv : Dp K H v (refI i)) : DpAll K (upd H D (.lst (vs ++ [v]))) (vs ++ [v]) (List.replicate (n + 1) (refI i)) := by
  rw [List.replicate_succ']
  refine dps_updN hD (noLs_mem.mpr fun d hd => ?_) (h.append (.cons hv .nil))
  rcases List.mem_append.mp hd with hd | hd
  · rw [List.eq_of_mem_replicate hd]; exact noL_refI i
  · rw [List.mem_singleton.mp hd]; exact noL_refI i
theorem dps_rep {K : PySem.W.Frag} {H : Hp} {v : V} {d : PyData} (h : Dp K H v d) : ∀ n : Nat, DpAll K H (List.replicate n [v]).flatten (List.replicate n d)
  | 0 => .nil
  | n + 1 => .cons h (dps_rep h n)
/-- the law's history -/
structure LG (K : PySem.W.Frag) (H : Hp) (l : Addr) (us : List V) (ds : List PyData) : Prop where
  hl : H l = some (.lst us)
  hd : DpAll K H us ds
theorem LG.same {K : PySem.W.Frag} {H H' : Hp} {l : Addr} {us : List V} {ds : List PyData} (h : LG K H l us ds) (s : Same H H') : LG K H' l us ds := ⟨s _ _ h.hl, h.hd.mono s⟩
section
variable {P : Program} {w : World} {K : PySem.W.Frag} {mg : Str → Option Value} {base : Heap} {pF pO pN pL CH CA C CR CN : Addr}
def spLaw (K : PySem.W.Frag) : Sp := fun vs H Q _ => ∃ (a : Addr) (ns : List Int), vs = [.ref a] ∧ SqL K H a (ns.map V.int) ∧ ns.length ≤ 63 ∧ ∀ H', Q (.bl true) H'
theorem sc_law : FnScope ["_law_script", "_law_bag_here", "_law_history_here", "_law_value", "_law_k", "_law_due", "_law_handed", "_law_turns_here", "_law_told_here"] ["_law_script"] (defScope s_law) := ⟨rfl, rfl, rfl, by decide +kernel, rfl, by decide +kernel, by decide +kernel⟩
theorem ok_law {f : Addr} {fd : FuncData} (F : Fun K "law" "law" s_law f fd) (T : TxtL P w K mg pF pO pN pL CH CA C CR CN) (c__law_bag : Cal P w K mg base CX0 1 "_law_bag" ["_law_script"] (spBag K)) (c__law_history : Cal P w K mg base CX0 5 "_law_history" ["_law_bag_here", "_law_things"] (spLHistory K)) (c__law_turns : Cal P w K mg base CX0 1 "_law_turns" ["_law_history_here"] (spSplit K))
    (c__law_same : Cal P w K mg base CX0 9 "_law_same" ["_law_told_here", "_law_due"] (spSame K 8)) (c__law_told : Cal P w K mg base CX0 15 "_law_told" ["_law_which", "_law_history_here"] (spLTold K)) (c__law_no_program : Cal P w K mg base CX0 6 "_law_no_program" ["_law_history_here"] (spNoP K)) (c__law_fault : Cal P w K mg base CX0 2 "_law_fault" ["_law_history_here"] (spLFault K))
    (c_cut : Cal P w K mg base (L2.CX P w) 4 "cut" ["history"] (spCut K CH)) : FnOk P w K mg base CX0 16 f fd ["_law_script"] (spLaw K) := by
  refine F.ok sc_law (fun vs H Q E h => ?_) (fun cdv A outer s H vs Q E hr h => ?_)
  · obtain ⟨a, ns, rfl, _⟩ := h
    rfl
  · obtain ⟨a, ns, rfl, ha, hns, k⟩ := h
    refine ⟨_, (pss_cons (ps_set (i := 1) sc_law.nd rfl (.inl rfl) (pe_cal c__law_bag (hr.mono (by omega)) rfl pass0 (pa_cons (pv 0) pa_nil)))
      (pss_cons (ps_set (i := 2) sc_law.nd rfl (.inl rfl) (pe_cal c__law_history (hr.mono (by omega)) rfl pass0 (pa_cons (pv 1) (pa_cons (pe_lst pa_nil) pa_nil))))
      (pss_cons (ps_for PassesOwn.never rfl (pi_tup (pe_tup (pa_cons pe_non (pa_cons (pe_tup pa_nil) (pa_cons pe_str (pa_cons pe_dnewK (pa_cons pe_int (pa_cons (pe_callTy call_tuple_of (by rfl) T.b_tuple (by decide +kernel) (pa_cons (pv 2) pa_nil)) pa_nil)))))))) (pg_name (i := 3) sc_law.nd rfl (.inr rfl)) (pss_one (ps_if (pt_not (pt_val (pe_cal c__law_same (hr.mono (by omega)) rfl pass0 (pa_cons (pe_lc (own := [("_law_k", 4)]) (g := gName 4) (tt := tYes) rfl sc_law.nd (pi_range1 (by rfl) T.b_range (pa_cons pe_int pa_nil)) (blkOk_by (own := [("_law_k", 4)]) (N := ["_law_script", "_law_bag_here", "_law_history_here", "_law_value", "_law_k", "_law_due", "_law_handed", "_law_turns_here", "_law_told_here"]) (sc := defScope s_law) (by decide +kernel)) (fun _ _ _ _ _ => (pg_name (i := 4) sc_law.nd rfl (.inl rfl))) (fun _ _ _ _ _ => pts_nil) (fun _ _ _ _ _ => (pe_cal c__law_told (hr.mono (by omega)) rfl pass0 (pa_cons (pv 4) (pa_cons (pv 3) pa_nil))))) (pa_cons (pe_op op_rep (pe_lst (pa_cons (pe_tup (pa_cons pe_str (pa_cons (pe_un un_neg pe_int) pa_nil))) pa_nil)) pe_int) pa_nil))))) (pss_one (ps_ret pe_bl)) pss_nil)))
      (pss_cons (ps_if (pt_not (pt_val (pe_cal c__law_same (hr.mono (by omega)) rfl pass0 (pa_cons (pe_lc (own := [("_law_k", 4)]) (g := gName 4) (tt := tYes) rfl sc_law.nd (pi_range1 (by rfl) T.b_range (pa_cons pe_int pa_nil)) (blkOk_by (own := [("_law_k", 4)]) (N := ["_law_script", "_law_bag_here", "_law_history_here", "_law_value", "_law_k", "_law_due", "_law_handed", "_law_turns_here", "_law_told_here"]) (sc := defScope s_law) (by decide +kernel)) (fun _ _ _ _ _ => (pg_name (i := 4) sc_law.nd rfl (.inl rfl))) (fun _ _ _ _ _ => pts_nil) (fun _ _ _ _ _ => (pe_cal c__law_told (hr.mono (by omega)) rfl pass0 (pa_cons (pv 4) (pa_cons (pe_lst pa_nil) pa_nil))))) (pa_cons (pe_op op_rep (pe_lst (pa_cons (pe_tup (pa_cons pe_str (pa_cons pe_int pa_nil))) pa_nil)) pe_int) pa_nil))))) (pss_one (ps_ret pe_bl)) pss_nil)
      (pss_cons (ps_if (PW.pt (pw_or (pt_not (pt_val (pe_cal c__law_no_program (hr.mono (by omega)) rfl pass0 (pa_cons (pe_callTy call_list_of (by rfl) T.b_list (by decide +kernel) (pa_cons (pv 2) pa_nil)) pa_nil)))) (pw_or1 (pt_not (pt_val (pe_cal c__law_no_program (hr.mono (by omega)) rfl pass0 (pa_cons pe_non pa_nil))))))) (pss_one (ps_ret pe_bl)) pss_nil)
      (pss_cons (ps_set (i := 5) sc_law.nd rfl (.inl rfl) (pe_cal c__law_fault (hr.mono (by omega)) rfl pass0 (pa_cons (pv 2) pa_nil)))
      (pss_cons (ps_set (i := 6) sc_law.nd rfl (.inl rfl) (pe_callTy call_list_of (by rfl) T.b_list (by decide +kernel) (pa_cons (pv 2) pa_nil)))
      (pss_cons (ps_if (pt_cmpR op_notN (pv 5) pe_non (nomark _)) (pss_cons (ps_for PassesOwn.never rfl (pi_range1 (by rfl) T.b_range (pa_cons pe_int pa_nil)) (pg_name (i := 4) sc_law.nd rfl (.inl rfl)) (pss_one (ps_if (pt_not (pt_val (pe_cal c__law_same (hr.mono (by omega)) rfl pass0 (pa_cons (pe_cal c__law_told (hr.mono (by omega)) rfl pass0 (pa_cons (pv 4) (pa_cons (pv 6) pa_nil))) (pa_cons (pe_tup (pa_cons pe_str (pa_cons (pv 5) pa_nil))) pa_nil))))) (pss_one (ps_ret pe_bl)) pss_nil)))
      (pss_one (ps_ret (pe_cmpR (op_eqD hr.units) (pv 6) (pv 2) (nomark _))))) pss_nil)
      (pss_cons (ps_if (pt_cmpR op_eq (pe_callB call_len_seq (by rfl) T.b_len (by decide +kernel) (pa_cons (pv 2) pa_nil)) pe_int (nomark _)) (pss_one (ps_ret pe_bl)) pss_nil)
      (pss_cons (ps_set (i := 7) sc_law.nd rfl (.inl rfl) (pe_cal c__law_turns (hr.mono (by omega)) rfl pass0 (pa_cons (pv 2) pa_nil)))
      (pss_cons (ps_set (i := 8) sc_law.nd rfl (.inl rfl) (pe_lst (pa_cons (pe_cal c__law_told (hr.mono (by omega)) rfl pass0 (pa_cons pe_int (pa_cons (pv 6) pa_nil))) (pa_cons (pe_cal c__law_told (hr.mono (by omega)) rfl pass0 (pa_cons pe_int (pa_cons (pv 6) pa_nil))) pa_nil))))
      (pss_cons (ps_if (pt_not (pt_val (pe_cal c__law_same (hr.mono (by omega)) rfl pass0 (pa_cons (pv 8) (pa_cons (pe_lst (pa_cons (pe_tup (pa_cons pe_str (pa_cons (pe_callB call_len_seq (by rfl) T.b_len (by decide +kernel) (pa_cons (pv 7) pa_nil)) pa_nil))) (pa_cons (pe_tup (pa_cons pe_str (pa_cons (pv 7) pa_nil))) pa_nil))) pa_nil))))) (pss_one (ps_ret pe_bl)) pss_nil)
      (pss_cons (ps_expr (pe_bm PySem.F.plainAttrs_list PySem.F.slot_list_append PySem.F.type_list_append mt_append (pe_ix ix_list (pe_cal c_cut (hr.mono (by omega)) rfl (passes_call takes0 (fun _ _ _ _ h => h)) (pa_cons (pv 6) pa_nil)) pe_int (fun _ _ => rfl)) (pa_cons (pe_tup (pa_cons pe_str pa_nil)) pa_nil)))
      (pss_one (ps_ret (pe_and (pe_cal c__law_same (hr.mono (by omega)) rfl pass0 (pa_cons (pv 6) (pa_cons (pv 2) pa_nil))) (pe_one (pe_cal c__law_same (hr.mono (by omega)) rfl pass0 (pa_cons (pe_cal c_cut (hr.mono (by omega)) rfl (passes_call takes0 (fun _ _ _ _ h => h)) (pa_cons (pv 6) pa_nil)) (pa_cons (pv 7) pa_nil)))))))))))))))))))), ?_⟩
    refine ⟨_, rfl, a, ns, rfl, ha, hns, fun p c H1 hp s1 pl1 => ?_⟩
    refine ⟨_, rfl, sz_lit (by decide), fun tl htl => ⟨p, c, tl, rfl, pl1.mono (Same.new htl), upd_same, (pl1.new htl).2, fun l us ds H2 hl hd hg hn => ?_⟩⟩
    clear pl1 htl s1 ha
    have hul := hd.len
    have L2' : LG K H2 l us ds := ⟨hl, hd⟩
    obtain ⟨os, hos⟩ := dts_of ds
    have hsh : ∀ d ∈ ds, Short d := fun d h => (hg d h).sh
    -- the values that are no histories
    refine ⟨sz_lit (by decide), fun te hte => fun dk hdk => ⟨_, rfl, l, us, rfl, .inl ⟨.inl (.inl (Same.new hdk _ _ (Same.new hte _ _ hl))), fun th hth => ⟨sz_lit (by show 6 ≤ 100000; decide), fun tt htt => ?_⟩⟩⟩⟩
    have sa := Same.new (o := .tup []) hte
    have sb := Same.new (o := .dK []) hdk
    have sc := Same.new (o := .tup us) hth
    have sd := Same.new (o := .tup [.non, .ref te, .str "begin", .ref dk, .int 0, .ref th]) htt
    have n2 := (show Dp K _ (.ref te) (.tuple []) from .tup (.inl (.inl (sd _ _ (sc _ _ (sb _ _ upd_same))))) .nil)
    have n4 := sd _ _ (sc _ _ (show upd (upd H2 te (.tup [])) dk (.dK []) dk = some (.dK []) from upd_same))
    have n6 := (show Dp K _ (.ref th) (.tuple ds) from .tup (.inl (.inl (sd _ _ upd_same))) (hd.mono (((sa.trans sb).trans sc).trans sd)))
    have tt1 := at_new (o := .tup [.non, .ref te, .str "begin", .ref dk, .int 0, .ref th]) htt
    have L3 := L2'.same (((sa.trans sb).trans sc).trans sd)
    clear sa sb sc sd hte hdk hth htt L2' hl hd
    revert n2 n4 n6 tt1 L3
    generalize upd (upd (upd (upd H2 te _) dk _) th _) tt _ = H3
    intro n2 n4 n6 tt1 L3
    have nop : ∀ x ∈ [V.non, .ref te, .str "begin", .ref dk, .int 0, .ref th], NL K H3 x := fun x hx => by
      simp only [List.mem_cons, List.not_mem_nil, or_false] at hx
      rcases hx with rfl | rfl | rfl | rfl | rfl | rfl
      · exact .inl ⟨_, .non, rfl⟩
      · exact .inl ⟨_, n2, rfl⟩
      · exact .inl ⟨_, .str _, rfl⟩
      · exact .inr ⟨dk, [], rfl, n4⟩
      · exact .inl ⟨_, .int _, rfl⟩
      · exact .inl ⟨_, n6, rfl⟩
    refine ⟨tt, rfl, ⟨_, .inl (.inl tt1)⟩, ?_⟩
    refine for_it (walk_tup (xs := [V.non, .ref te, .str "begin", .ref dk, .int 0, .ref th])) (fun i σ G => (∃ y3 : Option V, σ = [some (.ref a), some (.ref p), some (.ref l), y3, none, none, none, none, none]) ∧ Same H3 G) ⟨⟨_, rfl⟩, Same.refl _⟩ (fun i σ G _ z => .inl (.inl (z.2 _ _ tt1))) ?_ ?_
    · rintro i x σ G1 G hi ⟨⟨y3, rfl⟩, sG⟩ ⟨rfl, hx⟩
      have nx := (nop x (List.mem_of_getElem? hx)).mono sG
      refine ⟨2, rfl, by decide, by decide, fun g hg' => ?_⟩
      refine lc_it (walk_range (lo := 0) (n := 2)) (fun i G2 => Same G G2 ∧ ∃ vs, G2 g = some (.lst vs) ∧ DpAll K G2 vs (List.replicate i (refI (-1)))) ⟨Same.new hg', [], upd_same, .nil⟩ (fun _ _ _ _ => trivial) ?_ ?_
      · rintro i x' G4 G2 hi ⟨s2, vs, d2, a2⟩ ⟨rfl, rfl⟩
        refine ⟨rfl, ?_⟩
        refine ⟨_, rfl, _, rfl, i, x, .error (-1), congrArg (fun z : Int => [V.int z, x]) (show (0 : Int) + (i : Nat) = (i : Nat) by omega), by omega, .inr ⟨nx.mono s2, rfl⟩, (fun ts e => by cases e), fun v' G5 s5 d5 => ?_⟩
        have hvl := a2.len
        rw [List.length_replicate] at hvl
        exact ⟨vs, s5 _ _ d2, lt_sz (by omega), Same.updN (s2.trans s5) hg', _, upd_same, dps_snoc (s5 _ _ d2) (a2.mono s5) d5⟩
      rintro G6 ⟨s6, vs, d6, a6⟩
      refine ⟨1, rfl, sz2 _ _, fun t1 h1 => ⟨sz1 _, fun l1 hl1 => ⟨l1, 2, [.ref t1], rfl, rfl, upd_same, by decide, by decide, sz_lit (by show 1 * 2 ≤ 100000; decide), fun l2 hl2 => ?_⟩⟩⟩
      have t1' := Same.new (o := .tup [.str "refused", .int (-1)]) h1
      have t2' := Same.new (o := .lst [.ref t1]) hl1
      have t3' := Same.new (o := .lst (List.replicate (2 : Int).toNat [V.ref t1]).flatten) hl2
      have dt := (show Dp K _ (.ref t1) (refI (-1)) from .tup (.inl (.inl (t3' _ _ (t2' _ _ upd_same)))) (.cons (.str _) (.cons (.int _) .nil)))
      exact ⟨.ref g, .ref l2, .list (List.replicate 2 (refI (-1))), rfl, .lst (.inl (.inl (t3' _ _ (t2' _ _ (t1' _ _ d6))))) (a6.mono ((t1'.trans t2').trans t3')), .lst (.inl (.inl upd_same)) (dps_rep dt 2), smK_rep smK_refI (by decide), fun G7 s7 => ⟨_, rfl, ifF rfl ⟨⟨_, rfl⟩, ((sG.trans s6).trans ((t1'.trans t2').trans t3')).trans s7⟩⟩⟩
    rintro σ G ⟨⟨y3, rfl⟩, sG⟩
    have L4 := L3.same sG
    clear L3 nop tt1 n2 n4 n6 sG
    -- the empty history
    refine ⟨4, rfl, by decide, by decide, fun g hg' => ?_⟩
    refine lc_it (walk_range (lo := 0) (n := 4)) (fun i G2 => Same G G2 ∧ ∃ vs, G2 g = some (.lst vs) ∧ DpAll K G2 vs (List.replicate i (refI 0))) ⟨Same.new hg', [], upd_same, .nil⟩ (fun _ _ _ _ => trivial) ?_ ?_
    · rintro i x' G4 G2 hi ⟨s2, vs, d2, a2⟩ ⟨rfl, rfl⟩
      refine ⟨rfl, ?_⟩
      refine ⟨_, rfl, sz_lit (by decide), fun el hel => ⟨i, .ref el, .error 0, congrArg (fun z : Int => [V.int z, .ref el]) (show (0 : Int) + (i : Nat) = (i : Nat) by omega), by omega, .inl ⟨el, [], [], [], rfl, upd_same, .nil, (fun d h => (List.not_mem_nil h).elim), .nil, by decide, .inl ⟨0, rfl, rfl⟩⟩, (fun ts e => by cases e), fun v' G5 s5 d5 => ?_⟩⟩
      have se := (Same.new (o := .lst []) hel).trans s5
      have hvl := a2.len
      rw [List.length_replicate] at hvl
      exact ⟨vs, se _ _ d2, lt_sz (by omega), Same.updN (s2.trans se) hg', _, upd_same, dps_snoc (se _ _ d2) (a2.mono se) d5⟩
    rintro G6 ⟨s6, vs, d6, a6⟩
    refine ⟨sz2 _ _, fun t1 h1 => ⟨sz1 _, fun l1 hl1 => ⟨l1, 4, [.ref t1], rfl, rfl, upd_same, by decide, by decide, sz_lit (by show 1 * 4 ≤ 100000; decide), fun l2 hl2 => ?_⟩⟩⟩
    have t1' := Same.new (o := .tup [.str "refused", .int 0]) h1
    have t2' := Same.new (o := .lst [.ref t1]) hl1
    have t3' := Same.new (o := .lst (List.replicate (4 : Int).toNat [V.ref t1]).flatten) hl2
    have dt := (show Dp K _ (.ref t1) (refI 0) from .tup (.inl (.inl (t3' _ _ (t2' _ _ upd_same)))) (.cons (.str _) (.cons (.int _) .nil)))
    refine ⟨.ref g, .ref l2, .list (List.replicate 4 (refI 0)), rfl, .lst (.inl (.inl (t3' _ _ (t2' _ _ (t1' _ _ d6))))) (a6.mono ((t1'.trans t2').trans t3')), .lst (.inl (.inl upd_same)) (dps_rep dt 4), smK_rep smK_refI (by decide), fun G7 s7 => ⟨_, rfl, ifF rfl ?_⟩⟩
    have L7 := L4.same ((s6.trans ((t1'.trans t2').trans t3')).trans s7)
    clear L4 s6 s7 t1' t2' t3' dt a6 d6
    -- no programs
    refine ⟨_, rfl, l, us, rfl, .inl (.inl (.inl L7.hl)), fun h0 hh0 => ⟨.ref h0, rfl, fun G8 s8 => ⟨_, rfl, ifF rfl ⟨.non, rfl, fun G9 s9 => ⟨_, rfl, ifF rfl ?_⟩⟩⟩⟩⟩
    have L9 := L7.same (((Same.new (o := .lst us) hh0).trans s8).trans s9)
    clear L7 s8 s9 hh0
    -- the fault
    refine ⟨_, rfl, l, us, ds, os, rfl, L9.hl, L9.hd, hg, hos, by omega, fun G10 s10 => ?_⟩
    have L10 := L9.same s10
    refine ⟨_, rfl, l, us, rfl, .inl (.inl (.inl L10.hl)), fun h hh => ?_⟩
    have s11 := Same.new (o := .lst us) hh
    have e11 : upd G10 h (.lst us) h = some (.lst us) := upd_same
    have L11 := L10.same s11
    clear L9 L10 s10 s11 hh
    revert e11 L11
    generalize upd G10 h (.lst us) = G11
    intro e11 L11
    obtain ⟨sh1, sh2⟩ := gds_shaped hg
    cases z : chkO os 0 [] false with
    | some i =>
      have hne : os ≠ [] := fun e => by rw [e] at z; cases z
      have z2 : chkOH os = some i := by unfold chkOH; rw [if_neg hne]; exact z
      refine ⟨_, rfl, rfl, _, rfl, ifT rfl ⟨5, rfl, by decide, by decide, ?_⟩⟩
      refine for_it (walk_range (lo := 0) (n := 5)) (fun j σ G => (∃ y4 : Option V, σ = [some (.ref a), some (.ref p), some (.ref l), y3, y4, some (.int (i : Int)), some (.ref h), none, none]) ∧ Same G11 G) ⟨⟨_, rfl⟩, Same.refl _⟩ (fun _ _ _ _ _ => trivial) ?_ ?_
      · rintro j x σ H5 H4 hj ⟨⟨y4, rfl⟩, s4⟩ ⟨rfl, rfl⟩
        have L4 := L11.same s4
        refine ⟨_, rfl, _, rfl, j, .ref h, .error (i : Int), congrArg (fun z : Int => [V.int z, .ref h]) (show (0 : Int) + (j : Nat) = (j : Nat) by omega), by omega, .inl ⟨h, us, ds, os, rfl, s4 _ _ e11, L4.hd, hsh, hos, by omega, .inl ⟨i, z2, rfl⟩⟩, (fun ts e => by cases e), fun v' G5 s5 d5 => ⟨_, rfl, sz2 _ _, fun t1 h1 => ?_⟩⟩
        have s6 := Same.new (o := .tup [.str "refused", .int (i : Int)]) h1
        exact ⟨v', .ref t1, refI i, rfl, d5.mono s6, .tup (.inl (.inl upd_same)) (.cons (.str _) (.cons (.int _) .nil)), smK_refI, fun G7 s7 => ⟨_, rfl, ifF rfl ⟨⟨_, rfl⟩, ((s4.trans s5).trans s6).trans s7⟩⟩⟩
      · rintro σ H4 ⟨⟨y4, rfl⟩, s4⟩
        have L4 := L11.same s4
        refine ⟨_, rfl, _, rfl, .list ds, .list ds, .lst (.inl (.inl (s4 _ _ e11))) L4.hd, .lst (.inl (.inl L4.hl)) L4.hd, sh1, sh1, ?_⟩
        rw [sh2]
        exact k H4
    | none =>
      obtain ⟨ts, rfl, hc⟩ := chkO_none z
      obtain ⟨rfl, hok⟩ := hos.tks
      have hts : us.length = ts.length := by rw [hul, List.length_map]
      refine ⟨_, rfl, rfl, _, rfl, ifF rfl ⟨_, rfl, l, us, rfl, .inl (.inl (.inl L11.hl)), rfl, _, rfl, ?_⟩⟩
      by_cases h0 : ts = []
      · subst h0
        have hu0 : us.length = 0 := hts
        exact ifT (decide_eq_true (by rw [hu0]; rfl)) (k _)
      have hpos : 0 < ts.length := List.length_pos_iff.mpr h0
      have hn' : ts.length ≤ 70 := by rw [List.length_map] at hn; exact hn
      refine ifF (decide_eq_false (by intro z; injection z with z; omega)) ?_
      have hcH : chkH ts = none := by unfold chkH; rw [if_neg h0]; exact hc
      have hout := chk_out hcH
      have jh : ∀ {G : Hp}, Same G11 G → JH K G (.ref h) (.ok ts) := fun s => .inl ⟨h, us, _, _, rfl, s _ _ e11, L11.hd.mono s, hsh, hos, by omega, .inr ⟨ts, rfl, hcH, rfl⟩⟩
      refine ⟨_, rfl, l, us, ts, rfl, L11.hl, L11.hd, by omega, hout, fun q H12 s12 t12 => ?_⟩
      have r12 := t12.r
      have sp := split_flat hout
      have spok := split_ok hout hok
      have hsc : (split ts).length ≤ ts.length := split_count
      have hsn := split_ne h0 hout
      have smS : ∀ {n : Nat}, smK (n + 4) (tssD (split ts)) := fun {n} => smK_tss spok (by rw [sp]; omega) (by omega)
      -- told
      refine ⟨_, rfl, 0, .ref h, .ok ts, rfl, by decide, jh s12, (fun _ _ => by decide), fun v13 H13 s13 d13 => ⟨_, rfl, 1, .ref h, .ok ts, rfl, by decide, jh (s12.trans s13), (fun _ _ => by decide), fun v14 H14 s14 d14 => ⟨sz2 _ _, fun D hD => ?_⟩⟩⟩
      have s15 := Same.new (o := .lst [v13, v14]) hD
      have e15 : upd H14 D (.lst [v13, v14]) D = some (.lst [v13, v14]) := upd_same
      have d13 : Dp K _ v13 (.tuple [.str "told", .int (((split ts).length : Nat) : Int)]) := (d13.mono s14).mono s15
      have d14 : Dp K _ v14 (.tuple [.str "told", tssD (split ts)]) := d14.mono s15
      have sx := ((s12.trans s13).trans s14).trans s15
      have r15 := r12.mono ((s13.trans s14).trans s15)
      clear s15 s12 s13 s14
      revert e15 d13 d14 sx r15
      generalize upd H14 D _ = H15
      intro e15 d13 d14 sx r15
      obtain ⟨ps, p1, p2, p3⟩ := id r15
      refine ⟨_, rfl, _, rfl, q, _, rfl, .inl (.inl (.inl p1)), sz2 _ _, fun t1 h1 => ⟨_, rfl, sz2 _ _, fun t2 h2 => ⟨sz2 _ _, fun D2 hD2 => ?_⟩⟩⟩
      rw [List.length_map, p2] at h2 hD2 ⊢
      have u1 := Same.new (o := .tup [.str "told", .int (((split ts).length : Nat) : Int)]) h1
      have u2 := Same.new (o := .tup [.str "told", .ref q]) h2
      have u3 := Same.new (o := .lst [.ref t1, .ref t2]) hD2
      have uu := (u1.trans u2).trans u3
      refine ⟨.ref D, .ref D2, .list [.tuple [.str "told", .int (((split ts).length : Nat) : Int)], .tuple [.str "told", tssD (split ts)]], rfl, .lst (.inl (.inl (uu _ _ e15))) (.cons (d13.mono uu) (.cons (d14.mono uu) .nil)), .lst (.inl (.inl upd_same)) (.cons (.tup (.inl (.inl (u3 _ _ (u2 _ _ upd_same)))) (.cons (.str _) (.cons (.int _) .nil))) (.cons (.tup (.inl (.inl (u3 _ _ upd_same))) (.cons (.str _) (.cons (r15.mono uu).dp .nil))) .nil)), ⟨by show 2 ≤ 10000; decide, fun x hx => ?_⟩, fun H16 s16 => ⟨_, rfl, ifF rfl ?_⟩⟩
      · rcases List.mem_cons.mp hx with rfl | hx
        · exact smK_tol (n := 5) trivial
        · rw [List.mem_singleton.mp hx]
          exact smK_tol (n := 5) smS
      have sy := (sx.trans uu).trans s16
      have r16 := (r15.mono uu).mono s16
      clear u1 u2 u3 uu s16 r15 d13 d14 e15 sx p1 p2 p3 h1 h2 hD2
      -- cut(handed)[0].append(..)
      refine ⟨_, rfl, .ref h, .ok ts, rfl, jh sy, fun ts' e q7 H17 s17 t17 => ?_, fun i e => by cases e⟩
      obtain rfl : ts = ts' := by injection e
      obtain ⟨ps7, g1, g2, g3, g4, g5, g6, g7⟩ := id t17
      have hl0 := List.length_pos_iff.mpr hsn
      have hp7 : ps7[0]? = some (ps7[0]'(by omega)) := List.getElem?_eq_getElem _
      have ht7 : (split ts)[0]? = some ((split ts)[0]'hl0) := List.getElem?_eq_getElem _
      obtain ⟨vs7, v7, w7⟩ := g7 0 _ _ hp7 ht7
      have z7 := g5 _ (List.mem_of_getElem? hp7)
      have hv7 := w7.len
      have hl7 := len_flat (List.mem_of_getElem? ht7)
      rw [sp] at hl7
      revert hp7 v7 z7
      generalize ps7[0]'(by omega) = p7
      intro hp7 v7 z7
      refine ⟨q7, _, 0, .ref p7, rfl, rfl, .inl (.inl g1), atI_nat (j := 0) (by rw [List.getElem?_map, hp7]; rfl), ?_⟩
      refine ⟨.inl ⟨rfl, _, .inl (.inl v7)⟩, sz1 _, fun t8 ht8 => ?_⟩
      have s8 := Same.new (o := .tup [.str "set"]) ht8
      refine ⟨p7, vs7, _, rfl, rfl, s8 _ _ v7, lt_sz (by omega), ?_⟩
      have s9 := Same.updN (o := .lst (vs7 ++ [.ref t8])) (s17.trans s8) z7
      have sz := sy.trans s9
      have r9 := r16.mono s9
      clear g1 g2 g3 g4 g5 g6 g7 t17 w7 hp7 ht7 s9 s8
      revert sz r9
      generalize upd (upd H17 t8 _) p7 _ = H18
      intro sz r9
      -- the same still
      refine ⟨_, rfl, _, rfl, .ref h, .ref l, .list (ts.map Tk.d), rfl, .lst (.inl (.inl (sz _ _ e11))) (L11.hd.mono sz), .lst (.inl (.inl (sz _ _ L11.hl))) (L11.hd.mono sz), smK_tks hok (by omega), fun H19 s19 => ?_⟩
      refine ⟨_, rfl, ?_⟩
      rw [if_pos rfl]
      refine ⟨_, rfl, .ref h, .ok ts, rfl, jh (sz.trans s19), fun ts' e q20 H20 s20 t20 => ?_, fun i e => by cases e⟩
      obtain rfl : ts = ts' := by injection e
      exact ⟨_, rfl, .ref q20, .ref q, tssD (split ts), rfl, t20.r.dp, ((r9.mono s19).mono s20).dp, smS, fun H21 s21 => k H21⟩
end
end Op
namespace Op
open PySem L2 PyProof.Rows PySem.XL
theorem vals_app : ∀ {vs ws : List V} {us zs : List Value}, Vals vs us → Vals ws zs → Vals (vs ++ ws) (us ++ zs)
  | _, _, _, _, .nil, h => h
  | _, _, _, _, .cons a b, h => .cons a (vals_app b h)
theorem kb_prog0 {K : PySem.W.Frag} {D pI : Addr} {doc pm cdv ct : Value} {an : Option Addr} (h1 : PySem.W.nsIn K D "asks" = some (some .none)) (h2 : PySem.W.nsIn K D "signals" = some (some .none)) (h3 : PySem.W.nsIn K D "inputs" = some (some (.ref pI))) :
    KBn K (PySem.W.fnOf "__init__" "Program.__init__" (defArgs s_Program___init__) (defBody s_Program___init__) (defScope s_Program___init__) .none (.ref D) doc pm an cdv ct) ["self", "rows", "asks", "signals", "inputs"] 2 [] (fun us _ => us ++ [.none, .none, .ref pI]) (fun vs _ => vs ++ [.non, .non, .ref pI]) := by
  refine ⟨fun s us ws X l1 l2 => ?_, fun r1 _ => vals_app r1 (.cons rfl (.cons rfl (.cons rfl .nil)))⟩
  match us, l1, ws, l2 with
  | [a, b], _, [], _ =>
    refine BindsTo.of_looks fun M => KwChain.looks (l := [("asks", .none), ("signals", .none), ("inputs", .ref pI)]) X (fun q hq => ?_) ⟨_, _, _, _, _, _, rfl, rfl, _, _, _, _, _, _, rfl, rfl, _, _, _, _, _, _, rfl, rfl, rfl⟩
    rcases List.mem_cons.mp hq with rfl | hq
    · exact h1
    · rcases List.mem_cons.mp hq with rfl | hq
      · exact h2
      · rw [List.mem_singleton.mp hq]
        exact h3
theorem exm_own {K : PySem.W.Frag} {C : Addr} (hb : PySem.W.subIn K (.ref C) (.type "BaseException") = some true) (hi : PySem.W.isClsIn K C = true) (ht : PySem.W.typeIn K (.ref C) = some (.type "type")) (hs : PySem.W.subIn K (.ref C) (.ref C) = some true) : PySem.W.exmOne K (.ref C) (.ref C) = some true := by
  unfold PySem.W.exmOne
  rw [hb, if_pos (by simp)]
  have hi' : (PySem.W.clsIn K C).isSome = true := hi
  show (if ((PySem.W.clsIn K C).isSome && PySem.W.typeIn K (.ref C) == some (.type "type")) = true then PySem.W.subIn K (.ref C) (.ref C) else none) = some true
  rw [hi', ht, if_pos (by simp)]
  exact hs
theorem kit_own {K : PySem.W.Frag} {t : Value} {C : Addr} {b : Bool} (hn : (t == Value.ref C) = false) (hi : PySem.W.isClsIn K C = true) (ht : PySem.W.typeIn K (.ref C) = some (.type "type")) (hs : PySem.W.subIn K t (.ref C) = some b) : PySem.W.kitOne K t (.ref C) = some b := by
  unfold PySem.W.kitOne
  rw [hn, if_neg Bool.false_ne_true]
  unfold PySem.W.kitCls
  have hi' : (PySem.W.clsIn K C).isSome = true := hi
  simp [ht, hi', hs]
theorem Sh_InvalidProgram : ∃ (Ps : Ps2) (a1 a2 a3 : Pos), defArgs s_InvalidProgram___init__ = args2 a1 a2 a3 "part" "path" ∧ defBody s_InvalidProgram___init__ = body2 Ps "invalid program" "part" "path" ∧ defScope s_InvalidProgram___init__ = scope2 "part" "path" ∧ ∀ fI, EvOk "InvalidProgram.__init__" (scope2 "part" "path") fI Ps.toPs1 "invalid program" :=
  ⟨⟨⟨_, _, _, _, _, _, _, _, _, _, _⟩, _, _, _, _⟩, _, _, _, rfl, rfl, rfl, fun fI L cda cc => ⟨_, rfl, rfl, rfl⟩⟩
theorem Xm_InvalidProgram {P : Program} {w : World} {K : PySem.W.Frag} {C fI : Addr} (T : XCls P K C) (Fn : XFn P K C fI "InvalidProgram.__init__" (defArgs s_InvalidProgram___init__) (defBody s_InvalidProgram___init__) (defScope s_InvalidProgram___init__)) (nof : PySem.W.findIn K (.ref C) "part" = some none) (nof2 : PySem.W.findIn K (.ref C) "path" = some none) :
    XMk P w K C 2 [] (fun vs _ => [("path", vs.getD 1 .non), ("part", vs.getD 0 .non)]) ∧ XMk P w K C 0 ["path", "part"] (fun _ zs => [("path", zs.getD 0 .non), ("part", zs.getD 1 .non)]) := by
  obtain ⟨Ps, a1, a2, a3, e1, e2, e3, ev⟩ := Sh_InvalidProgram
  rw [e1, e2, e3] at Fn
  exact ⟨xmk2 T Fn (by decide +kernel) (by decide +kernel) (by decide +kernel) nof nof2 (ev fI) fun s x v v2 kV doc pm an cdv ct cc => .of_eq rfl, xmk2k T Fn (by decide +kernel) (by decide +kernel) (by decide +kernel) nof nof2 (ev fI) fun s x v v2 kV doc pm an cdv ct cc => .of_eq rfl⟩
theorem Sh_InvalidHistory : ∃ (Ps : Ps1) (a1 a2 : Pos), defArgs s_InvalidHistory___init__ = args1 a1 a2 "at" ∧ defBody s_InvalidHistory___init__ = body1 Ps "invalid history" "at" ∧ defScope s_InvalidHistory___init__ = scope1 "at" ∧ ∀ fI, EvOk "InvalidHistory.__init__" (scope1 "at") fI Ps "invalid history" :=
  ⟨⟨_, _, _, _, _, _, _, _, _, _, _⟩, _, _, rfl, rfl, rfl, fun fI L cda cc => ⟨_, rfl, rfl, rfl⟩⟩
theorem Xm_InvalidHistory {P : Program} {w : World} {K : PySem.W.Frag} {C fI : Addr} (T : XCls P K C) (Fn : XFn P K C fI "InvalidHistory.__init__" (defArgs s_InvalidHistory___init__) (defBody s_InvalidHistory___init__) (defScope s_InvalidHistory___init__)) (nof : PySem.W.findIn K (.ref C) "at" = some none) :
    XMk P w K C 1 [] (fun vs _ => [("at", vs.headD .non)]) ∧ XMk P w K C 0 ["at"] (fun _ zs => [("at", zs.headD .non)]) := by
  obtain ⟨Ps, a1, a2, e1, e2, e3, ev⟩ := Sh_InvalidHistory
  rw [e1, e2, e3] at Fn
  exact ⟨xmk1 T Fn (by decide +kernel) nof (ev fI) fun s x v kV doc pm an cdv ct cc => .of_eq rfl, xmk1k T Fn (by decide +kernel) nof (ev fI) fun s x v kV doc pm an cdv ct cc => .of_eq rfl⟩
theorem Sh_InvalidArgument : ∃ (Ps : Ps1) (a1 a2 : Pos), defArgs s_InvalidArgument___init__ = args1 a1 a2 "part" ∧ defBody s_InvalidArgument___init__ = body1 Ps "invalid argument" "part" ∧ defScope s_InvalidArgument___init__ = scope1 "part" ∧ ∀ fI, EvOk "InvalidArgument.__init__" (scope1 "part") fI Ps "invalid argument" :=
  ⟨⟨_, _, _, _, _, _, _, _, _, _, _⟩, _, _, rfl, rfl, rfl, fun fI L cda cc => ⟨_, rfl, rfl, rfl⟩⟩
theorem Xm_InvalidArgument {P : Program} {w : World} {K : PySem.W.Frag} {C fI : Addr} (T : XCls P K C) (Fn : XFn P K C fI "InvalidArgument.__init__" (defArgs s_InvalidArgument___init__) (defBody s_InvalidArgument___init__) (defScope s_InvalidArgument___init__)) (nof : PySem.W.findIn K (.ref C) "part" = some none) :
    XMk P w K C 1 [] (fun vs _ => [("part", vs.headD .non)]) ∧ XMk P w K C 0 ["part"] (fun _ zs => [("part", zs.headD .non)]) := by
  obtain ⟨Ps, a1, a2, e1, e2, e3, ev⟩ := Sh_InvalidArgument
  rw [e1, e2, e3] at Fn
  exact ⟨xmk1 T Fn (by decide +kernel) nof (ev fI) fun s x v kV doc pm an cdv ct cc => .of_eq rfl, xmk1k T Fn (by decide +kernel) nof (ev fI) fun s x v kV doc pm an cdv ct cc => .of_eq rfl⟩
theorem all_mk {w : World} {K : PySem.W.Frag} {h : Heap} {mg : Str → Option Value} {fa p_SHAPES p_FORMS p_OUTER p_NUMBERED p_LAST c_InputError c_OpenError c_RunError c_InvalidHistory i_InvalidHistory c_InvalidArgument i_InvalidArgument c_InvalidProgram i_InvalidProgram g_is_integer g_is_word g_are_words g_is_branches g_inner_lists g_with_lists g_copy_row g_copy_rows g_checked_asks g_is_box g_checked_signals g_checked_inputs g_has_form g_is_outer g_suits_things g_enter_token g_check_tokens g_split_turns g_check g_cut g_check_program g_replayed g_read g_good_turns g_resume g__law_bag g__law_draw g__law_one g__law_words g__law_word g__law_same g__law_token g__law_odd g__law_fits g__law_enter g__law_fault g__law_told g__law_history g__law_turns g__law_no_program g_law c_RowCheck m_RowCheck___init__ m_RowCheck_check m_RowCheck_check_sizes m_RowCheck_check_list m_RowCheck_fits m_RowCheck_id_fits m_RowCheck_part_fits m_RowCheck_collect c_Program m_Program___init__ p_kw p_go m_Program_add_rows : Addr} (X : K.In h) (G : h.Ns mainGlobals mg) (hfa : mg "law" = some (.ref fa))
    {tk_LETTERS : Tok}
    {tk_MOST_ROWS : Tok}
    {tk_MOST_LABELS : Tok}
    {tk_MOST_SLOTS : Tok}
    {tk_MOST_GATES : Tok}
    {tk_MOST_EDITS : Tok}
    {tk_DEEPEST : Tok}
    {es_SHAPES : Array DictEntry} {en_SHAPES : Nat}
    {es_FORMS : Array DictEntry} {en_FORMS : Nat}
    {nm_InvalidHistory q_InvalidHistory : Str} {N_InvalidHistory : Addr} {bs_InvalidHistory : List Value} {sn_InvalidHistory : List Str} {sub_InvalidHistory : List Value} {ab_InvalidHistory : Bool} {col_InvalidHistory : Option Bool} {dd_InvalidHistory : Option Addr} {ka_InvalidHistory kb_InvalidHistory kc_InvalidHistory kd_InvalidHistory ke_InvalidHistory : Option Value}
    {oc_InvalidHistory kV_InvalidHistory dc_InvalidHistory pm_InvalidHistory ct_InvalidHistory ccl_InvalidHistory cll_InvalidHistory : Value} {od_InvalidHistory an_InvalidHistory cdd_InvalidHistory cld_InvalidHistory : Option Addr} {cd_InvalidHistory cc_InvalidHistory : Addr} {sl_InvalidHistory ccs_InvalidHistory csl_InvalidHistory : Array (Option Value)} {vs_InvalidHistory : Array Value} {fl_InvalidHistory : Str} {tf_InvalidHistory : Tok}
    {nm_InvalidArgument q_InvalidArgument : Str} {N_InvalidArgument : Addr} {bs_InvalidArgument : List Value} {sn_InvalidArgument : List Str} {sub_InvalidArgument : List Value} {ab_InvalidArgument : Bool} {col_InvalidArgument : Option Bool} {dd_InvalidArgument : Option Addr} {ka_InvalidArgument kb_InvalidArgument kc_InvalidArgument kd_InvalidArgument ke_InvalidArgument : Option Value}
    {oc_InvalidArgument kV_InvalidArgument dc_InvalidArgument pm_InvalidArgument ct_InvalidArgument ccl_InvalidArgument cll_InvalidArgument : Value} {od_InvalidArgument an_InvalidArgument cdd_InvalidArgument cld_InvalidArgument : Option Addr} {cd_InvalidArgument cc_InvalidArgument : Addr} {sl_InvalidArgument ccs_InvalidArgument csl_InvalidArgument : Array (Option Value)} {vs_InvalidArgument : Array Value} {fl_InvalidArgument : Str} {tf_InvalidArgument : Tok}
    {nm_InvalidProgram q_InvalidProgram : Str} {N_InvalidProgram : Addr} {bs_InvalidProgram : List Value} {sn_InvalidProgram : List Str} {sub_InvalidProgram : List Value} {ab_InvalidProgram : Bool} {col_InvalidProgram : Option Bool} {dd_InvalidProgram : Option Addr} {ka_InvalidProgram kb_InvalidProgram kc_InvalidProgram kd_InvalidProgram ke_InvalidProgram : Option Value}
    {oc_InvalidProgram kV_InvalidProgram dc_InvalidProgram pm_InvalidProgram ct_InvalidProgram ccl_InvalidProgram cll_InvalidProgram : Value} {od_InvalidProgram an_InvalidProgram cdd_InvalidProgram cld_InvalidProgram : Option Addr} {cd_InvalidProgram cc_InvalidProgram : Addr} {sl_InvalidProgram ccs_InvalidProgram csl_InvalidProgram : Array (Option Value)} {vs_InvalidProgram : Array Value} {fl_InvalidProgram : Str} {tf_InvalidProgram : Tok}
    {xo_is_integer xk_is_integer xc_is_integer xp_is_integer xe_is_integer xt_is_integer : Value} {xd_is_integer xa_is_integer : Option Addr} {xs_is_integer : Array (Option Value)}
    {xo_is_word xk_is_word xc_is_word xp_is_word xe_is_word xt_is_word : Value} {xd_is_word xa_is_word : Option Addr} {xs_is_word : Array (Option Value)}
    {xo_are_words xk_are_words xc_are_words xp_are_words xe_are_words xt_are_words : Value} {xd_are_words xa_are_words : Option Addr} {xs_are_words : Array (Option Value)}
    {xo_is_branches xk_is_branches xc_is_branches xp_is_branches xe_is_branches xt_is_branches : Value} {xd_is_branches xa_is_branches : Option Addr} {xs_is_branches : Array (Option Value)}
    {xo_inner_lists xk_inner_lists xc_inner_lists xp_inner_lists xe_inner_lists xt_inner_lists : Value} {xd_inner_lists xa_inner_lists : Option Addr} {xs_inner_lists : Array (Option Value)}
    {xo_with_lists xk_with_lists xc_with_lists xp_with_lists xe_with_lists xt_with_lists : Value} {xd_with_lists xa_with_lists : Option Addr} {xs_with_lists : Array (Option Value)}
    {xo_copy_row xk_copy_row xc_copy_row xp_copy_row xe_copy_row xt_copy_row : Value} {xd_copy_row xa_copy_row : Option Addr} {xs_copy_row : Array (Option Value)}
    {xo_copy_rows xk_copy_rows xc_copy_rows xp_copy_rows xe_copy_rows xt_copy_rows : Value} {xd_copy_rows xa_copy_rows : Option Addr} {xs_copy_rows : Array (Option Value)}
    {xo_checked_asks xk_checked_asks xc_checked_asks xp_checked_asks xe_checked_asks xt_checked_asks : Value} {xd_checked_asks xa_checked_asks : Option Addr} {xs_checked_asks : Array (Option Value)}
    {xo_is_box xk_is_box xc_is_box xp_is_box xe_is_box xt_is_box : Value} {xd_is_box xa_is_box : Option Addr} {xs_is_box : Array (Option Value)}
    {xo_checked_signals xk_checked_signals xc_checked_signals xp_checked_signals xe_checked_signals xt_checked_signals : Value} {xd_checked_signals xa_checked_signals : Option Addr} {xs_checked_signals : Array (Option Value)}
    {xo_checked_inputs xk_checked_inputs xc_checked_inputs xp_checked_inputs xe_checked_inputs xt_checked_inputs : Value} {xd_checked_inputs xa_checked_inputs : Option Addr} {xs_checked_inputs : Array (Option Value)}
    {xo_has_form xk_has_form xc_has_form xp_has_form xe_has_form xt_has_form : Value} {xd_has_form xa_has_form : Option Addr} {xs_has_form : Array (Option Value)}
    {xo_is_outer xk_is_outer xc_is_outer xp_is_outer xe_is_outer xt_is_outer : Value} {xd_is_outer xa_is_outer : Option Addr} {xs_is_outer : Array (Option Value)}
    {xo_suits_things xk_suits_things xc_suits_things xp_suits_things xe_suits_things xt_suits_things : Value} {xd_suits_things xa_suits_things : Option Addr} {xs_suits_things : Array (Option Value)}
    {xo_enter_token xk_enter_token xc_enter_token xp_enter_token xe_enter_token xt_enter_token : Value} {xd_enter_token xa_enter_token : Option Addr} {xs_enter_token : Array (Option Value)}
    {xo_check_tokens xk_check_tokens xc_check_tokens xp_check_tokens xe_check_tokens xt_check_tokens : Value} {xd_check_tokens xa_check_tokens : Option Addr} {xs_check_tokens : Array (Option Value)}
    {xo_split_turns xk_split_turns xc_split_turns xp_split_turns xe_split_turns xt_split_turns : Value} {xd_split_turns xa_split_turns : Option Addr} {xs_split_turns : Array (Option Value)}
    {xo_check xk_check xc_check xp_check xe_check xt_check : Value} {xd_check xa_check : Option Addr} {xs_check : Array (Option Value)}
    {xo_cut xk_cut xc_cut xp_cut xe_cut xt_cut : Value} {xd_cut xa_cut : Option Addr} {xs_cut : Array (Option Value)}
    {xo_check_program xk_check_program xc_check_program xp_check_program xe_check_program xt_check_program : Value} {xd_check_program xa_check_program : Option Addr} {xs_check_program : Array (Option Value)}
    {xo_replayed xk_replayed xc_replayed xp_replayed xe_replayed xt_replayed : Value} {xd_replayed xa_replayed : Option Addr} {xs_replayed : Array (Option Value)}
    {xo_read xk_read xc_read xp_read xe_read xt_read : Value} {xd_read xa_read : Option Addr} {xs_read : Array (Option Value)}
    {xo_good_turns xk_good_turns xc_good_turns xp_good_turns xe_good_turns xt_good_turns : Value} {xd_good_turns xa_good_turns : Option Addr} {xs_good_turns : Array (Option Value)}
    {xo_resume xk_resume xc_resume xp_resume xe_resume xt_resume : Value} {xd_resume xa_resume : Option Addr} {xs_resume : Array (Option Value)}
    {xo__law_bag xk__law_bag xc__law_bag xp__law_bag xe__law_bag xt__law_bag : Value} {xd__law_bag xa__law_bag : Option Addr} {xs__law_bag : Array (Option Value)}
    {xo__law_draw xk__law_draw xc__law_draw xp__law_draw xe__law_draw xt__law_draw : Value} {xd__law_draw xa__law_draw : Option Addr} {xs__law_draw : Array (Option Value)}
    {xo__law_one xk__law_one xc__law_one xp__law_one xe__law_one xt__law_one : Value} {xd__law_one xa__law_one : Option Addr} {xs__law_one : Array (Option Value)}
    {xo__law_words xk__law_words xc__law_words xp__law_words xe__law_words xt__law_words : Value} {xd__law_words xa__law_words : Option Addr} {xs__law_words : Array (Option Value)}
    {xo__law_word xk__law_word xc__law_word xp__law_word xe__law_word xt__law_word : Value} {xd__law_word xa__law_word : Option Addr} {xs__law_word : Array (Option Value)}
    {xo__law_same xk__law_same xc__law_same xp__law_same xe__law_same xt__law_same : Value} {xd__law_same xa__law_same : Option Addr} {xs__law_same : Array (Option Value)}
    {xo__law_token xk__law_token xc__law_token xp__law_token xe__law_token xt__law_token : Value} {xd__law_token xa__law_token : Option Addr} {xs__law_token : Array (Option Value)}
    {xo__law_odd xk__law_odd xc__law_odd xp__law_odd xe__law_odd xt__law_odd : Value} {xd__law_odd xa__law_odd : Option Addr} {xs__law_odd : Array (Option Value)}
    {xo__law_fits xk__law_fits xc__law_fits xp__law_fits xe__law_fits xt__law_fits : Value} {xd__law_fits xa__law_fits : Option Addr} {xs__law_fits : Array (Option Value)}
    {xo__law_enter xk__law_enter xc__law_enter xp__law_enter xe__law_enter xt__law_enter : Value} {xd__law_enter xa__law_enter : Option Addr} {xs__law_enter : Array (Option Value)}
    {xo__law_fault xk__law_fault xc__law_fault xp__law_fault xe__law_fault xt__law_fault : Value} {xd__law_fault xa__law_fault : Option Addr} {xs__law_fault : Array (Option Value)}
    {xo__law_told xk__law_told xc__law_told xp__law_told xe__law_told xt__law_told : Value} {xd__law_told xa__law_told : Option Addr} {xs__law_told : Array (Option Value)}
    {xo__law_history xk__law_history xc__law_history xp__law_history xe__law_history xt__law_history : Value} {xd__law_history xa__law_history : Option Addr} {xs__law_history : Array (Option Value)}
    {xo__law_turns xk__law_turns xc__law_turns xp__law_turns xe__law_turns xt__law_turns : Value} {xd__law_turns xa__law_turns : Option Addr} {xs__law_turns : Array (Option Value)}
    {xo__law_no_program xk__law_no_program xc__law_no_program xp__law_no_program xe__law_no_program xt__law_no_program : Value} {xd__law_no_program xa__law_no_program : Option Addr} {xs__law_no_program : Array (Option Value)}
    {xo_law xk_law xc_law xp_law xe_law xt_law : Value} {xd_law xa_law : Option Addr} {xs_law : Array (Option Value)}
    {xo_RowCheck___init__ xk_RowCheck___init__ xc_RowCheck___init__ xp_RowCheck___init__ xe_RowCheck___init__ xt_RowCheck___init__ : Value} {xd_RowCheck___init__ xa_RowCheck___init__ : Option Addr} {xs_RowCheck___init__ : Array (Option Value)}
    {xo_RowCheck_check xk_RowCheck_check xc_RowCheck_check xp_RowCheck_check xe_RowCheck_check xt_RowCheck_check : Value} {xd_RowCheck_check xa_RowCheck_check : Option Addr} {xs_RowCheck_check : Array (Option Value)}
    {xo_RowCheck_check_sizes xk_RowCheck_check_sizes xc_RowCheck_check_sizes xp_RowCheck_check_sizes xe_RowCheck_check_sizes xt_RowCheck_check_sizes : Value} {xd_RowCheck_check_sizes xa_RowCheck_check_sizes : Option Addr} {xs_RowCheck_check_sizes : Array (Option Value)}
    {xo_RowCheck_check_list xk_RowCheck_check_list xc_RowCheck_check_list xp_RowCheck_check_list xe_RowCheck_check_list xt_RowCheck_check_list : Value} {xd_RowCheck_check_list xa_RowCheck_check_list : Option Addr} {xs_RowCheck_check_list : Array (Option Value)}
    {xo_RowCheck_fits xk_RowCheck_fits xc_RowCheck_fits xp_RowCheck_fits xe_RowCheck_fits xt_RowCheck_fits : Value} {xd_RowCheck_fits xa_RowCheck_fits : Option Addr} {xs_RowCheck_fits : Array (Option Value)}
    {xo_RowCheck_id_fits xk_RowCheck_id_fits xc_RowCheck_id_fits xp_RowCheck_id_fits xe_RowCheck_id_fits xt_RowCheck_id_fits : Value} {xd_RowCheck_id_fits xa_RowCheck_id_fits : Option Addr} {xs_RowCheck_id_fits : Array (Option Value)}
    {xo_RowCheck_part_fits xk_RowCheck_part_fits xc_RowCheck_part_fits xp_RowCheck_part_fits xe_RowCheck_part_fits xt_RowCheck_part_fits : Value} {xd_RowCheck_part_fits xa_RowCheck_part_fits : Option Addr} {xs_RowCheck_part_fits : Array (Option Value)}
    {xo_RowCheck_collect xk_RowCheck_collect xc_RowCheck_collect xp_RowCheck_collect xe_RowCheck_collect xt_RowCheck_collect : Value} {xd_RowCheck_collect xa_RowCheck_collect : Option Addr} {xs_RowCheck_collect : Array (Option Value)}
    {xo_Program___init__ xc_Program___init__ xp_Program___init__ xe_Program___init__ xt_Program___init__ : Value} {xd_Program___init__ xa_Program___init__ : Option Addr} {xs_Program___init__ : Array (Option Value)}
    {xo_Program_add_rows xk_Program_add_rows xc_Program_add_rows xp_Program_add_rows xe_Program_add_rows xt_Program_add_rows : Value} {xd_Program_add_rows xa_Program_add_rows : Option Addr} {xs_Program_add_rows : Array (Option Value)}
    (z_len : PySem.W.nsIn K mainGlobals "len" = some none)
    (z_int : PySem.W.nsIn K mainGlobals "int" = some none)
    (z_bool : PySem.W.nsIn K mainGlobals "bool" = some none)
    (z_str : PySem.W.nsIn K mainGlobals "str" = some none)
    (z_list : PySem.W.nsIn K mainGlobals "list" = some none)
    (z_tuple : PySem.W.nsIn K mainGlobals "tuple" = some none)
    (z_dict : PySem.W.nsIn K mainGlobals "dict" = some none)
    (z_set : PySem.W.nsIn K mainGlobals "set" = some none)
    (z_range : PySem.W.nsIn K mainGlobals "range" = some none)
    (z_zip : PySem.W.nsIn K mainGlobals "zip" = some none)
    (z_enumerate : PySem.W.nsIn K mainGlobals "enumerate" = some none)
    (z_sorted : PySem.W.nsIn K mainGlobals "sorted" = some none)
    (z_isinstance : PySem.W.nsIn K mainGlobals "isinstance" = some none)
    (z_LETTERS : PySem.W.nsIn K mainGlobals "LETTERS" = some (some (.str "abcdefghijklmnopqrstuvwxyz" tk_LETTERS)))
    (z_MOST_ROWS : PySem.W.nsIn K mainGlobals "MOST_ROWS" = some (some (.int 60 tk_MOST_ROWS)))
    (z_MOST_LABELS : PySem.W.nsIn K mainGlobals "MOST_LABELS" = some (some (.int 6 tk_MOST_LABELS)))
    (z_MOST_SLOTS : PySem.W.nsIn K mainGlobals "MOST_SLOTS" = some (some (.int 4 tk_MOST_SLOTS)))
    (z_MOST_GATES : PySem.W.nsIn K mainGlobals "MOST_GATES" = some (some (.int 8 tk_MOST_GATES)))
    (z_MOST_EDITS : PySem.W.nsIn K mainGlobals "MOST_EDITS" = some (some (.int 4 tk_MOST_EDITS)))
    (z_DEEPEST : PySem.W.nsIn K mainGlobals "DEEPEST" = some (some (.int 5 tk_DEEPEST)))
    (A_SHAPES : PySem.W.nsIn K mainGlobals "SHAPES" = some (some (.ref p_SHAPES)))
    (L_SHAPES : K.lookup p_SHAPES = some ⟨.type "dict", none, .dict es_SHAPES en_SHAPES, #[]⟩)
    (E_SHAPES : Ents w.params es_SHAPES.toList (shapes.map fun p => (p.1, V.str p.2)))
    (S_SHAPES : (p_SHAPES == sysModules) = false)
    (A_FORMS : PySem.W.nsIn K mainGlobals "FORMS" = some (some (.ref p_FORMS)))
    (L_FORMS : K.lookup p_FORMS = some ⟨.type "dict", none, .dict es_FORMS en_FORMS, #[]⟩)
    (E_FORMS : Ents w.params es_FORMS.toList (forms.map fun p => (p.1, V.str p.2)))
    (S_FORMS : (p_FORMS == sysModules) = false)
    (A_OUTER : PySem.W.nsIn K mainGlobals "OUTER" = some (some (.ref p_OUTER)))
    (S_OUTER : ∀ H, SqT K H p_OUTER (List.map V.str ["begin", "answer", "rang", "signal"]))
    (A_NUMBERED : PySem.W.nsIn K mainGlobals "NUMBERED" = some (some (.ref p_NUMBERED)))
    (S_NUMBERED : ∀ H, SqT K H p_NUMBERED (List.map V.str ["answer", "rang", "dropped"]))
    (A_LAST : PySem.W.nsIn K mainGlobals "LAST" = some (some (.ref p_LAST)))
    (S_LAST : ∀ H, SqT K H p_LAST (List.map V.str ["ended", "anew"]))
    (opq : PySem.W.nsIn K cStatics "thirdparty.any" = some none)
    (sg : PySem.W.nsIn K mainGlobals "super" = some none)
    (A_InputError : PySem.W.nsIn K mainGlobals "InputError" = some (some (.ref c_InputError)))
    (A_OpenError : PySem.W.nsIn K mainGlobals "OpenError" = some (some (.ref c_OpenError)))
    (A_RunError : PySem.W.nsIn K mainGlobals "RunError" = some (some (.ref c_RunError)))
    (A_InvalidHistory : PySem.W.nsIn K mainGlobals "InvalidHistory" = some (some (.ref c_InvalidHistory)))
    (l_InvalidHistory : K.lookup c_InvalidHistory = some (excClassObj nm_InvalidHistory q_InvalidHistory c_InvalidHistory N_InvalidHistory bs_InvalidHistory [.ref c_InputError, .ref c_OpenError, .type "LookupError", .type "Exception", .type "BaseException", .type "object"] true sn_InvalidHistory sub_InvalidHistory ab_InvalidHistory col_InvalidHistory dd_InvalidHistory ka_InvalidHistory kb_InvalidHistory kc_InvalidHistory kd_InvalidHistory ke_InvalidHistory "LookupError.__new__"))
    (sa_InvalidHistory : PySem.W.findIn K (.ref c_InvalidHistory) "__setattr__" = some (some (.builtin "object.__setattr__")))
    (su_InvalidHistory : PySem.W.ks_superIn K c_InvalidHistory c_InvalidHistory "__init__" = some (some (.builtin "LookupError.__init__")))
    (ii_InvalidHistory : PySem.W.findIn K (.ref c_InvalidHistory) "__init__" = some (some (.ref i_InvalidHistory)))
    (ti_InvalidHistory : PySem.W.typeIn K (.ref i_InvalidHistory) = some (.type "function"))
    (lf_InvalidHistory : K.lookup i_InvalidHistory = some ⟨oc_InvalidHistory, od_InvalidHistory, .func (PySem.W.ksFn "__init__" "InvalidHistory.__init__" (defArgs s_InvalidHistory___init__) (defBody s_InvalidHistory___init__) (defScope s_InvalidHistory___init__) .none kV_InvalidHistory dc_InvalidHistory pm_InvalidHistory an_InvalidHistory (.ref cd_InvalidHistory) ct_InvalidHistory cc_InvalidHistory), sl_InvalidHistory⟩)
    (cf_InvalidHistory : PySem.W.codeIn K (.ref cd_InvalidHistory) "InvalidHistory.__init__" = true)
    (lc_InvalidHistory : K.lookup cc_InvalidHistory = some ⟨cll_InvalidHistory, cld_InvalidHistory, .cell (some (.ref c_InvalidHistory)), csl_InvalidHistory⟩)
    (ld_InvalidHistory : K.lookup cd_InvalidHistory = some ⟨ccl_InvalidHistory, cdd_InvalidHistory, .fields vs_InvalidHistory, ccs_InvalidHistory⟩)
    (v2_InvalidHistory : vs_InvalidHistory[2]? = some (.str fl_InvalidHistory tf_InvalidHistory))
    (fe_InvalidHistory : ((PP.main.file : Str) == fl_InvalidHistory) = true)
    (kp_InvalidHistory : PySem.W.keepIn K (.ref c_InvalidHistory) = true)
    (hg_InvalidHistory : PySem.W.findIn K (.ref c_InvalidHistory) "__getattribute__" = some (some (.builtin "BaseException.__getattribute__")))
    (hk_InvalidHistory : PySem.W.findIn K (.ref c_InvalidHistory) "__getattr__" = some none)
    (hs_InvalidHistory : PySem.W.subIn K (.ref c_InvalidHistory) (.type "BaseException") = some true)
    (hd_InvalidHistory : PySem.W.hasDictIn K c_InvalidHistory = true)
    (ty_InvalidHistory : PySem.W.typeIn K (.ref c_InvalidHistory) = some (.type "type"))
    (ic_InvalidHistory : PySem.W.isClsIn K c_InvalidHistory = true)
    (ss_InvalidHistory : PySem.W.subIn K (.ref c_InvalidHistory) (.ref c_InvalidHistory) = some true)
    (no_at_InvalidHistory : PySem.W.findIn K (.ref c_InvalidHistory) "at" = some none)
    (A_InvalidArgument : PySem.W.nsIn K mainGlobals "InvalidArgument" = some (some (.ref c_InvalidArgument)))
    (l_InvalidArgument : K.lookup c_InvalidArgument = some (excClassObj nm_InvalidArgument q_InvalidArgument c_InvalidArgument N_InvalidArgument bs_InvalidArgument [.ref c_InputError, .ref c_OpenError, .type "LookupError", .type "Exception", .type "BaseException", .type "object"] true sn_InvalidArgument sub_InvalidArgument ab_InvalidArgument col_InvalidArgument dd_InvalidArgument ka_InvalidArgument kb_InvalidArgument kc_InvalidArgument kd_InvalidArgument ke_InvalidArgument "LookupError.__new__"))
    (sa_InvalidArgument : PySem.W.findIn K (.ref c_InvalidArgument) "__setattr__" = some (some (.builtin "object.__setattr__")))
    (su_InvalidArgument : PySem.W.ks_superIn K c_InvalidArgument c_InvalidArgument "__init__" = some (some (.builtin "LookupError.__init__")))
    (ii_InvalidArgument : PySem.W.findIn K (.ref c_InvalidArgument) "__init__" = some (some (.ref i_InvalidArgument)))
    (ti_InvalidArgument : PySem.W.typeIn K (.ref i_InvalidArgument) = some (.type "function"))
    (lf_InvalidArgument : K.lookup i_InvalidArgument = some ⟨oc_InvalidArgument, od_InvalidArgument, .func (PySem.W.ksFn "__init__" "InvalidArgument.__init__" (defArgs s_InvalidArgument___init__) (defBody s_InvalidArgument___init__) (defScope s_InvalidArgument___init__) .none kV_InvalidArgument dc_InvalidArgument pm_InvalidArgument an_InvalidArgument (.ref cd_InvalidArgument) ct_InvalidArgument cc_InvalidArgument), sl_InvalidArgument⟩)
    (cf_InvalidArgument : PySem.W.codeIn K (.ref cd_InvalidArgument) "InvalidArgument.__init__" = true)
    (lc_InvalidArgument : K.lookup cc_InvalidArgument = some ⟨cll_InvalidArgument, cld_InvalidArgument, .cell (some (.ref c_InvalidArgument)), csl_InvalidArgument⟩)
    (ld_InvalidArgument : K.lookup cd_InvalidArgument = some ⟨ccl_InvalidArgument, cdd_InvalidArgument, .fields vs_InvalidArgument, ccs_InvalidArgument⟩)
    (v2_InvalidArgument : vs_InvalidArgument[2]? = some (.str fl_InvalidArgument tf_InvalidArgument))
    (fe_InvalidArgument : ((PP.main.file : Str) == fl_InvalidArgument) = true)
    (kp_InvalidArgument : PySem.W.keepIn K (.ref c_InvalidArgument) = true)
    (hg_InvalidArgument : PySem.W.findIn K (.ref c_InvalidArgument) "__getattribute__" = some (some (.builtin "BaseException.__getattribute__")))
    (hk_InvalidArgument : PySem.W.findIn K (.ref c_InvalidArgument) "__getattr__" = some none)
    (hs_InvalidArgument : PySem.W.subIn K (.ref c_InvalidArgument) (.type "BaseException") = some true)
    (hd_InvalidArgument : PySem.W.hasDictIn K c_InvalidArgument = true)
    (ty_InvalidArgument : PySem.W.typeIn K (.ref c_InvalidArgument) = some (.type "type"))
    (ic_InvalidArgument : PySem.W.isClsIn K c_InvalidArgument = true)
    (ss_InvalidArgument : PySem.W.subIn K (.ref c_InvalidArgument) (.ref c_InvalidArgument) = some true)
    (no_part_InvalidArgument : PySem.W.findIn K (.ref c_InvalidArgument) "part" = some none)
    (A_InvalidProgram : PySem.W.nsIn K mainGlobals "InvalidProgram" = some (some (.ref c_InvalidProgram)))
    (l_InvalidProgram : K.lookup c_InvalidProgram = some (excClassObj nm_InvalidProgram q_InvalidProgram c_InvalidProgram N_InvalidProgram bs_InvalidProgram [.ref c_InputError, .ref c_OpenError, .type "LookupError", .type "Exception", .type "BaseException", .type "object"] true sn_InvalidProgram sub_InvalidProgram ab_InvalidProgram col_InvalidProgram dd_InvalidProgram ka_InvalidProgram kb_InvalidProgram kc_InvalidProgram kd_InvalidProgram ke_InvalidProgram "LookupError.__new__"))
    (sa_InvalidProgram : PySem.W.findIn K (.ref c_InvalidProgram) "__setattr__" = some (some (.builtin "object.__setattr__")))
    (su_InvalidProgram : PySem.W.ks_superIn K c_InvalidProgram c_InvalidProgram "__init__" = some (some (.builtin "LookupError.__init__")))
    (ii_InvalidProgram : PySem.W.findIn K (.ref c_InvalidProgram) "__init__" = some (some (.ref i_InvalidProgram)))
    (ti_InvalidProgram : PySem.W.typeIn K (.ref i_InvalidProgram) = some (.type "function"))
    (lf_InvalidProgram : K.lookup i_InvalidProgram = some ⟨oc_InvalidProgram, od_InvalidProgram, .func (PySem.W.ksFn "__init__" "InvalidProgram.__init__" (defArgs s_InvalidProgram___init__) (defBody s_InvalidProgram___init__) (defScope s_InvalidProgram___init__) .none kV_InvalidProgram dc_InvalidProgram pm_InvalidProgram an_InvalidProgram (.ref cd_InvalidProgram) ct_InvalidProgram cc_InvalidProgram), sl_InvalidProgram⟩)
    (cf_InvalidProgram : PySem.W.codeIn K (.ref cd_InvalidProgram) "InvalidProgram.__init__" = true)
    (lc_InvalidProgram : K.lookup cc_InvalidProgram = some ⟨cll_InvalidProgram, cld_InvalidProgram, .cell (some (.ref c_InvalidProgram)), csl_InvalidProgram⟩)
    (ld_InvalidProgram : K.lookup cd_InvalidProgram = some ⟨ccl_InvalidProgram, cdd_InvalidProgram, .fields vs_InvalidProgram, ccs_InvalidProgram⟩)
    (v2_InvalidProgram : vs_InvalidProgram[2]? = some (.str fl_InvalidProgram tf_InvalidProgram))
    (fe_InvalidProgram : ((PP.main.file : Str) == fl_InvalidProgram) = true)
    (kp_InvalidProgram : PySem.W.keepIn K (.ref c_InvalidProgram) = true)
    (hg_InvalidProgram : PySem.W.findIn K (.ref c_InvalidProgram) "__getattribute__" = some (some (.builtin "BaseException.__getattribute__")))
    (hk_InvalidProgram : PySem.W.findIn K (.ref c_InvalidProgram) "__getattr__" = some none)
    (hs_InvalidProgram : PySem.W.subIn K (.ref c_InvalidProgram) (.type "BaseException") = some true)
    (hd_InvalidProgram : PySem.W.hasDictIn K c_InvalidProgram = true)
    (ty_InvalidProgram : PySem.W.typeIn K (.ref c_InvalidProgram) = some (.type "type"))
    (ic_InvalidProgram : PySem.W.isClsIn K c_InvalidProgram = true)
    (ss_InvalidProgram : PySem.W.subIn K (.ref c_InvalidProgram) (.ref c_InvalidProgram) = some true)
    (no_part_InvalidProgram : PySem.W.findIn K (.ref c_InvalidProgram) "part" = some none)
    (no_path_InvalidProgram : PySem.W.findIn K (.ref c_InvalidProgram) "path" = some none)
    (xa1 : PySem.W.findIn K (.ref c_InvalidHistory) "__class__" = some (some (.builtin "object.__class__")))
    (xa2 : PySem.W.specialIn K (.builtin "object.__class__") "__get__" = some (some (.builtin "getset_descriptor.__get__")))
    (xa3 : PySem.W.takesIn K (.builtin "object.__class__") = some true)
    (xa4 : PySem.W.mroIn K c_InvalidHistory (.type "object") = some true)
    (kq1s : PySem.W.subIn K (.ref c_InvalidHistory) (.ref c_InvalidArgument) = some false)
    (kq1n : (Value.ref c_InvalidHistory == Value.ref c_InvalidArgument) = false)
    (ty_RunError : PySem.W.typeIn K (.ref c_RunError) = some (.type "type"))
    (ic_RunError : PySem.W.isClsIn K c_RunError = true)
    (kq2s : PySem.W.subIn K (.ref c_InvalidHistory) (.ref c_RunError) = some false)
    (kq2n : (Value.ref c_InvalidHistory == Value.ref c_RunError) = false)
    (ty_InputError : PySem.W.typeIn K (.ref c_InputError) = some (.type "type"))
    (ic_InputError : PySem.W.isClsIn K c_InputError = true)
    (kq3s : PySem.W.subIn K (.ref c_InvalidHistory) (.ref c_InputError) = some true)
    (kq3n : (Value.ref c_InvalidHistory == Value.ref c_InputError) = false)
    (A_is_integer : PySem.W.nsIn K mainGlobals "is_integer" = some (some (.ref g_is_integer)))
    (L_is_integer : K.lookup g_is_integer = some ⟨xo_is_integer, xd_is_integer, .func (PySem.W.fnOf "is_integer" "is_integer" (defArgs s_is_integer) (defBody s_is_integer) (defScope s_is_integer) .none xk_is_integer xc_is_integer xp_is_integer xa_is_integer xe_is_integer xt_is_integer), xs_is_integer⟩)
    (D_is_integer : PySem.W.codeIn K xe_is_integer "is_integer" = true)
    (P_is_integer : PySem.W.keepIn K (.ref g_is_integer) = true)
    (A_is_word : PySem.W.nsIn K mainGlobals "is_word" = some (some (.ref g_is_word)))
    (L_is_word : K.lookup g_is_word = some ⟨xo_is_word, xd_is_word, .func (PySem.W.fnOf "is_word" "is_word" (defArgs s_is_word) (defBody s_is_word) (defScope s_is_word) .none xk_is_word xc_is_word xp_is_word xa_is_word xe_is_word xt_is_word), xs_is_word⟩)
    (D_is_word : PySem.W.codeIn K xe_is_word "is_word" = true)
    (P_is_word : PySem.W.keepIn K (.ref g_is_word) = true)
    (A_are_words : PySem.W.nsIn K mainGlobals "are_words" = some (some (.ref g_are_words)))
    (L_are_words : K.lookup g_are_words = some ⟨xo_are_words, xd_are_words, .func (PySem.W.fnOf "are_words" "are_words" (defArgs s_are_words) (defBody s_are_words) (defScope s_are_words) .none xk_are_words xc_are_words xp_are_words xa_are_words xe_are_words xt_are_words), xs_are_words⟩)
    (D_are_words : PySem.W.codeIn K xe_are_words "are_words" = true)
    (P_are_words : PySem.W.keepIn K (.ref g_are_words) = true)
    (A_is_branches : PySem.W.nsIn K mainGlobals "is_branches" = some (some (.ref g_is_branches)))
    (L_is_branches : K.lookup g_is_branches = some ⟨xo_is_branches, xd_is_branches, .func (PySem.W.fnOf "is_branches" "is_branches" (defArgs s_is_branches) (defBody s_is_branches) (defScope s_is_branches) .none xk_is_branches xc_is_branches xp_is_branches xa_is_branches xe_is_branches xt_is_branches), xs_is_branches⟩)
    (D_is_branches : PySem.W.codeIn K xe_is_branches "is_branches" = true)
    (P_is_branches : PySem.W.keepIn K (.ref g_is_branches) = true)
    (A_inner_lists : PySem.W.nsIn K mainGlobals "inner_lists" = some (some (.ref g_inner_lists)))
    (L_inner_lists : K.lookup g_inner_lists = some ⟨xo_inner_lists, xd_inner_lists, .func (PySem.W.fnOf "inner_lists" "inner_lists" (defArgs s_inner_lists) (defBody s_inner_lists) (defScope s_inner_lists) .none xk_inner_lists xc_inner_lists xp_inner_lists xa_inner_lists xe_inner_lists xt_inner_lists), xs_inner_lists⟩)
    (D_inner_lists : PySem.W.codeIn K xe_inner_lists "inner_lists" = true)
    (P_inner_lists : PySem.W.keepIn K (.ref g_inner_lists) = true)
    (A_with_lists : PySem.W.nsIn K mainGlobals "with_lists" = some (some (.ref g_with_lists)))
    (L_with_lists : K.lookup g_with_lists = some ⟨xo_with_lists, xd_with_lists, .func (PySem.W.fnOf "with_lists" "with_lists" (defArgs s_with_lists) (defBody s_with_lists) (defScope s_with_lists) .none xk_with_lists xc_with_lists xp_with_lists xa_with_lists xe_with_lists xt_with_lists), xs_with_lists⟩)
    (D_with_lists : PySem.W.codeIn K xe_with_lists "with_lists" = true)
    (P_with_lists : PySem.W.keepIn K (.ref g_with_lists) = true)
    (A_copy_row : PySem.W.nsIn K mainGlobals "copy_row" = some (some (.ref g_copy_row)))
    (L_copy_row : K.lookup g_copy_row = some ⟨xo_copy_row, xd_copy_row, .func (PySem.W.fnOf "copy_row" "copy_row" (defArgs s_copy_row) (defBody s_copy_row) (defScope s_copy_row) .none xk_copy_row xc_copy_row xp_copy_row xa_copy_row xe_copy_row xt_copy_row), xs_copy_row⟩)
    (D_copy_row : PySem.W.codeIn K xe_copy_row "copy_row" = true)
    (P_copy_row : PySem.W.keepIn K (.ref g_copy_row) = true)
    (A_copy_rows : PySem.W.nsIn K mainGlobals "copy_rows" = some (some (.ref g_copy_rows)))
    (L_copy_rows : K.lookup g_copy_rows = some ⟨xo_copy_rows, xd_copy_rows, .func (PySem.W.fnOf "copy_rows" "copy_rows" (defArgs s_copy_rows) (defBody s_copy_rows) (defScope s_copy_rows) .none xk_copy_rows xc_copy_rows xp_copy_rows xa_copy_rows xe_copy_rows xt_copy_rows), xs_copy_rows⟩)
    (D_copy_rows : PySem.W.codeIn K xe_copy_rows "copy_rows" = true)
    (P_copy_rows : PySem.W.keepIn K (.ref g_copy_rows) = true)
    (A_checked_asks : PySem.W.nsIn K mainGlobals "checked_asks" = some (some (.ref g_checked_asks)))
    (L_checked_asks : K.lookup g_checked_asks = some ⟨xo_checked_asks, xd_checked_asks, .func (PySem.W.fnOf "checked_asks" "checked_asks" (defArgs s_checked_asks) (defBody s_checked_asks) (defScope s_checked_asks) .none xk_checked_asks xc_checked_asks xp_checked_asks xa_checked_asks xe_checked_asks xt_checked_asks), xs_checked_asks⟩)
    (D_checked_asks : PySem.W.codeIn K xe_checked_asks "checked_asks" = true)
    (P_checked_asks : PySem.W.keepIn K (.ref g_checked_asks) = true)
    (A_is_box : PySem.W.nsIn K mainGlobals "is_box" = some (some (.ref g_is_box)))
    (L_is_box : K.lookup g_is_box = some ⟨xo_is_box, xd_is_box, .func (PySem.W.fnOf "is_box" "is_box" (defArgs s_is_box) (defBody s_is_box) (defScope s_is_box) .none xk_is_box xc_is_box xp_is_box xa_is_box xe_is_box xt_is_box), xs_is_box⟩)
    (D_is_box : PySem.W.codeIn K xe_is_box "is_box" = true)
    (P_is_box : PySem.W.keepIn K (.ref g_is_box) = true)
    (A_checked_signals : PySem.W.nsIn K mainGlobals "checked_signals" = some (some (.ref g_checked_signals)))
    (L_checked_signals : K.lookup g_checked_signals = some ⟨xo_checked_signals, xd_checked_signals, .func (PySem.W.fnOf "checked_signals" "checked_signals" (defArgs s_checked_signals) (defBody s_checked_signals) (defScope s_checked_signals) .none xk_checked_signals xc_checked_signals xp_checked_signals xa_checked_signals xe_checked_signals xt_checked_signals), xs_checked_signals⟩)
    (D_checked_signals : PySem.W.codeIn K xe_checked_signals "checked_signals" = true)
    (P_checked_signals : PySem.W.keepIn K (.ref g_checked_signals) = true)
    (A_checked_inputs : PySem.W.nsIn K mainGlobals "checked_inputs" = some (some (.ref g_checked_inputs)))
    (L_checked_inputs : K.lookup g_checked_inputs = some ⟨xo_checked_inputs, xd_checked_inputs, .func (PySem.W.fnOf "checked_inputs" "checked_inputs" (defArgs s_checked_inputs) (defBody s_checked_inputs) (defScope s_checked_inputs) .none xk_checked_inputs xc_checked_inputs xp_checked_inputs xa_checked_inputs xe_checked_inputs xt_checked_inputs), xs_checked_inputs⟩)
    (D_checked_inputs : PySem.W.codeIn K xe_checked_inputs "checked_inputs" = true)
    (P_checked_inputs : PySem.W.keepIn K (.ref g_checked_inputs) = true)
    (A_has_form : PySem.W.nsIn K mainGlobals "has_form" = some (some (.ref g_has_form)))
    (L_has_form : K.lookup g_has_form = some ⟨xo_has_form, xd_has_form, .func (PySem.W.fnOf "has_form" "has_form" (defArgs s_has_form) (defBody s_has_form) (defScope s_has_form) .none xk_has_form xc_has_form xp_has_form xa_has_form xe_has_form xt_has_form), xs_has_form⟩)
    (D_has_form : PySem.W.codeIn K xe_has_form "has_form" = true)
    (P_has_form : PySem.W.keepIn K (.ref g_has_form) = true)
    (A_is_outer : PySem.W.nsIn K mainGlobals "is_outer" = some (some (.ref g_is_outer)))
    (L_is_outer : K.lookup g_is_outer = some ⟨xo_is_outer, xd_is_outer, .func (PySem.W.fnOf "is_outer" "is_outer" (defArgs s_is_outer) (defBody s_is_outer) (defScope s_is_outer) .none xk_is_outer xc_is_outer xp_is_outer xa_is_outer xe_is_outer xt_is_outer), xs_is_outer⟩)
    (D_is_outer : PySem.W.codeIn K xe_is_outer "is_outer" = true)
    (P_is_outer : PySem.W.keepIn K (.ref g_is_outer) = true)
    (A_suits_things : PySem.W.nsIn K mainGlobals "suits_things" = some (some (.ref g_suits_things)))
    (L_suits_things : K.lookup g_suits_things = some ⟨xo_suits_things, xd_suits_things, .func (PySem.W.fnOf "suits_things" "suits_things" (defArgs s_suits_things) (defBody s_suits_things) (defScope s_suits_things) .none xk_suits_things xc_suits_things xp_suits_things xa_suits_things xe_suits_things xt_suits_things), xs_suits_things⟩)
    (D_suits_things : PySem.W.codeIn K xe_suits_things "suits_things" = true)
    (P_suits_things : PySem.W.keepIn K (.ref g_suits_things) = true)
    (A_enter_token : PySem.W.nsIn K mainGlobals "enter_token" = some (some (.ref g_enter_token)))
    (L_enter_token : K.lookup g_enter_token = some ⟨xo_enter_token, xd_enter_token, .func (PySem.W.fnOf "enter_token" "enter_token" (defArgs s_enter_token) (defBody s_enter_token) (defScope s_enter_token) .none xk_enter_token xc_enter_token xp_enter_token xa_enter_token xe_enter_token xt_enter_token), xs_enter_token⟩)
    (D_enter_token : PySem.W.codeIn K xe_enter_token "enter_token" = true)
    (P_enter_token : PySem.W.keepIn K (.ref g_enter_token) = true)
    (A_check_tokens : PySem.W.nsIn K mainGlobals "check_tokens" = some (some (.ref g_check_tokens)))
    (L_check_tokens : K.lookup g_check_tokens = some ⟨xo_check_tokens, xd_check_tokens, .func (PySem.W.fnOf "check_tokens" "check_tokens" (defArgs s_check_tokens) (defBody s_check_tokens) (defScope s_check_tokens) .none xk_check_tokens xc_check_tokens xp_check_tokens xa_check_tokens xe_check_tokens xt_check_tokens), xs_check_tokens⟩)
    (D_check_tokens : PySem.W.codeIn K xe_check_tokens "check_tokens" = true)
    (P_check_tokens : PySem.W.keepIn K (.ref g_check_tokens) = true)
    (A_split_turns : PySem.W.nsIn K mainGlobals "split_turns" = some (some (.ref g_split_turns)))
    (L_split_turns : K.lookup g_split_turns = some ⟨xo_split_turns, xd_split_turns, .func (PySem.W.fnOf "split_turns" "split_turns" (defArgs s_split_turns) (defBody s_split_turns) (defScope s_split_turns) .none xk_split_turns xc_split_turns xp_split_turns xa_split_turns xe_split_turns xt_split_turns), xs_split_turns⟩)
    (D_split_turns : PySem.W.codeIn K xe_split_turns "split_turns" = true)
    (P_split_turns : PySem.W.keepIn K (.ref g_split_turns) = true)
    (A_check : PySem.W.nsIn K mainGlobals "check" = some (some (.ref g_check)))
    (L_check : K.lookup g_check = some ⟨xo_check, xd_check, .func (PySem.W.fnOf "check" "check" (defArgs s_check) (defBody s_check) (defScope s_check) .none xk_check xc_check xp_check xa_check xe_check xt_check), xs_check⟩)
    (D_check : PySem.W.codeIn K xe_check "check" = true)
    (P_check : PySem.W.keepIn K (.ref g_check) = true)
    (A_cut : PySem.W.nsIn K mainGlobals "cut" = some (some (.ref g_cut)))
    (L_cut : K.lookup g_cut = some ⟨xo_cut, xd_cut, .func (PySem.W.fnOf "cut" "cut" (defArgs s_cut) (defBody s_cut) (defScope s_cut) .none xk_cut xc_cut xp_cut xa_cut xe_cut xt_cut), xs_cut⟩)
    (D_cut : PySem.W.codeIn K xe_cut "cut" = true)
    (P_cut : PySem.W.keepIn K (.ref g_cut) = true)
    (A_check_program : PySem.W.nsIn K mainGlobals "check_program" = some (some (.ref g_check_program)))
    (L_check_program : K.lookup g_check_program = some ⟨xo_check_program, xd_check_program, .func (PySem.W.fnOf "check_program" "check_program" (defArgs s_check_program) (defBody s_check_program) (defScope s_check_program) .none xk_check_program xc_check_program xp_check_program xa_check_program xe_check_program xt_check_program), xs_check_program⟩)
    (D_check_program : PySem.W.codeIn K xe_check_program "check_program" = true)
    (P_check_program : PySem.W.keepIn K (.ref g_check_program) = true)
    (A_replayed : PySem.W.nsIn K mainGlobals "replayed" = some (some (.ref g_replayed)))
    (L_replayed : K.lookup g_replayed = some ⟨xo_replayed, xd_replayed, .func (PySem.W.fnOf "replayed" "replayed" (defArgs s_replayed) (defBody s_replayed) (defScope s_replayed) .none xk_replayed xc_replayed xp_replayed xa_replayed xe_replayed xt_replayed), xs_replayed⟩)
    (D_replayed : PySem.W.codeIn K xe_replayed "replayed" = true)
    (P_replayed : PySem.W.keepIn K (.ref g_replayed) = true)
    (A_read : PySem.W.nsIn K mainGlobals "read" = some (some (.ref g_read)))
    (L_read : K.lookup g_read = some ⟨xo_read, xd_read, .func (PySem.W.fnOf "read" "read" (defArgs s_read) (defBody s_read) (defScope s_read) .none xk_read xc_read xp_read xa_read xe_read xt_read), xs_read⟩)
    (D_read : PySem.W.codeIn K xe_read "read" = true)
    (P_read : PySem.W.keepIn K (.ref g_read) = true)
    (A_good_turns : PySem.W.nsIn K mainGlobals "good_turns" = some (some (.ref g_good_turns)))
    (L_good_turns : K.lookup g_good_turns = some ⟨xo_good_turns, xd_good_turns, .func (PySem.W.fnOf "good_turns" "good_turns" (defArgs s_good_turns) (defBody s_good_turns) (defScope s_good_turns) .none xk_good_turns xc_good_turns xp_good_turns xa_good_turns xe_good_turns xt_good_turns), xs_good_turns⟩)
    (D_good_turns : PySem.W.codeIn K xe_good_turns "good_turns" = true)
    (P_good_turns : PySem.W.keepIn K (.ref g_good_turns) = true)
    (A_resume : PySem.W.nsIn K mainGlobals "resume" = some (some (.ref g_resume)))
    (L_resume : K.lookup g_resume = some ⟨xo_resume, xd_resume, .func (PySem.W.fnOf "resume" "resume" (defArgs s_resume) (defBody s_resume) (defScope s_resume) .none xk_resume xc_resume xp_resume xa_resume xe_resume xt_resume), xs_resume⟩)
    (D_resume : PySem.W.codeIn K xe_resume "resume" = true)
    (P_resume : PySem.W.keepIn K (.ref g_resume) = true)
    (A__law_bag : PySem.W.nsIn K mainGlobals "_law_bag" = some (some (.ref g__law_bag)))
    (L__law_bag : K.lookup g__law_bag = some ⟨xo__law_bag, xd__law_bag, .func (PySem.W.fnOf "_law_bag" "_law_bag" (defArgs s__law_bag) (defBody s__law_bag) (defScope s__law_bag) .none xk__law_bag xc__law_bag xp__law_bag xa__law_bag xe__law_bag xt__law_bag), xs__law_bag⟩)
    (D__law_bag : PySem.W.codeIn K xe__law_bag "_law_bag" = true)
    (P__law_bag : PySem.W.keepIn K (.ref g__law_bag) = true)
    (A__law_draw : PySem.W.nsIn K mainGlobals "_law_draw" = some (some (.ref g__law_draw)))
    (L__law_draw : K.lookup g__law_draw = some ⟨xo__law_draw, xd__law_draw, .func (PySem.W.fnOf "_law_draw" "_law_draw" (defArgs s__law_draw) (defBody s__law_draw) (defScope s__law_draw) .none xk__law_draw xc__law_draw xp__law_draw xa__law_draw xe__law_draw xt__law_draw), xs__law_draw⟩)
    (D__law_draw : PySem.W.codeIn K xe__law_draw "_law_draw" = true)
    (P__law_draw : PySem.W.keepIn K (.ref g__law_draw) = true)
    (A__law_one : PySem.W.nsIn K mainGlobals "_law_one" = some (some (.ref g__law_one)))
    (L__law_one : K.lookup g__law_one = some ⟨xo__law_one, xd__law_one, .func (PySem.W.fnOf "_law_one" "_law_one" (defArgs s__law_one) (defBody s__law_one) (defScope s__law_one) .none xk__law_one xc__law_one xp__law_one xa__law_one xe__law_one xt__law_one), xs__law_one⟩)
    (D__law_one : PySem.W.codeIn K xe__law_one "_law_one" = true)
    (P__law_one : PySem.W.keepIn K (.ref g__law_one) = true)
    (A__law_words : PySem.W.nsIn K mainGlobals "_law_words" = some (some (.ref g__law_words)))
    (L__law_words : K.lookup g__law_words = some ⟨xo__law_words, xd__law_words, .func (PySem.W.fnOf "_law_words" "_law_words" (defArgs s__law_words) (defBody s__law_words) (defScope s__law_words) .none xk__law_words xc__law_words xp__law_words xa__law_words xe__law_words xt__law_words), xs__law_words⟩)
    (D__law_words : PySem.W.codeIn K xe__law_words "_law_words" = true)
    (P__law_words : PySem.W.keepIn K (.ref g__law_words) = true)
    (A__law_word : PySem.W.nsIn K mainGlobals "_law_word" = some (some (.ref g__law_word)))
    (L__law_word : K.lookup g__law_word = some ⟨xo__law_word, xd__law_word, .func (PySem.W.fnOf "_law_word" "_law_word" (defArgs s__law_word) (defBody s__law_word) (defScope s__law_word) .none xk__law_word xc__law_word xp__law_word xa__law_word xe__law_word xt__law_word), xs__law_word⟩)
    (D__law_word : PySem.W.codeIn K xe__law_word "_law_word" = true)
    (P__law_word : PySem.W.keepIn K (.ref g__law_word) = true)
    (A__law_same : PySem.W.nsIn K mainGlobals "_law_same" = some (some (.ref g__law_same)))
    (L__law_same : K.lookup g__law_same = some ⟨xo__law_same, xd__law_same, .func (PySem.W.fnOf "_law_same" "_law_same" (defArgs s__law_same) (defBody s__law_same) (defScope s__law_same) .none xk__law_same xc__law_same xp__law_same xa__law_same xe__law_same xt__law_same), xs__law_same⟩)
    (D__law_same : PySem.W.codeIn K xe__law_same "_law_same" = true)
    (P__law_same : PySem.W.keepIn K (.ref g__law_same) = true)
    (A__law_token : PySem.W.nsIn K mainGlobals "_law_token" = some (some (.ref g__law_token)))
    (L__law_token : K.lookup g__law_token = some ⟨xo__law_token, xd__law_token, .func (PySem.W.fnOf "_law_token" "_law_token" (defArgs s__law_token) (defBody s__law_token) (defScope s__law_token) .none xk__law_token xc__law_token xp__law_token xa__law_token xe__law_token xt__law_token), xs__law_token⟩)
    (D__law_token : PySem.W.codeIn K xe__law_token "_law_token" = true)
    (P__law_token : PySem.W.keepIn K (.ref g__law_token) = true)
    (A__law_odd : PySem.W.nsIn K mainGlobals "_law_odd" = some (some (.ref g__law_odd)))
    (L__law_odd : K.lookup g__law_odd = some ⟨xo__law_odd, xd__law_odd, .func (PySem.W.fnOf "_law_odd" "_law_odd" (defArgs s__law_odd) (defBody s__law_odd) (defScope s__law_odd) .none xk__law_odd xc__law_odd xp__law_odd xa__law_odd xe__law_odd xt__law_odd), xs__law_odd⟩)
    (D__law_odd : PySem.W.codeIn K xe__law_odd "_law_odd" = true)
    (P__law_odd : PySem.W.keepIn K (.ref g__law_odd) = true)
    (A__law_fits : PySem.W.nsIn K mainGlobals "_law_fits" = some (some (.ref g__law_fits)))
    (L__law_fits : K.lookup g__law_fits = some ⟨xo__law_fits, xd__law_fits, .func (PySem.W.fnOf "_law_fits" "_law_fits" (defArgs s__law_fits) (defBody s__law_fits) (defScope s__law_fits) .none xk__law_fits xc__law_fits xp__law_fits xa__law_fits xe__law_fits xt__law_fits), xs__law_fits⟩)
    (D__law_fits : PySem.W.codeIn K xe__law_fits "_law_fits" = true)
    (P__law_fits : PySem.W.keepIn K (.ref g__law_fits) = true)
    (A__law_enter : PySem.W.nsIn K mainGlobals "_law_enter" = some (some (.ref g__law_enter)))
    (L__law_enter : K.lookup g__law_enter = some ⟨xo__law_enter, xd__law_enter, .func (PySem.W.fnOf "_law_enter" "_law_enter" (defArgs s__law_enter) (defBody s__law_enter) (defScope s__law_enter) .none xk__law_enter xc__law_enter xp__law_enter xa__law_enter xe__law_enter xt__law_enter), xs__law_enter⟩)
    (D__law_enter : PySem.W.codeIn K xe__law_enter "_law_enter" = true)
    (P__law_enter : PySem.W.keepIn K (.ref g__law_enter) = true)
    (A__law_fault : PySem.W.nsIn K mainGlobals "_law_fault" = some (some (.ref g__law_fault)))
    (L__law_fault : K.lookup g__law_fault = some ⟨xo__law_fault, xd__law_fault, .func (PySem.W.fnOf "_law_fault" "_law_fault" (defArgs s__law_fault) (defBody s__law_fault) (defScope s__law_fault) .none xk__law_fault xc__law_fault xp__law_fault xa__law_fault xe__law_fault xt__law_fault), xs__law_fault⟩)
    (D__law_fault : PySem.W.codeIn K xe__law_fault "_law_fault" = true)
    (P__law_fault : PySem.W.keepIn K (.ref g__law_fault) = true)
    (A__law_told : PySem.W.nsIn K mainGlobals "_law_told" = some (some (.ref g__law_told)))
    (L__law_told : K.lookup g__law_told = some ⟨xo__law_told, xd__law_told, .func (PySem.W.fnOf "_law_told" "_law_told" (defArgs s__law_told) (defBody s__law_told) (defScope s__law_told) .none xk__law_told xc__law_told xp__law_told xa__law_told xe__law_told xt__law_told), xs__law_told⟩)
    (D__law_told : PySem.W.codeIn K xe__law_told "_law_told" = true)
    (P__law_told : PySem.W.keepIn K (.ref g__law_told) = true)
    (A__law_history : PySem.W.nsIn K mainGlobals "_law_history" = some (some (.ref g__law_history)))
    (L__law_history : K.lookup g__law_history = some ⟨xo__law_history, xd__law_history, .func (PySem.W.fnOf "_law_history" "_law_history" (defArgs s__law_history) (defBody s__law_history) (defScope s__law_history) .none xk__law_history xc__law_history xp__law_history xa__law_history xe__law_history xt__law_history), xs__law_history⟩)
    (D__law_history : PySem.W.codeIn K xe__law_history "_law_history" = true)
    (P__law_history : PySem.W.keepIn K (.ref g__law_history) = true)
    (A__law_turns : PySem.W.nsIn K mainGlobals "_law_turns" = some (some (.ref g__law_turns)))
    (L__law_turns : K.lookup g__law_turns = some ⟨xo__law_turns, xd__law_turns, .func (PySem.W.fnOf "_law_turns" "_law_turns" (defArgs s__law_turns) (defBody s__law_turns) (defScope s__law_turns) .none xk__law_turns xc__law_turns xp__law_turns xa__law_turns xe__law_turns xt__law_turns), xs__law_turns⟩)
    (D__law_turns : PySem.W.codeIn K xe__law_turns "_law_turns" = true)
    (P__law_turns : PySem.W.keepIn K (.ref g__law_turns) = true)
    (A__law_no_program : PySem.W.nsIn K mainGlobals "_law_no_program" = some (some (.ref g__law_no_program)))
    (L__law_no_program : K.lookup g__law_no_program = some ⟨xo__law_no_program, xd__law_no_program, .func (PySem.W.fnOf "_law_no_program" "_law_no_program" (defArgs s__law_no_program) (defBody s__law_no_program) (defScope s__law_no_program) .none xk__law_no_program xc__law_no_program xp__law_no_program xa__law_no_program xe__law_no_program xt__law_no_program), xs__law_no_program⟩)
    (D__law_no_program : PySem.W.codeIn K xe__law_no_program "_law_no_program" = true)
    (P__law_no_program : PySem.W.keepIn K (.ref g__law_no_program) = true)
    (A_law : PySem.W.nsIn K mainGlobals "law" = some (some (.ref g_law)))
    (L_law : K.lookup g_law = some ⟨xo_law, xd_law, .func (PySem.W.fnOf "law" "law" (defArgs s_law) (defBody s_law) (defScope s_law) .none xk_law xc_law xp_law xa_law xe_law xt_law), xs_law⟩)
    (D_law : PySem.W.codeIn K xe_law "law" = true)
    (P_law : PySem.W.keepIn K (.ref g_law) = true)
    (A_RowCheck : PySem.W.nsIn K mainGlobals "RowCheck" = some (some (.ref c_RowCheck)))
    (c1_RowCheck : PySem.W.plainGet K c_RowCheck Str.empty = true)
    (c2_RowCheck : PySem.W.hasDictIn K c_RowCheck = true)
    (c3_RowCheck : PySem.W.plainOver K c_RowCheck = true)
    (c4_RowCheck : PySem.W.findIn K (.ref c_RowCheck) "__setattr__" = some (some (.builtin "object.__setattr__")))
    (n_RowCheck_known_asks : PySem.W.findIn K (.ref c_RowCheck) "known_asks" = some none)
    (n_RowCheck_known_signals : PySem.W.findIn K (.ref c_RowCheck) "known_signals" = some none)
    (n_RowCheck_with_edits : PySem.W.findIn K (.ref c_RowCheck) "with_edits" = some none)
    (n_RowCheck_total : PySem.W.findIn K (.ref c_RowCheck) "total" = some none)
    (n_RowCheck_label_words : PySem.W.findIn K (.ref c_RowCheck) "label_words" = some none)
    (n_RowCheck_slot_words : PySem.W.findIn K (.ref c_RowCheck) "slot_words" = some none)
    (n_RowCheck_gate_words : PySem.W.findIn K (.ref c_RowCheck) "gate_words" = some none)
    (n_RowCheck_edit_words : PySem.W.findIn K (.ref c_RowCheck) "edit_words" = some none)
    (mk_RowCheck : PySem.W.makesIn K c_RowCheck = true)
    (kp_RowCheck : PySem.W.keepIn K (.ref c_RowCheck) = true)
    (at_RowCheck___init__ : PySem.W.findIn K (.ref c_RowCheck) "__init__" = some (some (.ref m_RowCheck___init__)))
    (fn_RowCheck___init__ : PySem.W.isFn K (.ref m_RowCheck___init__) = true)
    (L_RowCheck___init__ : K.lookup m_RowCheck___init__ = some ⟨xo_RowCheck___init__, xd_RowCheck___init__, .func (PySem.W.fnOf "__init__" "RowCheck.__init__" (defArgs s_RowCheck___init__) (defBody s_RowCheck___init__) (defScope s_RowCheck___init__) .none xk_RowCheck___init__ xc_RowCheck___init__ xp_RowCheck___init__ xa_RowCheck___init__ xe_RowCheck___init__ xt_RowCheck___init__), xs_RowCheck___init__⟩)
    (D_RowCheck___init__ : PySem.W.codeIn K xe_RowCheck___init__ "RowCheck.__init__" = true)
    (P_RowCheck___init__ : PySem.W.keepIn K (.ref m_RowCheck___init__) = true)
    (at_RowCheck_check : PySem.W.findIn K (.ref c_RowCheck) "check" = some (some (.ref m_RowCheck_check)))
    (fn_RowCheck_check : PySem.W.isFn K (.ref m_RowCheck_check) = true)
    (L_RowCheck_check : K.lookup m_RowCheck_check = some ⟨xo_RowCheck_check, xd_RowCheck_check, .func (PySem.W.fnOf "check" "RowCheck.check" (defArgs s_RowCheck_check) (defBody s_RowCheck_check) (defScope s_RowCheck_check) .none xk_RowCheck_check xc_RowCheck_check xp_RowCheck_check xa_RowCheck_check xe_RowCheck_check xt_RowCheck_check), xs_RowCheck_check⟩)
    (D_RowCheck_check : PySem.W.codeIn K xe_RowCheck_check "RowCheck.check" = true)
    (P_RowCheck_check : PySem.W.keepIn K (.ref m_RowCheck_check) = true)
    (at_RowCheck_check_sizes : PySem.W.findIn K (.ref c_RowCheck) "check_sizes" = some (some (.ref m_RowCheck_check_sizes)))
    (fn_RowCheck_check_sizes : PySem.W.isFn K (.ref m_RowCheck_check_sizes) = true)
    (L_RowCheck_check_sizes : K.lookup m_RowCheck_check_sizes = some ⟨xo_RowCheck_check_sizes, xd_RowCheck_check_sizes, .func (PySem.W.fnOf "check_sizes" "RowCheck.check_sizes" (defArgs s_RowCheck_check_sizes) (defBody s_RowCheck_check_sizes) (defScope s_RowCheck_check_sizes) .none xk_RowCheck_check_sizes xc_RowCheck_check_sizes xp_RowCheck_check_sizes xa_RowCheck_check_sizes xe_RowCheck_check_sizes xt_RowCheck_check_sizes), xs_RowCheck_check_sizes⟩)
    (D_RowCheck_check_sizes : PySem.W.codeIn K xe_RowCheck_check_sizes "RowCheck.check_sizes" = true)
    (P_RowCheck_check_sizes : PySem.W.keepIn K (.ref m_RowCheck_check_sizes) = true)
    (at_RowCheck_check_list : PySem.W.findIn K (.ref c_RowCheck) "check_list" = some (some (.ref m_RowCheck_check_list)))
    (fn_RowCheck_check_list : PySem.W.isFn K (.ref m_RowCheck_check_list) = true)
    (L_RowCheck_check_list : K.lookup m_RowCheck_check_list = some ⟨xo_RowCheck_check_list, xd_RowCheck_check_list, .func (PySem.W.fnOf "check_list" "RowCheck.check_list" (defArgs s_RowCheck_check_list) (defBody s_RowCheck_check_list) (defScope s_RowCheck_check_list) .none xk_RowCheck_check_list xc_RowCheck_check_list xp_RowCheck_check_list xa_RowCheck_check_list xe_RowCheck_check_list xt_RowCheck_check_list), xs_RowCheck_check_list⟩)
    (D_RowCheck_check_list : PySem.W.codeIn K xe_RowCheck_check_list "RowCheck.check_list" = true)
    (P_RowCheck_check_list : PySem.W.keepIn K (.ref m_RowCheck_check_list) = true)
    (at_RowCheck_fits : PySem.W.findIn K (.ref c_RowCheck) "fits" = some (some (.ref m_RowCheck_fits)))
    (fn_RowCheck_fits : PySem.W.isFn K (.ref m_RowCheck_fits) = true)
    (L_RowCheck_fits : K.lookup m_RowCheck_fits = some ⟨xo_RowCheck_fits, xd_RowCheck_fits, .func (PySem.W.fnOf "fits" "RowCheck.fits" (defArgs s_RowCheck_fits) (defBody s_RowCheck_fits) (defScope s_RowCheck_fits) .none xk_RowCheck_fits xc_RowCheck_fits xp_RowCheck_fits xa_RowCheck_fits xe_RowCheck_fits xt_RowCheck_fits), xs_RowCheck_fits⟩)
    (D_RowCheck_fits : PySem.W.codeIn K xe_RowCheck_fits "RowCheck.fits" = true)
    (P_RowCheck_fits : PySem.W.keepIn K (.ref m_RowCheck_fits) = true)
    (at_RowCheck_id_fits : PySem.W.findIn K (.ref c_RowCheck) "id_fits" = some (some (.ref m_RowCheck_id_fits)))
    (fn_RowCheck_id_fits : PySem.W.isFn K (.ref m_RowCheck_id_fits) = true)
    (L_RowCheck_id_fits : K.lookup m_RowCheck_id_fits = some ⟨xo_RowCheck_id_fits, xd_RowCheck_id_fits, .func (PySem.W.fnOf "id_fits" "RowCheck.id_fits" (defArgs s_RowCheck_id_fits) (defBody s_RowCheck_id_fits) (defScope s_RowCheck_id_fits) .none xk_RowCheck_id_fits xc_RowCheck_id_fits xp_RowCheck_id_fits xa_RowCheck_id_fits xe_RowCheck_id_fits xt_RowCheck_id_fits), xs_RowCheck_id_fits⟩)
    (D_RowCheck_id_fits : PySem.W.codeIn K xe_RowCheck_id_fits "RowCheck.id_fits" = true)
    (P_RowCheck_id_fits : PySem.W.keepIn K (.ref m_RowCheck_id_fits) = true)
    (at_RowCheck_part_fits : PySem.W.findIn K (.ref c_RowCheck) "part_fits" = some (some (.ref m_RowCheck_part_fits)))
    (fn_RowCheck_part_fits : PySem.W.isFn K (.ref m_RowCheck_part_fits) = true)
    (L_RowCheck_part_fits : K.lookup m_RowCheck_part_fits = some ⟨xo_RowCheck_part_fits, xd_RowCheck_part_fits, .func (PySem.W.fnOf "part_fits" "RowCheck.part_fits" (defArgs s_RowCheck_part_fits) (defBody s_RowCheck_part_fits) (defScope s_RowCheck_part_fits) .none xk_RowCheck_part_fits xc_RowCheck_part_fits xp_RowCheck_part_fits xa_RowCheck_part_fits xe_RowCheck_part_fits xt_RowCheck_part_fits), xs_RowCheck_part_fits⟩)
    (D_RowCheck_part_fits : PySem.W.codeIn K xe_RowCheck_part_fits "RowCheck.part_fits" = true)
    (P_RowCheck_part_fits : PySem.W.keepIn K (.ref m_RowCheck_part_fits) = true)
    (at_RowCheck_collect : PySem.W.findIn K (.ref c_RowCheck) "collect" = some (some (.ref m_RowCheck_collect)))
    (fn_RowCheck_collect : PySem.W.isFn K (.ref m_RowCheck_collect) = true)
    (L_RowCheck_collect : K.lookup m_RowCheck_collect = some ⟨xo_RowCheck_collect, xd_RowCheck_collect, .func (PySem.W.fnOf "collect" "RowCheck.collect" (defArgs s_RowCheck_collect) (defBody s_RowCheck_collect) (defScope s_RowCheck_collect) .none xk_RowCheck_collect xc_RowCheck_collect xp_RowCheck_collect xa_RowCheck_collect xe_RowCheck_collect xt_RowCheck_collect), xs_RowCheck_collect⟩)
    (D_RowCheck_collect : PySem.W.codeIn K xe_RowCheck_collect "RowCheck.collect" = true)
    (P_RowCheck_collect : PySem.W.keepIn K (.ref m_RowCheck_collect) = true)
    (A_Program : PySem.W.nsIn K mainGlobals "Program" = some (some (.ref c_Program)))
    (c1_Program : PySem.W.plainGet K c_Program Str.empty = true)
    (c2_Program : PySem.W.hasDictIn K c_Program = true)
    (c3_Program : PySem.W.plainOver K c_Program = true)
    (c4_Program : PySem.W.findIn K (.ref c_Program) "__setattr__" = some (some (.builtin "object.__setattr__")))
    (n_Program_ask_table : PySem.W.findIn K (.ref c_Program) "ask_table" = some none)
    (n_Program_signal_table : PySem.W.findIn K (.ref c_Program) "signal_table" = some none)
    (n_Program_input_words : PySem.W.findIn K (.ref c_Program) "input_words" = some none)
    (n_Program_row_list : PySem.W.findIn K (.ref c_Program) "row_list" = some none)
    (n_Program_label_names : PySem.W.findIn K (.ref c_Program) "label_names" = some none)
    (n_Program_slot_names : PySem.W.findIn K (.ref c_Program) "slot_names" = some none)
    (n_Program_gate_names : PySem.W.findIn K (.ref c_Program) "gate_names" = some none)
    (n_Program_row_table : PySem.W.findIn K (.ref c_Program) "row_table" = some none)
    (n_Program_list_sizes : PySem.W.findIn K (.ref c_Program) "list_sizes" = some none)
    (mk_Program : PySem.W.makesIn K c_Program = true)
    (kp_Program : PySem.W.keepIn K (.ref c_Program) = true)
    (at_Program___init__ : PySem.W.findIn K (.ref c_Program) "__init__" = some (some (.ref m_Program___init__)))
    (fn_Program___init__ : PySem.W.isFn K (.ref m_Program___init__) = true)
    (L_Program___init__ : K.lookup m_Program___init__ = some ⟨xo_Program___init__, xd_Program___init__, .func (PySem.W.fnOf "__init__" "Program.__init__" (defArgs s_Program___init__) (defBody s_Program___init__) (defScope s_Program___init__) .none (.ref p_kw) xc_Program___init__ xp_Program___init__ xa_Program___init__ xe_Program___init__ xt_Program___init__), xs_Program___init__⟩)
    (D_Program___init__ : PySem.W.codeIn K xe_Program___init__ "Program.__init__" = true)
    (P_Program___init__ : PySem.W.keepIn K (.ref m_Program___init__) = true)
    (kw0 : (p_kw == 0) = false)
    (kw1 : PySem.W.nsIn K p_kw "asks" = some (some .none))
    (kw2 : PySem.W.nsIn K p_kw "signals" = some (some .none))
    (kw3 : PySem.W.nsIn K p_kw "inputs" = some (some (.ref p_go)))
    (kw4 : ∀ H, SqT K H p_go (List.map V.str ["go"]))
    (at_Program_add_rows : PySem.W.findIn K (.ref c_Program) "add_rows" = some (some (.ref m_Program_add_rows)))
    (fn_Program_add_rows : PySem.W.isFn K (.ref m_Program_add_rows) = true)
    (L_Program_add_rows : K.lookup m_Program_add_rows = some ⟨xo_Program_add_rows, xd_Program_add_rows, .func (PySem.W.fnOf "add_rows" "Program.add_rows" (defArgs s_Program_add_rows) (defBody s_Program_add_rows) (defScope s_Program_add_rows) .none xk_Program_add_rows xc_Program_add_rows xp_Program_add_rows xa_Program_add_rows xe_Program_add_rows xt_Program_add_rows), xs_Program_add_rows⟩)
    (D_Program_add_rows : PySem.W.codeIn K xe_Program_add_rows "Program.add_rows" = true)
    (P_Program_add_rows : PySem.W.keepIn K (.ref m_Program_add_rows) = true)
    (pi_ha : PySem.W.findIn K (.ref c_Program) "__class__" = some (some (.builtin "object.__class__")))
    (pi_hm : PySem.W.mroIn K c_Program (.type "object") = some true)
    (pi_ty : PySem.W.typeIn K (.ref c_Program) = some (.type "type"))
    (pi_ic : PySem.W.isClsIn K c_Program = true)
    : ∃ fd : FuncData, (∀ (s : Shared) (v : Value), BindsTo s fd ⟨[v], []⟩ [("_law_script", v)]) ∧ ∀ base : Heap, K.In base → base.Ns mainGlobals mg → FnOk PP w K mg base CX0 16 fa fd ["_law_script"] (spLaw K) := by
  have e := hfa.symm.trans (PySem.W.mg_of X G A_law)
  cases e
  have X_InvalidHistory : XCls PP K c_InvalidHistory := ⟨⟨_, _, _, _, _, _, _, _, _, _, _, _, _, _, _, l_InvalidHistory, rfl⟩, sa_InvalidHistory, su_InvalidHistory, opq, sg, by decide +kernel⟩
  have Y_InvalidHistory : XFn PP K c_InvalidHistory i_InvalidHistory "InvalidHistory.__init__" (defArgs s_InvalidHistory___init__) (defBody s_InvalidHistory___init__) (defScope s_InvalidHistory___init__) := ⟨⟨_, _, _, _, _, _, _, _, _, _, _, _, _, _, _, _, _, _, _, lf_InvalidHistory, cf_InvalidHistory, lc_InvalidHistory, ld_InvalidHistory, v2_InvalidHistory, fe_InvalidHistory⟩, ii_InvalidHistory, ti_InvalidHistory⟩
  have xm_InvalidHistory := Xm_InvalidHistory (w := w) X_InvalidHistory Y_InvalidHistory no_at_InvalidHistory
  have ex_InvalidHistory := exm_own hs_InvalidHistory ic_InvalidHistory ty_InvalidHistory ss_InvalidHistory
  have xf_InvalidHistory : XfC K c_InvalidHistory := ⟨hg_InvalidHistory, hk_InvalidHistory, hs_InvalidHistory, hd_InvalidHistory⟩
  have X_InvalidArgument : XCls PP K c_InvalidArgument := ⟨⟨_, _, _, _, _, _, _, _, _, _, _, _, _, _, _, l_InvalidArgument, rfl⟩, sa_InvalidArgument, su_InvalidArgument, opq, sg, by decide +kernel⟩
  have Y_InvalidArgument : XFn PP K c_InvalidArgument i_InvalidArgument "InvalidArgument.__init__" (defArgs s_InvalidArgument___init__) (defBody s_InvalidArgument___init__) (defScope s_InvalidArgument___init__) := ⟨⟨_, _, _, _, _, _, _, _, _, _, _, _, _, _, _, _, _, _, _, lf_InvalidArgument, cf_InvalidArgument, lc_InvalidArgument, ld_InvalidArgument, v2_InvalidArgument, fe_InvalidArgument⟩, ii_InvalidArgument, ti_InvalidArgument⟩
  have xm_InvalidArgument := Xm_InvalidArgument (w := w) X_InvalidArgument Y_InvalidArgument no_part_InvalidArgument
  have ex_InvalidArgument := exm_own hs_InvalidArgument ic_InvalidArgument ty_InvalidArgument ss_InvalidArgument
  have xf_InvalidArgument : XfC K c_InvalidArgument := ⟨hg_InvalidArgument, hk_InvalidArgument, hs_InvalidArgument, hd_InvalidArgument⟩
  have X_InvalidProgram : XCls PP K c_InvalidProgram := ⟨⟨_, _, _, _, _, _, _, _, _, _, _, _, _, _, _, l_InvalidProgram, rfl⟩, sa_InvalidProgram, su_InvalidProgram, opq, sg, by decide +kernel⟩
  have Y_InvalidProgram : XFn PP K c_InvalidProgram i_InvalidProgram "InvalidProgram.__init__" (defArgs s_InvalidProgram___init__) (defBody s_InvalidProgram___init__) (defScope s_InvalidProgram___init__) := ⟨⟨_, _, _, _, _, _, _, _, _, _, _, _, _, _, _, _, _, _, _, lf_InvalidProgram, cf_InvalidProgram, lc_InvalidProgram, ld_InvalidProgram, v2_InvalidProgram, fe_InvalidProgram⟩, ii_InvalidProgram, ti_InvalidProgram⟩
  have xm_InvalidProgram := Xm_InvalidProgram (w := w) X_InvalidProgram Y_InvalidProgram no_part_InvalidProgram no_path_InvalidProgram
  have ex_InvalidProgram := exm_own hs_InvalidProgram ic_InvalidProgram ty_InvalidProgram ss_InvalidProgram
  have xf_InvalidProgram : XfC K c_InvalidProgram := ⟨hg_InvalidProgram, hk_InvalidProgram, hs_InvalidProgram, hd_InvalidProgram⟩
  have kq1 : PySem.W.kitOne K (.ref c_InvalidHistory) (.ref c_InvalidArgument) = some false := kit_own kq1n ic_InvalidArgument ty_InvalidArgument kq1s
  have kq2 : PySem.W.kitOne K (.ref c_InvalidHistory) (.ref c_RunError) = some false := kit_own kq2n ic_RunError ty_RunError kq2s
  have kq3 : PySem.W.kitOne K (.ref c_InvalidHistory) (.ref c_InputError) = some true := kit_own kq3n ic_InputError ty_InputError kq3s
  have F_is_integer := fun_mk (st := s_is_integer) L_is_integer D_is_integer P_is_integer
  have B_is_integer := F_is_integer.binds (ps := ["value"]) fun _ _ _ _ _ _ us hl => match us, hl with | [_], _ => rfl
  have F_is_word := fun_mk (st := s_is_word) L_is_word D_is_word P_is_word
  have B_is_word := F_is_word.binds (ps := ["value"]) fun _ _ _ _ _ _ us hl => match us, hl with | [_], _ => rfl
  have F_are_words := fun_mk (st := s_are_words) L_are_words D_are_words P_are_words
  have B_are_words := F_are_words.binds (ps := ["value", "most"]) fun _ _ _ _ _ _ us hl => match us, hl with | [_, _], _ => rfl
  have F_is_branches := fun_mk (st := s_is_branches) L_is_branches D_is_branches P_is_branches
  have B_is_branches := F_is_branches.binds (ps := ["value"]) fun _ _ _ _ _ _ us hl => match us, hl with | [_], _ => rfl
  have F_inner_lists := fun_mk (st := s_inner_lists) L_inner_lists D_inner_lists P_inner_lists
  have B_inner_lists := F_inner_lists.binds (ps := ["row"]) fun _ _ _ _ _ _ us hl => match us, hl with | [_], _ => rfl
  have F_with_lists := fun_mk (st := s_with_lists) L_with_lists D_with_lists P_with_lists
  have B_with_lists := F_with_lists.binds (ps := ["row", "lists"]) fun _ _ _ _ _ _ us hl => match us, hl with | [_, _], _ => rfl
  have F_copy_row := fun_mk (st := s_copy_row) L_copy_row D_copy_row P_copy_row
  have B_copy_row := F_copy_row.binds (ps := ["row"]) fun _ _ _ _ _ _ us hl => match us, hl with | [_], _ => rfl
  have F_copy_rows := fun_mk (st := s_copy_rows) L_copy_rows D_copy_rows P_copy_rows
  have B_copy_rows := F_copy_rows.binds (ps := ["rows"]) fun _ _ _ _ _ _ us hl => match us, hl with | [_], _ => rfl
  have F_checked_asks := fun_mk (st := s_checked_asks) L_checked_asks D_checked_asks P_checked_asks
  have B_checked_asks := F_checked_asks.binds (ps := ["value"]) fun _ _ _ _ _ _ us hl => match us, hl with | [_], _ => rfl
  have F_is_box := fun_mk (st := s_is_box) L_is_box D_is_box P_is_box
  have B_is_box := F_is_box.binds (ps := ["value"]) fun _ _ _ _ _ _ us hl => match us, hl with | [_], _ => rfl
  have F_checked_signals := fun_mk (st := s_checked_signals) L_checked_signals D_checked_signals P_checked_signals
  have B_checked_signals := F_checked_signals.binds (ps := ["value"]) fun _ _ _ _ _ _ us hl => match us, hl with | [_], _ => rfl
  have F_checked_inputs := fun_mk (st := s_checked_inputs) L_checked_inputs D_checked_inputs P_checked_inputs
  have B_checked_inputs := F_checked_inputs.binds (ps := ["value"]) fun _ _ _ _ _ _ us hl => match us, hl with | [_], _ => rfl
  have F_has_form := fun_mk (st := s_has_form) L_has_form D_has_form P_has_form
  have B_has_form := F_has_form.binds (ps := ["token"]) fun _ _ _ _ _ _ us hl => match us, hl with | [_], _ => rfl
  have F_is_outer := fun_mk (st := s_is_outer) L_is_outer D_is_outer P_is_outer
  have B_is_outer := F_is_outer.binds (ps := ["token"]) fun _ _ _ _ _ _ us hl => match us, hl with | [_], _ => rfl
  have F_suits_things := fun_mk (st := s_suits_things) L_suits_things D_suits_things P_suits_things
  have B_suits_things := F_suits_things.binds (ps := ["token", "things"]) fun _ _ _ _ _ _ us hl => match us, hl with | [_, _], _ => rfl
  have F_enter_token := fun_mk (st := s_enter_token) L_enter_token D_enter_token P_enter_token
  have B_enter_token := F_enter_token.binds (ps := ["token", "things"]) fun _ _ _ _ _ _ us hl => match us, hl with | [_, _], _ => rfl
  have F_check_tokens := fun_mk (st := s_check_tokens) L_check_tokens D_check_tokens P_check_tokens
  have B_check_tokens := F_check_tokens.binds (ps := ["history"]) fun _ _ _ _ _ _ us hl => match us, hl with | [_], _ => rfl
  have F_split_turns := fun_mk (st := s_split_turns) L_split_turns D_split_turns P_split_turns
  have B_split_turns := F_split_turns.binds (ps := ["history"]) fun _ _ _ _ _ _ us hl => match us, hl with | [_], _ => rfl
  have F_check := fun_mk (st := s_check) L_check D_check P_check
  have B_check := F_check.binds (ps := ["history"]) fun _ _ _ _ _ _ us hl => match us, hl with | [_], _ => rfl
  have F_cut := fun_mk (st := s_cut) L_cut D_cut P_cut
  have B_cut := F_cut.binds (ps := ["history"]) fun _ _ _ _ _ _ us hl => match us, hl with | [_], _ => rfl
  have F_check_program := fun_mk (st := s_check_program) L_check_program D_check_program P_check_program
  have B_check_program := F_check_program.binds (ps := ["value", "part"]) fun _ _ _ _ _ _ us hl => match us, hl with | [_, _], _ => rfl
  have F_replayed := fun_mk (st := s_replayed) L_replayed D_replayed P_replayed
  have B_replayed := F_replayed.binds (ps := ["program", "history"]) fun _ _ _ _ _ _ us hl => match us, hl with | [_, _], _ => rfl
  have F_read := fun_mk (st := s_read) L_read D_read P_read
  have B_read := F_read.binds (ps := ["program", "history"]) fun _ _ _ _ _ _ us hl => match us, hl with | [_, _], _ => rfl
  have F_good_turns := fun_mk (st := s_good_turns) L_good_turns D_good_turns P_good_turns
  have B_good_turns := F_good_turns.binds (ps := ["program", "history"]) fun _ _ _ _ _ _ us hl => match us, hl with | [_, _], _ => rfl
  have F_resume := fun_mk (st := s_resume) L_resume D_resume P_resume
  have B_resume := F_resume.binds (ps := ["program", "history"]) fun _ _ _ _ _ _ us hl => match us, hl with | [_, _], _ => rfl
  have F__law_bag := fun_mk (st := s__law_bag) L__law_bag D__law_bag P__law_bag
  have B__law_bag := F__law_bag.binds (ps := ["_law_script"]) fun _ _ _ _ _ _ us hl => match us, hl with | [_], _ => rfl
  have F__law_draw := fun_mk (st := s__law_draw) L__law_draw D__law_draw P__law_draw
  have B__law_draw := F__law_draw.binds (ps := ["_law_bag_here", "_law_many"]) fun _ _ _ _ _ _ us hl => match us, hl with | [_, _], _ => rfl
  have F__law_one := fun_mk (st := s__law_one) L__law_one D__law_one P__law_one
  have B__law_one := F__law_one.binds (ps := ["_law_bag_here", "_law_items"]) fun _ _ _ _ _ _ us hl => match us, hl with | [_, _], _ => rfl
  have F__law_words := fun_mk (st := s__law_words) L__law_words D__law_words P__law_words
  have B__law_words := F__law_words.binds (ps := ["_law_bag_here", "_law_many", "_law_most", "_law_taken"]) fun _ _ _ _ _ _ us hl => match us, hl with | [_, _, _, _], _ => rfl
  have F__law_word := fun_mk (st := s__law_word) L__law_word D__law_word P__law_word
  have B__law_word := F__law_word.binds (ps := ["_law_bag_here"]) fun _ _ _ _ _ _ us hl => match us, hl with | [_], _ => rfl
  have F__law_same := fun_mk (st := s__law_same) L__law_same D__law_same P__law_same
  have B__law_same := F__law_same.binds (ps := ["_law_told_here", "_law_due"]) fun _ _ _ _ _ _ us hl => match us, hl with | [_, _], _ => rfl
  have F__law_token := fun_mk (st := s__law_token) L__law_token D__law_token P__law_token
  have B__law_token := F__law_token.binds (ps := ["_law_bag_here", "_law_things"]) fun _ _ _ _ _ _ us hl => match us, hl with | [_, _], _ => rfl
  have F__law_odd := fun_mk (st := s__law_odd) L__law_odd D__law_odd P__law_odd
  have B__law_odd := F__law_odd.binds (ps := ["_law_bag_here", "_law_things"]) fun _ _ _ _ _ _ us hl => match us, hl with | [_, _], _ => rfl
  have F__law_fits := fun_mk (st := s__law_fits) L__law_fits D__law_fits P__law_fits
  have B__law_fits := F__law_fits.binds (ps := ["_law_token_here", "_law_things", "_law_at"]) fun _ _ _ _ _ _ us hl => match us, hl with | [_, _, _], _ => rfl
  have F__law_enter := fun_mk (st := s__law_enter) L__law_enter D__law_enter P__law_enter
  have B__law_enter := F__law_enter.binds (ps := ["_law_token_here", "_law_things"]) fun _ _ _ _ _ _ us hl => match us, hl with | [_, _], _ => rfl
  have F__law_fault := fun_mk (st := s__law_fault) L__law_fault D__law_fault P__law_fault
  have B__law_fault := F__law_fault.binds (ps := ["_law_history_here"]) fun _ _ _ _ _ _ us hl => match us, hl with | [_], _ => rfl
  have F__law_told := fun_mk (st := s__law_told) L__law_told D__law_told P__law_told
  have B__law_told := F__law_told.binds (ps := ["_law_which", "_law_history_here"]) fun _ _ _ _ _ _ us hl => match us, hl with | [_, _], _ => rfl
  have F__law_history := fun_mk (st := s__law_history) L__law_history D__law_history P__law_history
  have B__law_history := F__law_history.binds (ps := ["_law_bag_here", "_law_things"]) fun _ _ _ _ _ _ us hl => match us, hl with | [_, _], _ => rfl
  have F__law_turns := fun_mk (st := s__law_turns) L__law_turns D__law_turns P__law_turns
  have B__law_turns := F__law_turns.binds (ps := ["_law_history_here"]) fun _ _ _ _ _ _ us hl => match us, hl with | [_], _ => rfl
  have F__law_no_program := fun_mk (st := s__law_no_program) L__law_no_program D__law_no_program P__law_no_program
  have B__law_no_program := F__law_no_program.binds (ps := ["_law_history_here"]) fun _ _ _ _ _ _ us hl => match us, hl with | [_], _ => rfl
  have F_law := fun_mk (st := s_law) L_law D_law P_law
  have B_law := F_law.binds (ps := ["_law_script"]) fun _ _ _ _ _ _ us hl => match us, hl with | [_], _ => rfl
  have cls_RowCheck : Cls K c_RowCheck := ⟨c1_RowCheck, c2_RowCheck, c3_RowCheck, c4_RowCheck⟩
  have F_RowCheck___init__ := fun_mk (st := s_RowCheck___init__) L_RowCheck___init__ D_RowCheck___init__ P_RowCheck___init__
  have B_RowCheck___init__ := F_RowCheck___init__.binds (ps := ["self", "asks", "signals", "with_edits"]) fun _ _ _ _ _ _ us hl => match us, hl with | [_, _, _, _], _ => rfl
  have M_RowCheck : Mk K c_RowCheck m_RowCheck___init__ := ⟨mk_RowCheck, at_RowCheck___init__, fn_RowCheck___init__, kp_RowCheck⟩
  have F_RowCheck_check := fun_mk (st := s_RowCheck_check) L_RowCheck_check D_RowCheck_check P_RowCheck_check
  have B_RowCheck_check := F_RowCheck_check.binds (ps := ["self", "rows"]) fun _ _ _ _ _ _ us hl => match us, hl with | [_, _], _ => rfl
  have M_RowCheck_check : Meth K c_RowCheck "check" m_RowCheck_check := ⟨at_RowCheck_check, fn_RowCheck_check, P_RowCheck_check⟩
  have F_RowCheck_check_sizes := fun_mk (st := s_RowCheck_check_sizes) L_RowCheck_check_sizes D_RowCheck_check_sizes P_RowCheck_check_sizes
  have B_RowCheck_check_sizes := F_RowCheck_check_sizes.binds (ps := ["self"]) fun _ _ _ _ _ _ us hl => match us, hl with | [_], _ => rfl
  have M_RowCheck_check_sizes : Meth K c_RowCheck "check_sizes" m_RowCheck_check_sizes := ⟨at_RowCheck_check_sizes, fn_RowCheck_check_sizes, P_RowCheck_check_sizes⟩
  have F_RowCheck_check_list := fun_mk (st := s_RowCheck_check_list) L_RowCheck_check_list D_RowCheck_check_list P_RowCheck_check_list
  have B_RowCheck_check_list := F_RowCheck_check_list.binds (ps := ["self", "rows", "prefix", "depth", "in_loop"]) fun _ _ _ _ _ _ us hl => match us, hl with | [_, _, _, _, _], _ => rfl
  have M_RowCheck_check_list : Meth K c_RowCheck "check_list" m_RowCheck_check_list := ⟨at_RowCheck_check_list, fn_RowCheck_check_list, P_RowCheck_check_list⟩
  have F_RowCheck_fits := fun_mk (st := s_RowCheck_fits) L_RowCheck_fits D_RowCheck_fits P_RowCheck_fits
  have B_RowCheck_fits := F_RowCheck_fits.binds (ps := ["self", "row", "depth", "in_loop"]) fun _ _ _ _ _ _ us hl => match us, hl with | [_, _, _, _], _ => rfl
  have M_RowCheck_fits : Meth K c_RowCheck "fits" m_RowCheck_fits := ⟨at_RowCheck_fits, fn_RowCheck_fits, P_RowCheck_fits⟩
  have F_RowCheck_id_fits := fun_mk (st := s_RowCheck_id_fits) L_RowCheck_id_fits D_RowCheck_id_fits P_RowCheck_id_fits
  have B_RowCheck_id_fits := F_RowCheck_id_fits.binds (ps := ["self", "row"]) fun _ _ _ _ _ _ us hl => match us, hl with | [_, _], _ => rfl
  have M_RowCheck_id_fits : Meth K c_RowCheck "id_fits" m_RowCheck_id_fits := ⟨at_RowCheck_id_fits, fn_RowCheck_id_fits, P_RowCheck_id_fits⟩
  have F_RowCheck_part_fits := fun_mk (st := s_RowCheck_part_fits) L_RowCheck_part_fits D_RowCheck_part_fits P_RowCheck_part_fits
  have B_RowCheck_part_fits := F_RowCheck_part_fits.binds (ps := ["self", "code", "part"]) fun _ _ _ _ _ _ us hl => match us, hl with | [_, _, _], _ => rfl
  have M_RowCheck_part_fits : Meth K c_RowCheck "part_fits" m_RowCheck_part_fits := ⟨at_RowCheck_part_fits, fn_RowCheck_part_fits, P_RowCheck_part_fits⟩
  have F_RowCheck_collect := fun_mk (st := s_RowCheck_collect) L_RowCheck_collect D_RowCheck_collect P_RowCheck_collect
  have B_RowCheck_collect := F_RowCheck_collect.binds (ps := ["self", "row"]) fun _ _ _ _ _ _ us hl => match us, hl with | [_, _], _ => rfl
  have M_RowCheck_collect : Meth K c_RowCheck "collect" m_RowCheck_collect := ⟨at_RowCheck_collect, fn_RowCheck_collect, P_RowCheck_collect⟩
  have cls_Program : Cls K c_Program := ⟨c1_Program, c2_Program, c3_Program, c4_Program⟩
  have F_Program___init__ := fun_mk (st := s_Program___init__) L_Program___init__ D_Program___init__ P_Program___init__
  have M_Program : Mk K c_Program m_Program___init__ := ⟨mk_Program, at_Program___init__, fn_Program___init__, kp_Program⟩
  have F_Program_add_rows := fun_mk (st := s_Program_add_rows) L_Program_add_rows D_Program_add_rows P_Program_add_rows
  have B_Program_add_rows := F_Program_add_rows.binds (ps := ["self", "rows", "prefix"]) fun _ _ _ _ _ _ us hl => match us, hl with | [_, _, _], _ => rfl
  have M_Program_add_rows : Meth K c_Program "add_rows" m_Program_add_rows := ⟨at_Program_add_rows, fn_Program_add_rows, P_Program_add_rows⟩
  have T0 : Txt mg := { b_len := PySem.W.mg_none_of X G z_len, b_int := PySem.W.mg_none_of X G z_int, b_bool := PySem.W.mg_none_of X G z_bool, b_str := PySem.W.mg_none_of X G z_str, b_list := PySem.W.mg_none_of X G z_list, b_tuple := PySem.W.mg_none_of X G z_tuple, b_dict := PySem.W.mg_none_of X G z_dict, b_set := PySem.W.mg_none_of X G z_set, b_range := PySem.W.mg_none_of X G z_range, b_zip := PySem.W.mg_none_of X G z_zip, b_enumerate := PySem.W.mg_none_of X G z_enumerate, b_sorted := PySem.W.mg_none_of X G z_sorted, b_isinstance := PySem.W.mg_none_of X G z_isinstance, g_LETTERS := ⟨_, PySem.W.mg_of X G z_LETTERS⟩ }
  have TC : TxtC PP w K mg p_SHAPES c_InvalidProgram := { T0 with g_SHAPES := PySem.W.mg_of X G A_SHAPES, w_SHAPES := ⟨_, _, L_SHAPES, E_SHAPES, S_SHAPES⟩, g_MOST_ROWS := ⟨_, PySem.W.mg_of X G z_MOST_ROWS⟩, g_MOST_LABELS := ⟨_, PySem.W.mg_of X G z_MOST_LABELS⟩, g_MOST_SLOTS := ⟨_, PySem.W.mg_of X G z_MOST_SLOTS⟩, g_MOST_GATES := ⟨_, PySem.W.mg_of X G z_MOST_GATES⟩, g_MOST_EDITS := ⟨_, PySem.W.mg_of X G z_MOST_EDITS⟩, g_DEEPEST := ⟨_, PySem.W.mg_of X G z_DEEPEST⟩, g_InvalidProgram := PySem.W.mg_of X G A_InvalidProgram, k_InvalidProgram := kp_InvalidProgram, mk_InvalidProgram := xm_InvalidProgram.1, r_InvalidProgram := fun _ _ k => ⟨PySem.W.looks_subIn k hs_InvalidProgram, PySem.W.looks_typeIn k ty_InvalidProgram⟩ }
  have T : TxtH PP w K mg p_FORMS p_OUTER p_NUMBERED p_LAST c_InvalidHistory c_InvalidArgument := { T0 with g_FORMS := PySem.W.mg_of X G A_FORMS, w_FORMS := ⟨_, _, L_FORMS, E_FORMS, S_FORMS⟩, g_OUTER := PySem.W.mg_of X G A_OUTER, g_NUMBERED := PySem.W.mg_of X G A_NUMBERED, g_LAST := PySem.W.mg_of X G A_LAST, s_OUTER := S_OUTER, s_NUMBERED := S_NUMBERED, s_LAST := S_LAST, g_InvalidHistory := PySem.W.mg_of X G A_InvalidHistory, k_InvalidHistory := kp_InvalidHistory, mk_InvalidHistory := xm_InvalidHistory.1, r_InvalidHistory := fun _ _ k => ⟨PySem.W.looks_subIn k hs_InvalidHistory, PySem.W.looks_typeIn k ty_InvalidHistory⟩, g_InvalidArgument := PySem.W.mg_of X G A_InvalidArgument, k_InvalidArgument := kp_InvalidArgument, mk_InvalidArgument := xm_InvalidArgument.1, r_InvalidArgument := fun _ _ k => ⟨PySem.W.looks_subIn k hs_InvalidArgument, PySem.W.looks_typeIn k ty_InvalidArgument⟩ }
  have rc : RcC K c_RowCheck := ⟨cls_RowCheck, n_RowCheck_known_asks, n_RowCheck_known_signals, n_RowCheck_with_edits, n_RowCheck_total, n_RowCheck_label_words, n_RowCheck_slot_words, n_RowCheck_gate_words, n_RowCheck_edit_words⟩
  have pc : PgC K c_Program := ⟨cls_Program, n_Program_ask_table, n_Program_signal_table, n_Program_input_words, n_Program_row_list, n_Program_label_names, n_Program_slot_names, n_Program_gate_names, n_Program_row_table, n_Program_list_sizes⟩
  have pi : PgI K c_Program := ⟨cls_Program, pi_ha, xa2, xa3, pi_hm, pi_ic, pi_ty⟩
  have xh : XAsk K c_InvalidHistory := ⟨hg_InvalidHistory, hk_InvalidHistory, hs_InvalidHistory, hd_InvalidHistory, xa1, xa2, xa3, xa4⟩
  have TK : TxtK PP w K mg p_FORMS p_OUTER p_NUMBERED p_LAST c_InvalidHistory c_InvalidArgument c_Program := { T with g_Program := PySem.W.mg_of X G A_Program, pi := pi }
  have TL : TxtL PP w K mg p_FORMS p_OUTER p_NUMBERED p_LAST c_InvalidHistory c_InvalidArgument c_Program c_RunError c_InputError := { TK with g_RunError := PySem.W.mg_of X G A_RunError, g_InputError := PySem.W.mg_of X G A_InputError, k1 := kq1, k2 := kq2, k3 := kq3, xh := xh, xf := xf_InvalidHistory, n1 := no_at_InvalidHistory, hex := ex_InvalidHistory, xfa := xf_InvalidArgument, n1a := no_part_InvalidArgument, hexa := ex_InvalidArgument }
  refine ⟨PySem.W.fnOf "law" "law" (defArgs s_law) (defBody s_law) (defScope s_law) .none xk_law xc_law xp_law xa_law xe_law xt_law, fun s v => .of_eq rfl, fun base _ _ => ?_⟩
  have c_is_integer : Cal PP w K mg base CX0 1 "is_integer" ["value"] (spInt K) := ⟨g_is_integer, _, PySem.W.mg_of X G A_is_integer, P_is_integer, B_is_integer, ok_is_integer F_is_integer T0⟩
  have c_is_word : Cal PP w K mg base CX0 1 "is_word" ["value"] (spWord K) := ⟨g_is_word, _, PySem.W.mg_of X G A_is_word, P_is_word, B_is_word, ok_is_word F_is_word T0⟩
  have c_are_words : Cal PP w K mg base CX0 2 "are_words" ["value", "most"] (spAreWords K) := ⟨g_are_words, _, PySem.W.mg_of X G A_are_words, P_are_words, B_are_words, ok_are_words F_are_words T0 c_is_word⟩
  have c_is_branches : Cal PP w K mg base CX0 1 "is_branches" ["value"] (spBr K) := ⟨g_is_branches, _, PySem.W.mg_of X G A_is_branches, P_is_branches, B_is_branches, ok_is_branches F_is_branches T0⟩
  have c_inner_lists : Cal PP w K mg base CX0 1 "inner_lists" ["row"] (spInner K) := ⟨g_inner_lists, _, PySem.W.mg_of X G A_inner_lists, P_inner_lists, B_inner_lists, ok_inner_lists F_inner_lists T0⟩
  have c_with_lists : Cal PP w K mg base CX0 1 "with_lists" ["row", "lists"] (spWith K) := ⟨g_with_lists, _, PySem.W.mg_of X G A_with_lists, P_with_lists, B_with_lists, ok_with_lists F_with_lists T0⟩
  have c_copy_rows : Cal PP w K mg base CX0 11 "copy_rows" ["rows"] (spCRows K 5) := ok_copies F_copy_rows F_copy_row T0 (PySem.W.mg_of X G A_copy_rows) (PySem.W.mg_of X G A_copy_row) P_copy_rows P_copy_row B_copy_rows B_copy_row c_inner_lists c_with_lists 5
  have c_checked_asks : Cal PP w K mg base (L2.CX PP w) 3 "checked_asks" ["value"] (spTab K c_InvalidProgram "asks" (areWords 4) 6) := ⟨g_checked_asks, _, PySem.W.mg_of X G A_checked_asks, P_checked_asks, B_checked_asks, ok_checked_asks F_checked_asks TC c_is_word c_are_words⟩
  have c_is_box : Cal PP w K mg base CX0 3 "is_box" ["value"] (spBox K) := ⟨g_is_box, _, PySem.W.mg_of X G A_is_box, P_is_box, B_is_box, ok_is_box F_is_box T0 c_is_integer c_are_words⟩
  have c_checked_signals : Cal PP w K mg base (L2.CX PP w) 4 "checked_signals" ["value"] (spTab K c_InvalidProgram "signals" isBox 3) := ⟨g_checked_signals, _, PySem.W.mg_of X G A_checked_signals, P_checked_signals, B_checked_signals, ok_checked_signals F_checked_signals TC c_is_word c_is_box⟩
  have c_checked_inputs : Cal PP w K mg base (L2.CX PP w) 3 "checked_inputs" ["value"] (spInputs K c_InvalidProgram) := ⟨g_checked_inputs, _, PySem.W.mg_of X G A_checked_inputs, P_checked_inputs, B_checked_inputs, ok_checked_inputs F_checked_inputs TC c_are_words⟩
  have m_part_fits : Mcal PP w K mg base CX0 3 c_RowCheck "part_fits" ["self", "code", "part"] (spPF K) := ⟨m_RowCheck_part_fits, _, M_RowCheck_part_fits, B_RowCheck_part_fits, ok_part_fits F_RowCheck_part_fits T0 c_is_word c_are_words c_is_branches⟩
  have m_id_fits : Mcal PP w K mg base CX0 1 c_RowCheck "id_fits" ["self", "row"] (spID K) := ⟨m_RowCheck_id_fits, _, M_RowCheck_id_fits, B_RowCheck_id_fits, ok_id_fits F_RowCheck_id_fits⟩
  have m_collect : Mcal PP w K mg base CX0 1 c_RowCheck "collect" ["self", "row"] (spCol K) := ⟨m_RowCheck_collect, _, M_RowCheck_collect, B_RowCheck_collect, ok_collect F_RowCheck_collect TC⟩
  have m_fits : Mcal PP w K mg base CX0 4 c_RowCheck "fits" ["self", "row", "depth", "in_loop"] (spFits K c_RowCheck) := ⟨m_RowCheck_fits, _, M_RowCheck_fits, B_RowCheck_fits, ok_fits F_RowCheck_fits TC rc m_part_fits m_id_fits⟩
  have m_check_list : Mcal PP w K mg base (L2.CX PP w) 11 c_RowCheck "check_list" ["self", "rows", "prefix", "depth", "in_loop"] (spCL K c_RowCheck c_InvalidProgram 5) := ⟨m_RowCheck_check_list, _, M_RowCheck_check_list, B_RowCheck_check_list, ok_check_list F_RowCheck_check_list TC rc M_RowCheck_check_list B_RowCheck_check_list m_fits m_collect c_inner_lists 5⟩
  have m_check_sizes : Mcal PP w K mg base (L2.CX PP w) 1 c_RowCheck "check_sizes" ["self"] (spSizes K c_RowCheck c_InvalidProgram) := ⟨m_RowCheck_check_sizes, _, M_RowCheck_check_sizes, B_RowCheck_check_sizes, ok_check_sizes F_RowCheck_check_sizes TC rc⟩
  have m_check : Mcal PP w K mg base (L2.CX PP w) 12 c_RowCheck "check" ["self", "rows"] (spCheck K c_RowCheck c_InvalidProgram) := ⟨m_RowCheck_check, _, M_RowCheck_check, B_RowCheck_check, ok_check F_RowCheck_check TC rc m_check_list m_check_sizes⟩
  have k_RowCheck : Kcal PP w K mg base CX0 1 "RowCheck" c_RowCheck ["self", "asks", "signals", "with_edits"] (spRcInit K c_RowCheck) := ⟨m_RowCheck___init__, _, M_RowCheck, PySem.W.mg_of X G A_RowCheck, B_RowCheck___init__, ok_rcinit F_RowCheck___init__ rc⟩
  have c_inner_listsG : Cal PP w K mg base CX0 1 "inner_lists" ["row"] (spInnerG K) := ⟨g_inner_lists, _, PySem.W.mg_of X G A_inner_lists, P_inner_lists, B_inner_lists, ok_inner_listsG F_inner_lists T0⟩
  have m_add_rows : Mcal PP w K mg base CX0 7 c_Program "add_rows" ["self", "rows", "prefix"] (spAdd K c_Program 5) := ⟨m_Program_add_rows, _, M_Program_add_rows, B_Program_add_rows, ok_add_rows F_Program_add_rows T0 pc M_Program_add_rows B_Program_add_rows c_inner_listsG 5⟩
  have kp := ok_prog (base := base) F_Program___init__ TC pc rc c_checked_asks c_checked_signals c_checked_inputs k_RowCheck m_check c_copy_rows m_add_rows
  have k_Program0 : KcalG PP w K mg base (L2.CX PP w) 13 "Program" c_Program ["self", "rows", "asks", "signals", "inputs"] 1 [] (fun vs _ => vs ++ [.non, .non, .ref p_go]) (spProg K c_Program c_InvalidProgram) := ⟨m_Program___init__, _, fun us _ => us ++ [.none, .none, .ref p_go], M_Program, PySem.W.mg_of X G A_Program, kb_prog0 kw1 kw2 kw3, kp⟩
  have hgo : ∀ H, SqT K H p_go [.str "go"] := kw4
  have c_has_form : Cal PP w K mg base CX0 2 "has_form" ["token"] (spForm K) := ⟨g_has_form, _, PySem.W.mg_of X G A_has_form, P_has_form, B_has_form, ok_has_form F_has_form T c_is_word c_is_integer⟩
  have c_is_outer : Cal PP w K mg base CX0 1 "is_outer" ["token"] (spIsOut K) := ⟨g_is_outer, _, PySem.W.mg_of X G A_is_outer, P_is_outer, B_is_outer, ok_is_outer F_is_outer T⟩
  have c_suits_things : Cal PP w K mg base CX0 1 "suits_things" ["token", "things"] (spSuits K) := ⟨g_suits_things, _, PySem.W.mg_of X G A_suits_things, P_suits_things, B_suits_things, ok_suits F_suits_things T⟩
  have c_enter_token : Cal PP w K mg base CX0 1 "enter_token" ["token", "things"] (spEnter K) := ⟨g_enter_token, _, PySem.W.mg_of X G A_enter_token, P_enter_token, B_enter_token, ok_enter F_enter_token T⟩
  have c_check_tokens : Cal PP w K mg base (L2.CX PP w) 3 "check_tokens" ["history"] (spCheckJ K c_InvalidHistory) := ⟨g_check_tokens, _, PySem.W.mg_of X G A_check_tokens, P_check_tokens, B_check_tokens, ok_check_tokens F_check_tokens T c_has_form c_suits_things c_enter_token⟩
  have c_split_turns : Cal PP w K mg base CX0 2 "split_turns" ["history"] (spSplit K) := ⟨g_split_turns, _, PySem.W.mg_of X G A_split_turns, P_split_turns, B_split_turns, ok_split F_split_turns T c_is_outer⟩
  have c_check : Cal PP w K mg base (L2.CX PP w) 4 "check" ["history"] (spLen K c_InvalidHistory) := ⟨g_check, _, PySem.W.mg_of X G A_check, P_check, B_check, ok_hcheck F_check T0 c_check_tokens c_split_turns⟩
  have c_cut : Cal PP w K mg base (L2.CX PP w) 4 "cut" ["history"] (spCut K c_InvalidHistory) := ⟨g_cut, _, PySem.W.mg_of X G A_cut, P_cut, B_cut, ok_cut F_cut c_check_tokens c_split_turns⟩
  have c_check_program : Cal PP w K mg base (L2.CX PP w) 1 "check_program" ["value", "part"] (spCkP K c_InvalidArgument c_Program) := ⟨g_check_program, _, PySem.W.mg_of X G A_check_program, P_check_program, B_check_program, ok_check_program F_check_program TK⟩
  have c_replayed : Cal PP w K mg base (L2.CX PP w) 4 "replayed" ["program", "history"] (spRep K c_InvalidHistory c_InvalidArgument c_Program) := ⟨g_replayed, _, PySem.W.mg_of X G A_replayed, P_replayed, B_replayed, ok_replayed F_replayed c_check_program c_check_tokens⟩
  have c_read : Cal PP w K mg base (L2.CX PP w) 5 "read" ["program", "history"] (spRep K c_InvalidHistory c_InvalidArgument c_Program) := ⟨g_read, _, PySem.W.mg_of X G A_read, P_read, B_read, ok_read F_read c_replayed⟩
  have c_good_turns : Cal PP w K mg base (L2.CX PP w) 5 "good_turns" ["program", "history"] (spRep K c_InvalidHistory c_InvalidArgument c_Program) := ⟨g_good_turns, _, PySem.W.mg_of X G A_good_turns, P_good_turns, B_good_turns, ok_good_turns F_good_turns c_replayed⟩
  have c_resume : Cal PP w K mg base (L2.CX PP w) 5 "resume" ["program", "history"] (spRep K c_InvalidHistory c_InvalidArgument c_Program) := ⟨g_resume, _, PySem.W.mg_of X G A_resume, P_resume, B_resume, ok_resume F_resume c_replayed⟩
  have c__law_bag : Cal PP w K mg base CX0 1 "_law_bag" ["_law_script"] (spBag K) := ⟨g__law_bag, _, PySem.W.mg_of X G A__law_bag, P__law_bag, B__law_bag, ok_bag F__law_bag T0⟩
  have c__law_draw : Cal PP w K mg base CX0 1 "_law_draw" ["_law_bag_here", "_law_many"] spD := ⟨g__law_draw, _, PySem.W.mg_of X G A__law_draw, P__law_draw, B__law_draw, ok_draw F__law_draw T0⟩
  have c__law_one : Cal PP w K mg base CX0 2 "_law_one" ["_law_bag_here", "_law_items"] (spOne K) := ⟨g__law_one, _, PySem.W.mg_of X G A__law_one, P__law_one, B__law_one, ok_one F__law_one T0 c__law_draw⟩
  have c__law_words : Cal PP w K mg base CX0 2 "_law_words" ["_law_bag_here", "_law_many", "_law_most", "_law_taken"] (spWords K) := ⟨g__law_words, _, PySem.W.mg_of X G A__law_words, P__law_words, B__law_words, ok_words F__law_words T0 c__law_draw⟩
  have c__law_word : Cal PP w K mg base CX0 3 "_law_word" ["_law_bag_here"] spLWord := ⟨g__law_word, _, PySem.W.mg_of X G A__law_word, P__law_word, B__law_word, ok_lword F__law_word c__law_words⟩
  have c__law_token : Cal PP w K mg base CX0 4 "_law_token" ["_law_bag_here", "_law_things"] (spLTok K) := ⟨g__law_token, _, PySem.W.mg_of X G A__law_token, P__law_token, B__law_token, ok_ltok F__law_token T0 c__law_draw c__law_one c__law_word⟩
  have c__law_odd : Cal PP w K mg base CX0 2 "_law_odd" ["_law_bag_here", "_law_things"] (spLOdd K) := ⟨g__law_odd, _, PySem.W.mg_of X G A__law_odd, P__law_odd, B__law_odd, ok_lodd F__law_odd T0 c__law_draw⟩
  have c__law_fits : Cal PP w K mg base CX0 1 "_law_fits" ["_law_token_here", "_law_things", "_law_at"] (spLFits K) := ⟨g__law_fits, _, PySem.W.mg_of X G A__law_fits, P__law_fits, B__law_fits, ok_lfits F__law_fits T0⟩
  have c__law_enter : Cal PP w K mg base CX0 1 "_law_enter" ["_law_token_here", "_law_things"] (spLEnter K) := ⟨g__law_enter, _, PySem.W.mg_of X G A__law_enter, P__law_enter, B__law_enter, ok_lenter F__law_enter T0⟩
  have c__law_fault : Cal PP w K mg base CX0 2 "_law_fault" ["_law_history_here"] (spLFault K) := ⟨g__law_fault, _, PySem.W.mg_of X G A__law_fault, P__law_fault, B__law_fault, ok_lfault F__law_fault T0 c__law_fits c__law_enter⟩
  have c__law_turns : Cal PP w K mg base CX0 1 "_law_turns" ["_law_history_here"] (spSplit K) := ⟨g__law_turns, _, PySem.W.mg_of X G A__law_turns, P__law_turns, B__law_turns, ok_lturns F__law_turns T0⟩
  have c__law_history : Cal PP w K mg base CX0 5 "_law_history" ["_law_bag_here", "_law_things"] (spLHistory K) := ⟨g__law_history, _, PySem.W.mg_of X G A__law_history, P__law_history, B__law_history, ok_lhistory F__law_history T0 c__law_draw c__law_one c__law_word c__law_token c__law_odd c__law_fits c__law_enter⟩
  have c__law_told : Cal PP w K mg base CX0 15 "_law_told" ["_law_which", "_law_history_here"] (spLTold K) := ⟨g__law_told, _, PySem.W.mg_of X G A__law_told, P__law_told, B__law_told, ok_ltold F__law_told TL hgo k_Program0 c_check c_cut c_read c_good_turns c_resume⟩
  have c__law_no_program : Cal PP w K mg base CX0 6 "_law_no_program" ["_law_history_here"] (spNoP K) := ⟨g__law_no_program, _, PySem.W.mg_of X G A__law_no_program, P__law_no_program, B__law_no_program, ok_nop F__law_no_program TL c_read c_good_turns c_resume⟩
  have c__law_same : Cal PP w K mg base CX0 9 "_law_same" ["_law_told_here", "_law_due"] (spSame K 8) := ok_sameN F__law_same T0 (PySem.W.mg_of X G A__law_same) P__law_same B__law_same 8
  exact ok_law F_law TL c__law_bag c__law_history c__law_turns c__law_same c__law_told c__law_no_program c__law_fault c_cut
theorem walk {q : Program} {loose : List Str} {XP : (Str → Option Value) → Heap → Prop} {YP : World → Heap → Prop} {d : DefRec} {K : Params → PySem.W.Frag} (hdf : d.params.defaults = [])
    (hY : ∀ (w : World) (h : Heap), YP w h → (K w.params).In h)
    (F : ∀ (w : World) (mg : Str → Option Value) (fa : Addr) (h : Heap), (K w.params).In h → h.Ns mainGlobals mg → mg d.name = some (.ref fa) →
      ∃ fd : FuncData, (∀ (s : Shared) (u : Value), BindsTo s fd ⟨[u], []⟩ [("_law_script", u)]) ∧ ∀ base : Heap, (K w.params).In base → base.Ns mainGlobals mg → FnOk PP w (K w.params) mg base CX0 16 fa fd ["_law_script"] (spLaw (K w.params))) :
    PySem.W.WalkO q loose XP YP PySem.Challenge.rw_openruns_k12_well_formed_histories.row.toRowW d [] (fun f vs => PySem.call f vs) :=
  L2.walk_of (l := PySem.Challenge.rw_openruns_k12_well_formed_histories) (n := 63) (k := 16) (x := "_law_script") (CX := fun _ => CX0) (sp := fun w => spLaw (K w.params)) rfl (by decide) hdf ⟨rfl, by decide, by decide⟩ hY F (fun _ _ a ns hl _ hS => ⟨a, ns, rfl, hS, hl, fun _ => rfl⟩) fun _ _ _ _ _ z => z
end Op
namespace Hq
open PySem PySem.Spec PyProof.Rows L2 Op
theorem facts {w : World} {K : PySem.W.Frag} {h : Heap} {mg : Str → Option Value} {fa : Addr} (X : K.In h) (G : h.Ns mainGlobals mg) (hfa : mg "law" = some (.ref fa)) (c : ask.says w K) :
    ∃ fd : FuncData, (∀ (s : Shared) (v : Value), BindsTo s fd ⟨[v], []⟩ [("_law_script", v)]) ∧ ∀ base : Heap, K.In base → base.Ns mainGlobals mg → FnOk Op.PP w K mg base CX0 16 fa fd ["_law_script"] (Op.spLaw K) := by
  obtain ⟨_, _, L_SHAPES, E_SHAPES, S_SHAPES⟩ := Hk.tab_ok (c.tab 0)
  obtain ⟨_, _, L_FORMS, E_FORMS, S_FORMS⟩ := Hk.tab_ok (c.tab 1)
  obtain ⟨_, _, _, _, _, _, _, _, _, _, _, _, _, _, _, _, _, _, _, lf_InvalidHistory, cf_InvalidHistory, lc_InvalidHistory, ld_InvalidHistory, v2_InvalidHistory, fe_InvalidHistory⟩ := Hk.xf_ok rfl rfl (c.fn 0) (c.fact 0 0)
  obtain ⟨_, _, _, _, _, _, _, _, _, _, _, _, _, _, _, _, _, _, _, lf_InvalidArgument, cf_InvalidArgument, lc_InvalidArgument, ld_InvalidArgument, v2_InvalidArgument, fe_InvalidArgument⟩ := Hk.xf_ok rfl rfl (c.fn 1) (c.fact 0 1)
  obtain ⟨_, _, _, _, _, _, _, _, _, _, _, _, _, _, _, _, _, _, _, lf_InvalidProgram, cf_InvalidProgram, lc_InvalidProgram, ld_InvalidProgram, v2_InvalidProgram, fe_InvalidProgram⟩ := Hk.xf_ok rfl rfl (c.fn 2) (c.fact 0 2)
  obtain ⟨_, xk_is_integer, _, _, _, _, _, _, _, L_is_integer, D_is_integer, P_is_integer, w_is_integer⟩ := Hk.fn_ok rfl (c.fn 3) (c.fact 0 3)
  obtain ⟨_, xk_is_word, _, _, _, _, _, _, _, L_is_word, D_is_word, P_is_word, w_is_word⟩ := Hk.fn_ok rfl (c.fn 4) (c.fact 0 4)
  obtain ⟨_, xk_are_words, _, _, _, _, _, _, _, L_are_words, D_are_words, P_are_words, w_are_words⟩ := Hk.fn_ok rfl (c.fn 5) (c.fact 0 5)
  obtain ⟨_, xk_is_branches, _, _, _, _, _, _, _, L_is_branches, D_is_branches, P_is_branches, w_is_branches⟩ := Hk.fn_ok rfl (c.fn 6) (c.fact 0 6)
  obtain ⟨_, xk_inner_lists, _, _, _, _, _, _, _, L_inner_lists, D_inner_lists, P_inner_lists, w_inner_lists⟩ := Hk.fn_ok rfl (c.fn 7) (c.fact 0 7)
  obtain ⟨_, xk_with_lists, _, _, _, _, _, _, _, L_with_lists, D_with_lists, P_with_lists, w_with_lists⟩ := Hk.fn_ok rfl (c.fn 8) (c.fact 0 8)
  obtain ⟨_, xk_copy_row, _, _, _, _, _, _, _, L_copy_row, D_copy_row, P_copy_row, w_copy_row⟩ := Hk.fn_ok rfl (c.fn 9) (c.fact 0 9)
  obtain ⟨_, xk_copy_rows, _, _, _, _, _, _, _, L_copy_rows, D_copy_rows, P_copy_rows, w_copy_rows⟩ := Hk.fn_ok rfl (c.fn 10) (c.fact 0 10)
  obtain ⟨_, xk_checked_asks, _, _, _, _, _, _, _, L_checked_asks, D_checked_asks, P_checked_asks, w_checked_asks⟩ := Hk.fn_ok rfl (c.fn 11) (c.fact 0 11)
  obtain ⟨_, xk_is_box, _, _, _, _, _, _, _, L_is_box, D_is_box, P_is_box, w_is_box⟩ := Hk.fn_ok rfl (c.fn 12) (c.fact 0 12)
  obtain ⟨_, xk_checked_signals, _, _, _, _, _, _, _, L_checked_signals, D_checked_signals, P_checked_signals, w_checked_signals⟩ := Hk.fn_ok rfl (c.fn 13) (c.fact 0 13)
  obtain ⟨_, xk_checked_inputs, _, _, _, _, _, _, _, L_checked_inputs, D_checked_inputs, P_checked_inputs, w_checked_inputs⟩ := Hk.fn_ok rfl (c.fn 14) (c.fact 0 14)
  obtain ⟨_, xk_has_form, _, _, _, _, _, _, _, L_has_form, D_has_form, P_has_form, w_has_form⟩ := Hk.fn_ok rfl (c.fn 15) (c.fact 0 15)
  obtain ⟨_, xk_is_outer, _, _, _, _, _, _, _, L_is_outer, D_is_outer, P_is_outer, w_is_outer⟩ := Hk.fn_ok rfl (c.fn 16) (c.fact 0 16)
  obtain ⟨_, xk_suits_things, _, _, _, _, _, _, _, L_suits_things, D_suits_things, P_suits_things, w_suits_things⟩ := Hk.fn_ok rfl (c.fn 17) (c.fact 0 17)
  obtain ⟨_, xk_enter_token, _, _, _, _, _, _, _, L_enter_token, D_enter_token, P_enter_token, w_enter_token⟩ := Hk.fn_ok rfl (c.fn 18) (c.fact 0 18)
  obtain ⟨_, xk_check_tokens, _, _, _, _, _, _, _, L_check_tokens, D_check_tokens, P_check_tokens, w_check_tokens⟩ := Hk.fn_ok rfl (c.fn 19) (c.fact 0 19)
  obtain ⟨_, xk_split_turns, _, _, _, _, _, _, _, L_split_turns, D_split_turns, P_split_turns, w_split_turns⟩ := Hk.fn_ok rfl (c.fn 20) (c.fact 1 0)
  obtain ⟨_, xk_check, _, _, _, _, _, _, _, L_check, D_check, P_check, w_check⟩ := Hk.fn_ok rfl (c.fn 21) (c.fact 1 1)
  obtain ⟨_, xk_cut, _, _, _, _, _, _, _, L_cut, D_cut, P_cut, w_cut⟩ := Hk.fn_ok rfl (c.fn 22) (c.fact 1 2)
  obtain ⟨_, xk_check_program, _, _, _, _, _, _, _, L_check_program, D_check_program, P_check_program, w_check_program⟩ := Hk.fn_ok rfl (c.fn 23) (c.fact 1 3)
  obtain ⟨_, xk_replayed, _, _, _, _, _, _, _, L_replayed, D_replayed, P_replayed, w_replayed⟩ := Hk.fn_ok rfl (c.fn 24) (c.fact 1 4)
  obtain ⟨_, xk_read, _, _, _, _, _, _, _, L_read, D_read, P_read, w_read⟩ := Hk.fn_ok rfl (c.fn 25) (c.fact 1 5)
  obtain ⟨_, xk_good_turns, _, _, _, _, _, _, _, L_good_turns, D_good_turns, P_good_turns, w_good_turns⟩ := Hk.fn_ok rfl (c.fn 26) (c.fact 1 6)
  obtain ⟨_, xk_resume, _, _, _, _, _, _, _, L_resume, D_resume, P_resume, w_resume⟩ := Hk.fn_ok rfl (c.fn 27) (c.fact 1 7)
  obtain ⟨_, xk__law_bag, _, _, _, _, _, _, _, L__law_bag, D__law_bag, P__law_bag, w__law_bag⟩ := Hk.fn_ok rfl (c.fn 28) (c.fact 1 8)
  obtain ⟨_, xk__law_draw, _, _, _, _, _, _, _, L__law_draw, D__law_draw, P__law_draw, w__law_draw⟩ := Hk.fn_ok rfl (c.fn 29) (c.fact 1 9)
  obtain ⟨_, xk__law_one, _, _, _, _, _, _, _, L__law_one, D__law_one, P__law_one, w__law_one⟩ := Hk.fn_ok rfl (c.fn 30) (c.fact 1 10)
  obtain ⟨_, xk__law_words, _, _, _, _, _, _, _, L__law_words, D__law_words, P__law_words, w__law_words⟩ := Hk.fn_ok rfl (c.fn 31) (c.fact 1 11)
  obtain ⟨_, xk__law_word, _, _, _, _, _, _, _, L__law_word, D__law_word, P__law_word, w__law_word⟩ := Hk.fn_ok rfl (c.fn 32) (c.fact 1 12)
  obtain ⟨_, xk__law_same, _, _, _, _, _, _, _, L__law_same, D__law_same, P__law_same, w__law_same⟩ := Hk.fn_ok rfl (c.fn 33) (c.fact 1 13)
  obtain ⟨_, xk__law_token, _, _, _, _, _, _, _, L__law_token, D__law_token, P__law_token, w__law_token⟩ := Hk.fn_ok rfl (c.fn 34) (c.fact 1 14)
  obtain ⟨_, xk__law_odd, _, _, _, _, _, _, _, L__law_odd, D__law_odd, P__law_odd, w__law_odd⟩ := Hk.fn_ok rfl (c.fn 35) (c.fact 1 15)
  obtain ⟨_, xk__law_fits, _, _, _, _, _, _, _, L__law_fits, D__law_fits, P__law_fits, w__law_fits⟩ := Hk.fn_ok rfl (c.fn 36) (c.fact 1 16)
  obtain ⟨_, xk__law_enter, _, _, _, _, _, _, _, L__law_enter, D__law_enter, P__law_enter, w__law_enter⟩ := Hk.fn_ok rfl (c.fn 37) (c.fact 1 17)
  obtain ⟨_, xk__law_fault, _, _, _, _, _, _, _, L__law_fault, D__law_fault, P__law_fault, w__law_fault⟩ := Hk.fn_ok rfl (c.fn 38) (c.fact 1 18)
  obtain ⟨_, xk__law_told, _, _, _, _, _, _, _, L__law_told, D__law_told, P__law_told, w__law_told⟩ := Hk.fn_ok rfl (c.fn 39) (c.fact 1 19)
  obtain ⟨_, xk__law_history, _, _, _, _, _, _, _, L__law_history, D__law_history, P__law_history, w__law_history⟩ := Hk.fn_ok rfl (c.fn 40) (c.fact 2 0)
  obtain ⟨_, xk__law_turns, _, _, _, _, _, _, _, L__law_turns, D__law_turns, P__law_turns, w__law_turns⟩ := Hk.fn_ok rfl (c.fn 41) (c.fact 2 1)
  obtain ⟨_, xk__law_no_program, _, _, _, _, _, _, _, L__law_no_program, D__law_no_program, P__law_no_program, w__law_no_program⟩ := Hk.fn_ok rfl (c.fn 42) (c.fact 2 2)
  obtain ⟨_, xk_law, _, _, _, _, _, _, _, L_law, D_law, P_law, w_law⟩ := Hk.fn_ok rfl (c.fn 43) (c.fact 2 3)
  obtain ⟨_, xk_RowCheck___init__, _, _, _, _, _, _, _, L_RowCheck___init__, D_RowCheck___init__, P_RowCheck___init__, w_RowCheck___init__⟩ := Hk.fn_ok rfl (c.fn 44) (c.fact 2 4)
  obtain ⟨_, xk_RowCheck_check, _, _, _, _, _, _, _, L_RowCheck_check, D_RowCheck_check, P_RowCheck_check, w_RowCheck_check⟩ := Hk.fn_ok rfl (c.fn 45) (c.fact 2 5)
  obtain ⟨_, xk_RowCheck_check_sizes, _, _, _, _, _, _, _, L_RowCheck_check_sizes, D_RowCheck_check_sizes, P_RowCheck_check_sizes, w_RowCheck_check_sizes⟩ := Hk.fn_ok rfl (c.fn 46) (c.fact 2 6)
  obtain ⟨_, xk_RowCheck_check_list, _, _, _, _, _, _, _, L_RowCheck_check_list, D_RowCheck_check_list, P_RowCheck_check_list, w_RowCheck_check_list⟩ := Hk.fn_ok rfl (c.fn 47) (c.fact 2 7)
  obtain ⟨_, xk_RowCheck_fits, _, _, _, _, _, _, _, L_RowCheck_fits, D_RowCheck_fits, P_RowCheck_fits, w_RowCheck_fits⟩ := Hk.fn_ok rfl (c.fn 48) (c.fact 2 8)
  obtain ⟨_, xk_RowCheck_id_fits, _, _, _, _, _, _, _, L_RowCheck_id_fits, D_RowCheck_id_fits, P_RowCheck_id_fits, w_RowCheck_id_fits⟩ := Hk.fn_ok rfl (c.fn 49) (c.fact 2 9)
  obtain ⟨_, xk_RowCheck_part_fits, _, _, _, _, _, _, _, L_RowCheck_part_fits, D_RowCheck_part_fits, P_RowCheck_part_fits, w_RowCheck_part_fits⟩ := Hk.fn_ok rfl (c.fn 50) (c.fact 2 10)
  obtain ⟨_, xk_RowCheck_collect, _, _, _, _, _, _, _, L_RowCheck_collect, D_RowCheck_collect, P_RowCheck_collect, w_RowCheck_collect⟩ := Hk.fn_ok rfl (c.fn 51) (c.fact 2 11)
  obtain ⟨_, xk_Program___init__, _, _, _, _, _, _, _, L_Program___init__, D_Program___init__, P_Program___init__, w_Program___init__⟩ := Hk.fn_ok rfl (c.fn 52) (c.fact 2 12)
  obtain ⟨_, xk_Program_add_rows, _, _, _, _, _, _, _, L_Program_add_rows, D_Program_add_rows, P_Program_add_rows, w_Program_add_rows⟩ := Hk.fn_ok rfl (c.fn 53) (c.fact 2 13)
  have z_len : PySem.W.nsIn K mainGlobals "len" = some none := of_decide_eq_true (c.fact 2 14)
  have z_int : PySem.W.nsIn K mainGlobals "int" = some none := of_decide_eq_true (c.fact 2 15)
  have z_bool : PySem.W.nsIn K mainGlobals "bool" = some none := of_decide_eq_true (c.fact 2 16)
  have z_str : PySem.W.nsIn K mainGlobals "str" = some none := of_decide_eq_true (c.fact 2 17)
  have z_list : PySem.W.nsIn K mainGlobals "list" = some none := of_decide_eq_true (c.fact 2 18)
  have z_tuple : PySem.W.nsIn K mainGlobals "tuple" = some none := of_decide_eq_true (c.fact 2 19)
  have z_dict : PySem.W.nsIn K mainGlobals "dict" = some none := of_decide_eq_true (c.fact 3 0)
  have z_set : PySem.W.nsIn K mainGlobals "set" = some none := of_decide_eq_true (c.fact 3 1)
  have z_range : PySem.W.nsIn K mainGlobals "range" = some none := of_decide_eq_true (c.fact 3 2)
  have z_zip : PySem.W.nsIn K mainGlobals "zip" = some none := of_decide_eq_true (c.fact 3 3)
  have z_enumerate : PySem.W.nsIn K mainGlobals "enumerate" = some none := of_decide_eq_true (c.fact 3 4)
  have z_sorted : PySem.W.nsIn K mainGlobals "sorted" = some none := of_decide_eq_true (c.fact 3 5)
  have z_isinstance : PySem.W.nsIn K mainGlobals "isinstance" = some none := of_decide_eq_true (c.fact 3 6)
  obtain ⟨_, z_LETTERS⟩ := Hk.str_ok (c.fact 3 7)
  obtain ⟨_, z_MOST_ROWS⟩ := Hk.int_ok (c.fact 3 8)
  obtain ⟨_, z_MOST_LABELS⟩ := Hk.int_ok (c.fact 3 9)
  obtain ⟨_, z_MOST_SLOTS⟩ := Hk.int_ok (c.fact 3 10)
  obtain ⟨_, z_MOST_GATES⟩ := Hk.int_ok (c.fact 3 11)
  obtain ⟨_, z_MOST_EDITS⟩ := Hk.int_ok (c.fact 3 12)
  obtain ⟨_, z_DEEPEST⟩ := Hk.int_ok (c.fact 3 13)
  have A_SHAPES : PySem.W.nsIn K mainGlobals "SHAPES" = some (some (.ref (ad_p_SHAPES K))) := of_decide_eq_true (c.fact 3 14)
  have A_FORMS : PySem.W.nsIn K mainGlobals "FORMS" = some (some (.ref (ad_p_FORMS K))) := of_decide_eq_true (c.fact 3 15)
  have A_OUTER : PySem.W.nsIn K mainGlobals "OUTER" = some (some (.ref (ad_p_OUTER K))) := of_decide_eq_true (c.fact 3 16)
  have S_OUTER : ∀ H, SqT K H (ad_p_OUTER K) (List.map V.str ["begin", "answer", "rang", "signal"]) := fun H => Hk.tup_ok (c.fact 3 17) H
  have A_NUMBERED : PySem.W.nsIn K mainGlobals "NUMBERED" = some (some (.ref (ad_p_NUMBERED K))) := of_decide_eq_true (c.fact 3 18)
  have S_NUMBERED : ∀ H, SqT K H (ad_p_NUMBERED K) (List.map V.str ["answer", "rang", "dropped"]) := fun H => Hk.tup_ok (c.fact 3 19) H
  have A_LAST : PySem.W.nsIn K mainGlobals "LAST" = some (some (.ref (ad_p_LAST K))) := of_decide_eq_true (c.fact 4 0)
  have S_LAST : ∀ H, SqT K H (ad_p_LAST K) (List.map V.str ["ended", "anew"]) := fun H => Hk.tup_ok (c.fact 4 1) H
  have opq : PySem.W.nsIn K cStatics "thirdparty.any" = some none := of_decide_eq_true (c.fact 4 2)
  have sg : PySem.W.nsIn K mainGlobals "super" = some none := of_decide_eq_true (c.fact 4 3)
  have A_InputError : PySem.W.nsIn K mainGlobals "InputError" = some (some (.ref (ad_c_InputError K))) := of_decide_eq_true (c.fact 4 4)
  have A_OpenError : PySem.W.nsIn K mainGlobals "OpenError" = some (some (.ref (ad_c_OpenError K))) := of_decide_eq_true (c.fact 4 5)
  have A_RunError : PySem.W.nsIn K mainGlobals "RunError" = some (some (.ref (ad_c_RunError K))) := of_decide_eq_true (c.fact 4 6)
  have A_InvalidHistory : PySem.W.nsIn K mainGlobals "InvalidHistory" = some (some (.ref (ad_c_InvalidHistory K))) := of_decide_eq_true (c.fact 4 7)
  obtain ⟨_, _, _, _, _, _, _, _, _, _, _, _, _, _, l_InvalidHistory⟩ := Hk.exc_ok (c.fact 4 8)
  have sa_InvalidHistory : PySem.W.findIn K (.ref (ad_c_InvalidHistory K)) "__setattr__" = some (some (.builtin "object.__setattr__")) := of_decide_eq_true (c.fact 4 9)
  have su_InvalidHistory : PySem.W.ks_superIn K (ad_c_InvalidHistory K) (ad_c_InvalidHistory K) "__init__" = some (some (.builtin "LookupError.__init__")) := of_decide_eq_true (c.fact 4 10)
  have ii_InvalidHistory : PySem.W.findIn K (.ref (ad_c_InvalidHistory K)) "__init__" = some (some (.ref (ad_i_InvalidHistory K))) := of_decide_eq_true (c.fact 4 11)
  have ti_InvalidHistory : PySem.W.typeIn K (.ref (ad_i_InvalidHistory K)) = some (.type "function") := of_decide_eq_true (c.fact 4 12)
  have kp_InvalidHistory : PySem.W.keepIn K (.ref (ad_c_InvalidHistory K)) = true := of_decide_eq_true (c.fact 4 13)
  have hg_InvalidHistory : PySem.W.findIn K (.ref (ad_c_InvalidHistory K)) "__getattribute__" = some (some (.builtin "BaseException.__getattribute__")) := of_decide_eq_true (c.fact 4 14)
  have hk_InvalidHistory : PySem.W.findIn K (.ref (ad_c_InvalidHistory K)) "__getattr__" = some none := of_decide_eq_true (c.fact 4 15)
  have hs_InvalidHistory : PySem.W.subIn K (.ref (ad_c_InvalidHistory K)) (.type "BaseException") = some true := of_decide_eq_true (c.fact 4 16)
  have hd_InvalidHistory : PySem.W.hasDictIn K (ad_c_InvalidHistory K) = true := of_decide_eq_true (c.fact 4 17)
  have ty_InvalidHistory : PySem.W.typeIn K (.ref (ad_c_InvalidHistory K)) = some (.type "type") := of_decide_eq_true (c.fact 4 18)
  have ic_InvalidHistory : PySem.W.isClsIn K (ad_c_InvalidHistory K) = true := of_decide_eq_true (c.fact 4 19)
  have ss_InvalidHistory : PySem.W.subIn K (.ref (ad_c_InvalidHistory K)) (.ref (ad_c_InvalidHistory K)) = some true := of_decide_eq_true (c.fact 5 0)
  have no_at_InvalidHistory : PySem.W.findIn K (.ref (ad_c_InvalidHistory K)) "at" = some none := of_decide_eq_true (c.fact 5 1)
  have A_InvalidArgument : PySem.W.nsIn K mainGlobals "InvalidArgument" = some (some (.ref (ad_c_InvalidArgument K))) := of_decide_eq_true (c.fact 5 2)
  obtain ⟨_, _, _, _, _, _, _, _, _, _, _, _, _, _, l_InvalidArgument⟩ := Hk.exc_ok (c.fact 5 3)
  have sa_InvalidArgument : PySem.W.findIn K (.ref (ad_c_InvalidArgument K)) "__setattr__" = some (some (.builtin "object.__setattr__")) := of_decide_eq_true (c.fact 5 4)
  have su_InvalidArgument : PySem.W.ks_superIn K (ad_c_InvalidArgument K) (ad_c_InvalidArgument K) "__init__" = some (some (.builtin "LookupError.__init__")) := of_decide_eq_true (c.fact 5 5)
  have ii_InvalidArgument : PySem.W.findIn K (.ref (ad_c_InvalidArgument K)) "__init__" = some (some (.ref (ad_i_InvalidArgument K))) := of_decide_eq_true (c.fact 5 6)
  have ti_InvalidArgument : PySem.W.typeIn K (.ref (ad_i_InvalidArgument K)) = some (.type "function") := of_decide_eq_true (c.fact 5 7)
  have kp_InvalidArgument : PySem.W.keepIn K (.ref (ad_c_InvalidArgument K)) = true := of_decide_eq_true (c.fact 5 8)
  have hg_InvalidArgument : PySem.W.findIn K (.ref (ad_c_InvalidArgument K)) "__getattribute__" = some (some (.builtin "BaseException.__getattribute__")) := of_decide_eq_true (c.fact 5 9)
  have hk_InvalidArgument : PySem.W.findIn K (.ref (ad_c_InvalidArgument K)) "__getattr__" = some none := of_decide_eq_true (c.fact 5 10)
  have hs_InvalidArgument : PySem.W.subIn K (.ref (ad_c_InvalidArgument K)) (.type "BaseException") = some true := of_decide_eq_true (c.fact 5 11)
  have hd_InvalidArgument : PySem.W.hasDictIn K (ad_c_InvalidArgument K) = true := of_decide_eq_true (c.fact 5 12)
  have ty_InvalidArgument : PySem.W.typeIn K (.ref (ad_c_InvalidArgument K)) = some (.type "type") := of_decide_eq_true (c.fact 5 13)
  have ic_InvalidArgument : PySem.W.isClsIn K (ad_c_InvalidArgument K) = true := of_decide_eq_true (c.fact 5 14)
  have ss_InvalidArgument : PySem.W.subIn K (.ref (ad_c_InvalidArgument K)) (.ref (ad_c_InvalidArgument K)) = some true := of_decide_eq_true (c.fact 5 15)
  have no_part_InvalidArgument : PySem.W.findIn K (.ref (ad_c_InvalidArgument K)) "part" = some none := of_decide_eq_true (c.fact 5 16)
  have A_InvalidProgram : PySem.W.nsIn K mainGlobals "InvalidProgram" = some (some (.ref (ad_c_InvalidProgram K))) := of_decide_eq_true (c.fact 5 17)
  obtain ⟨_, _, _, _, _, _, _, _, _, _, _, _, _, _, l_InvalidProgram⟩ := Hk.exc_ok (c.fact 5 18)
  have sa_InvalidProgram : PySem.W.findIn K (.ref (ad_c_InvalidProgram K)) "__setattr__" = some (some (.builtin "object.__setattr__")) := of_decide_eq_true (c.fact 5 19)
  have su_InvalidProgram : PySem.W.ks_superIn K (ad_c_InvalidProgram K) (ad_c_InvalidProgram K) "__init__" = some (some (.builtin "LookupError.__init__")) := of_decide_eq_true (c.fact 6 0)
  have ii_InvalidProgram : PySem.W.findIn K (.ref (ad_c_InvalidProgram K)) "__init__" = some (some (.ref (ad_i_InvalidProgram K))) := of_decide_eq_true (c.fact 6 1)
  have ti_InvalidProgram : PySem.W.typeIn K (.ref (ad_i_InvalidProgram K)) = some (.type "function") := of_decide_eq_true (c.fact 6 2)
  have kp_InvalidProgram : PySem.W.keepIn K (.ref (ad_c_InvalidProgram K)) = true := of_decide_eq_true (c.fact 6 3)
  have hg_InvalidProgram : PySem.W.findIn K (.ref (ad_c_InvalidProgram K)) "__getattribute__" = some (some (.builtin "BaseException.__getattribute__")) := of_decide_eq_true (c.fact 6 4)
  have hk_InvalidProgram : PySem.W.findIn K (.ref (ad_c_InvalidProgram K)) "__getattr__" = some none := of_decide_eq_true (c.fact 6 5)
  have hs_InvalidProgram : PySem.W.subIn K (.ref (ad_c_InvalidProgram K)) (.type "BaseException") = some true := of_decide_eq_true (c.fact 6 6)
  have hd_InvalidProgram : PySem.W.hasDictIn K (ad_c_InvalidProgram K) = true := of_decide_eq_true (c.fact 6 7)
  have ty_InvalidProgram : PySem.W.typeIn K (.ref (ad_c_InvalidProgram K)) = some (.type "type") := of_decide_eq_true (c.fact 6 8)
  have ic_InvalidProgram : PySem.W.isClsIn K (ad_c_InvalidProgram K) = true := of_decide_eq_true (c.fact 6 9)
  have ss_InvalidProgram : PySem.W.subIn K (.ref (ad_c_InvalidProgram K)) (.ref (ad_c_InvalidProgram K)) = some true := of_decide_eq_true (c.fact 6 10)
  have no_part_InvalidProgram : PySem.W.findIn K (.ref (ad_c_InvalidProgram K)) "part" = some none := of_decide_eq_true (c.fact 6 11)
  have no_path_InvalidProgram : PySem.W.findIn K (.ref (ad_c_InvalidProgram K)) "path" = some none := of_decide_eq_true (c.fact 6 12)
  have xa1 : PySem.W.findIn K (.ref (ad_c_InvalidHistory K)) "__class__" = some (some (.builtin "object.__class__")) := of_decide_eq_true (c.fact 6 13)
  have xa2 : PySem.W.specialIn K (.builtin "object.__class__") "__get__" = some (some (.builtin "getset_descriptor.__get__")) := of_decide_eq_true (c.fact 6 14)
  have xa3 : PySem.W.takesIn K (.builtin "object.__class__") = some true := of_decide_eq_true (c.fact 6 15)
  have xa4 : PySem.W.mroIn K (ad_c_InvalidHistory K) (.type "object") = some true := of_decide_eq_true (c.fact 6 16)
  have kq1s : PySem.W.subIn K (.ref (ad_c_InvalidHistory K)) (.ref (ad_c_InvalidArgument K)) = some false := of_decide_eq_true (c.fact 6 17)
  have kq1n : (Value.ref (ad_c_InvalidHistory K) == Value.ref (ad_c_InvalidArgument K)) = false := of_decide_eq_true (c.fact 6 18)
  have ty_RunError : PySem.W.typeIn K (.ref (ad_c_RunError K)) = some (.type "type") := of_decide_eq_true (c.fact 6 19)
  have ic_RunError : PySem.W.isClsIn K (ad_c_RunError K) = true := of_decide_eq_true (c.fact 7 0)
  have kq2s : PySem.W.subIn K (.ref (ad_c_InvalidHistory K)) (.ref (ad_c_RunError K)) = some false := of_decide_eq_true (c.fact 7 1)
  have kq2n : (Value.ref (ad_c_InvalidHistory K) == Value.ref (ad_c_RunError K)) = false := of_decide_eq_true (c.fact 7 2)
  have ty_InputError : PySem.W.typeIn K (.ref (ad_c_InputError K)) = some (.type "type") := of_decide_eq_true (c.fact 7 3)
  have ic_InputError : PySem.W.isClsIn K (ad_c_InputError K) = true := of_decide_eq_true (c.fact 7 4)
  have kq3s : PySem.W.subIn K (.ref (ad_c_InvalidHistory K)) (.ref (ad_c_InputError K)) = some true := of_decide_eq_true (c.fact 7 5)
  have kq3n : (Value.ref (ad_c_InvalidHistory K) == Value.ref (ad_c_InputError K)) = false := of_decide_eq_true (c.fact 7 6)
  have A_is_integer : PySem.W.nsIn K mainGlobals "is_integer" = some (some (.ref (ad_g_is_integer K))) := of_decide_eq_true (c.fact 7 7)
  have A_is_word : PySem.W.nsIn K mainGlobals "is_word" = some (some (.ref (ad_g_is_word K))) := of_decide_eq_true (c.fact 7 8)
  have A_are_words : PySem.W.nsIn K mainGlobals "are_words" = some (some (.ref (ad_g_are_words K))) := of_decide_eq_true (c.fact 7 9)
  have A_is_branches : PySem.W.nsIn K mainGlobals "is_branches" = some (some (.ref (ad_g_is_branches K))) := of_decide_eq_true (c.fact 7 10)
  have A_inner_lists : PySem.W.nsIn K mainGlobals "inner_lists" = some (some (.ref (ad_g_inner_lists K))) := of_decide_eq_true (c.fact 7 11)
  have A_with_lists : PySem.W.nsIn K mainGlobals "with_lists" = some (some (.ref (ad_g_with_lists K))) := of_decide_eq_true (c.fact 7 12)
  have A_copy_row : PySem.W.nsIn K mainGlobals "copy_row" = some (some (.ref (ad_g_copy_row K))) := of_decide_eq_true (c.fact 7 13)
  have A_copy_rows : PySem.W.nsIn K mainGlobals "copy_rows" = some (some (.ref (ad_g_copy_rows K))) := of_decide_eq_true (c.fact 7 14)
  have A_checked_asks : PySem.W.nsIn K mainGlobals "checked_asks" = some (some (.ref (ad_g_checked_asks K))) := of_decide_eq_true (c.fact 7 15)
  have A_is_box : PySem.W.nsIn K mainGlobals "is_box" = some (some (.ref (ad_g_is_box K))) := of_decide_eq_true (c.fact 7 16)
  have A_checked_signals : PySem.W.nsIn K mainGlobals "checked_signals" = some (some (.ref (ad_g_checked_signals K))) := of_decide_eq_true (c.fact 7 17)
  have A_checked_inputs : PySem.W.nsIn K mainGlobals "checked_inputs" = some (some (.ref (ad_g_checked_inputs K))) := of_decide_eq_true (c.fact 7 18)
  have A_has_form : PySem.W.nsIn K mainGlobals "has_form" = some (some (.ref (ad_g_has_form K))) := of_decide_eq_true (c.fact 7 19)
  have A_is_outer : PySem.W.nsIn K mainGlobals "is_outer" = some (some (.ref (ad_g_is_outer K))) := of_decide_eq_true (c.fact 8 0)
  have A_suits_things : PySem.W.nsIn K mainGlobals "suits_things" = some (some (.ref (ad_g_suits_things K))) := of_decide_eq_true (c.fact 8 1)
  have A_enter_token : PySem.W.nsIn K mainGlobals "enter_token" = some (some (.ref (ad_g_enter_token K))) := of_decide_eq_true (c.fact 8 2)
  have A_check_tokens : PySem.W.nsIn K mainGlobals "check_tokens" = some (some (.ref (ad_g_check_tokens K))) := of_decide_eq_true (c.fact 8 3)
  have A_split_turns : PySem.W.nsIn K mainGlobals "split_turns" = some (some (.ref (ad_g_split_turns K))) := of_decide_eq_true (c.fact 8 4)
  have A_check : PySem.W.nsIn K mainGlobals "check" = some (some (.ref (ad_g_check K))) := of_decide_eq_true (c.fact 8 5)
  have A_cut : PySem.W.nsIn K mainGlobals "cut" = some (some (.ref (ad_g_cut K))) := of_decide_eq_true (c.fact 8 6)
  have A_check_program : PySem.W.nsIn K mainGlobals "check_program" = some (some (.ref (ad_g_check_program K))) := of_decide_eq_true (c.fact 8 7)
  have A_replayed : PySem.W.nsIn K mainGlobals "replayed" = some (some (.ref (ad_g_replayed K))) := of_decide_eq_true (c.fact 8 8)
  have A_read : PySem.W.nsIn K mainGlobals "read" = some (some (.ref (ad_g_read K))) := of_decide_eq_true (c.fact 8 9)
  have A_good_turns : PySem.W.nsIn K mainGlobals "good_turns" = some (some (.ref (ad_g_good_turns K))) := of_decide_eq_true (c.fact 8 10)
  have A_resume : PySem.W.nsIn K mainGlobals "resume" = some (some (.ref (ad_g_resume K))) := of_decide_eq_true (c.fact 8 11)
  have A__law_bag : PySem.W.nsIn K mainGlobals "_law_bag" = some (some (.ref (ad_g__law_bag K))) := of_decide_eq_true (c.fact 8 12)
  have A__law_draw : PySem.W.nsIn K mainGlobals "_law_draw" = some (some (.ref (ad_g__law_draw K))) := of_decide_eq_true (c.fact 8 13)
  have A__law_one : PySem.W.nsIn K mainGlobals "_law_one" = some (some (.ref (ad_g__law_one K))) := of_decide_eq_true (c.fact 8 14)
  have A__law_words : PySem.W.nsIn K mainGlobals "_law_words" = some (some (.ref (ad_g__law_words K))) := of_decide_eq_true (c.fact 8 15)
  have A__law_word : PySem.W.nsIn K mainGlobals "_law_word" = some (some (.ref (ad_g__law_word K))) := of_decide_eq_true (c.fact 8 16)
  have A__law_same : PySem.W.nsIn K mainGlobals "_law_same" = some (some (.ref (ad_g__law_same K))) := of_decide_eq_true (c.fact 8 17)
  have A__law_token : PySem.W.nsIn K mainGlobals "_law_token" = some (some (.ref (ad_g__law_token K))) := of_decide_eq_true (c.fact 8 18)
  have A__law_odd : PySem.W.nsIn K mainGlobals "_law_odd" = some (some (.ref (ad_g__law_odd K))) := of_decide_eq_true (c.fact 8 19)
  have A__law_fits : PySem.W.nsIn K mainGlobals "_law_fits" = some (some (.ref (ad_g__law_fits K))) := of_decide_eq_true (c.fact 9 0)
  have A__law_enter : PySem.W.nsIn K mainGlobals "_law_enter" = some (some (.ref (ad_g__law_enter K))) := of_decide_eq_true (c.fact 9 1)
  have A__law_fault : PySem.W.nsIn K mainGlobals "_law_fault" = some (some (.ref (ad_g__law_fault K))) := of_decide_eq_true (c.fact 9 2)
  have A__law_told : PySem.W.nsIn K mainGlobals "_law_told" = some (some (.ref (ad_g__law_told K))) := of_decide_eq_true (c.fact 9 3)
  have A__law_history : PySem.W.nsIn K mainGlobals "_law_history" = some (some (.ref (ad_g__law_history K))) := of_decide_eq_true (c.fact 9 4)
  have A__law_turns : PySem.W.nsIn K mainGlobals "_law_turns" = some (some (.ref (ad_g__law_turns K))) := of_decide_eq_true (c.fact 9 5)
  have A__law_no_program : PySem.W.nsIn K mainGlobals "_law_no_program" = some (some (.ref (ad_g__law_no_program K))) := of_decide_eq_true (c.fact 9 6)
  have A_law : PySem.W.nsIn K mainGlobals "law" = some (some (.ref (ad_g_law K))) := of_decide_eq_true (c.fact 9 7)
  have A_RowCheck : PySem.W.nsIn K mainGlobals "RowCheck" = some (some (.ref (ad_c_RowCheck K))) := of_decide_eq_true (c.fact 9 8)
  have c1_RowCheck : PySem.W.plainGet K (ad_c_RowCheck K) Str.empty = true := of_decide_eq_true (c.fact 9 9)
  have c2_RowCheck : PySem.W.hasDictIn K (ad_c_RowCheck K) = true := of_decide_eq_true (c.fact 9 10)
  have c3_RowCheck : PySem.W.plainOver K (ad_c_RowCheck K) = true := of_decide_eq_true (c.fact 9 11)
  have c4_RowCheck : PySem.W.findIn K (.ref (ad_c_RowCheck K)) "__setattr__" = some (some (.builtin "object.__setattr__")) := of_decide_eq_true (c.fact 9 12)
  have n_RowCheck_known_asks : PySem.W.findIn K (.ref (ad_c_RowCheck K)) "known_asks" = some none := of_decide_eq_true (c.fact 9 13)
  have n_RowCheck_known_signals : PySem.W.findIn K (.ref (ad_c_RowCheck K)) "known_signals" = some none := of_decide_eq_true (c.fact 9 14)
  have n_RowCheck_with_edits : PySem.W.findIn K (.ref (ad_c_RowCheck K)) "with_edits" = some none := of_decide_eq_true (c.fact 9 15)
  have n_RowCheck_total : PySem.W.findIn K (.ref (ad_c_RowCheck K)) "total" = some none := of_decide_eq_true (c.fact 9 16)
  have n_RowCheck_label_words : PySem.W.findIn K (.ref (ad_c_RowCheck K)) "label_words" = some none := of_decide_eq_true (c.fact 9 17)
  have n_RowCheck_slot_words : PySem.W.findIn K (.ref (ad_c_RowCheck K)) "slot_words" = some none := of_decide_eq_true (c.fact 9 18)
  have n_RowCheck_gate_words : PySem.W.findIn K (.ref (ad_c_RowCheck K)) "gate_words" = some none := of_decide_eq_true (c.fact 9 19)
  have n_RowCheck_edit_words : PySem.W.findIn K (.ref (ad_c_RowCheck K)) "edit_words" = some none := of_decide_eq_true (c.fact 10 0)
  have mk_RowCheck : PySem.W.makesIn K (ad_c_RowCheck K) = true := of_decide_eq_true (c.fact 10 1)
  have kp_RowCheck : PySem.W.keepIn K (.ref (ad_c_RowCheck K)) = true := of_decide_eq_true (c.fact 10 2)
  have at_RowCheck___init__ : PySem.W.findIn K (.ref (ad_c_RowCheck K)) "__init__" = some (some (.ref (ad_m_RowCheck___init__ K))) := of_decide_eq_true (c.fact 10 3)
  have fn_RowCheck___init__ : PySem.W.isFn K (.ref (ad_m_RowCheck___init__ K)) = true := of_decide_eq_true (c.fact 10 4)
  have at_RowCheck_check : PySem.W.findIn K (.ref (ad_c_RowCheck K)) "check" = some (some (.ref (ad_m_RowCheck_check K))) := of_decide_eq_true (c.fact 10 5)
  have fn_RowCheck_check : PySem.W.isFn K (.ref (ad_m_RowCheck_check K)) = true := of_decide_eq_true (c.fact 10 6)
  have at_RowCheck_check_sizes : PySem.W.findIn K (.ref (ad_c_RowCheck K)) "check_sizes" = some (some (.ref (ad_m_RowCheck_check_sizes K))) := of_decide_eq_true (c.fact 10 7)
  have fn_RowCheck_check_sizes : PySem.W.isFn K (.ref (ad_m_RowCheck_check_sizes K)) = true := of_decide_eq_true (c.fact 10 8)
  have at_RowCheck_check_list : PySem.W.findIn K (.ref (ad_c_RowCheck K)) "check_list" = some (some (.ref (ad_m_RowCheck_check_list K))) := of_decide_eq_true (c.fact 10 9)
  have fn_RowCheck_check_list : PySem.W.isFn K (.ref (ad_m_RowCheck_check_list K)) = true := of_decide_eq_true (c.fact 10 10)
  have at_RowCheck_fits : PySem.W.findIn K (.ref (ad_c_RowCheck K)) "fits" = some (some (.ref (ad_m_RowCheck_fits K))) := of_decide_eq_true (c.fact 10 11)
  have fn_RowCheck_fits : PySem.W.isFn K (.ref (ad_m_RowCheck_fits K)) = true := of_decide_eq_true (c.fact 10 12)
  have at_RowCheck_id_fits : PySem.W.findIn K (.ref (ad_c_RowCheck K)) "id_fits" = some (some (.ref (ad_m_RowCheck_id_fits K))) := of_decide_eq_true (c.fact 10 13)
  have fn_RowCheck_id_fits : PySem.W.isFn K (.ref (ad_m_RowCheck_id_fits K)) = true := of_decide_eq_true (c.fact 10 14)
  have at_RowCheck_part_fits : PySem.W.findIn K (.ref (ad_c_RowCheck K)) "part_fits" = some (some (.ref (ad_m_RowCheck_part_fits K))) := of_decide_eq_true (c.fact 10 15)
  have fn_RowCheck_part_fits : PySem.W.isFn K (.ref (ad_m_RowCheck_part_fits K)) = true := of_decide_eq_true (c.fact 10 16)
  have at_RowCheck_collect : PySem.W.findIn K (.ref (ad_c_RowCheck K)) "collect" = some (some (.ref (ad_m_RowCheck_collect K))) := of_decide_eq_true (c.fact 10 17)
  have fn_RowCheck_collect : PySem.W.isFn K (.ref (ad_m_RowCheck_collect K)) = true := of_decide_eq_true (c.fact 10 18)
  have A_Program : PySem.W.nsIn K mainGlobals "Program" = some (some (.ref (ad_c_Program K))) := of_decide_eq_true (c.fact 10 19)
  have c1_Program : PySem.W.plainGet K (ad_c_Program K) Str.empty = true := of_decide_eq_true (c.fact 11 0)
  have c2_Program : PySem.W.hasDictIn K (ad_c_Program K) = true := of_decide_eq_true (c.fact 11 1)
  have c3_Program : PySem.W.plainOver K (ad_c_Program K) = true := of_decide_eq_true (c.fact 11 2)
  have c4_Program : PySem.W.findIn K (.ref (ad_c_Program K)) "__setattr__" = some (some (.builtin "object.__setattr__")) := of_decide_eq_true (c.fact 11 3)
  have n_Program_ask_table : PySem.W.findIn K (.ref (ad_c_Program K)) "ask_table" = some none := of_decide_eq_true (c.fact 11 4)
  have n_Program_signal_table : PySem.W.findIn K (.ref (ad_c_Program K)) "signal_table" = some none := of_decide_eq_true (c.fact 11 5)
  have n_Program_input_words : PySem.W.findIn K (.ref (ad_c_Program K)) "input_words" = some none := of_decide_eq_true (c.fact 11 6)
  have n_Program_row_list : PySem.W.findIn K (.ref (ad_c_Program K)) "row_list" = some none := of_decide_eq_true (c.fact 11 7)
  have n_Program_label_names : PySem.W.findIn K (.ref (ad_c_Program K)) "label_names" = some none := of_decide_eq_true (c.fact 11 8)
  have n_Program_slot_names : PySem.W.findIn K (.ref (ad_c_Program K)) "slot_names" = some none := of_decide_eq_true (c.fact 11 9)
  have n_Program_gate_names : PySem.W.findIn K (.ref (ad_c_Program K)) "gate_names" = some none := of_decide_eq_true (c.fact 11 10)
  have n_Program_row_table : PySem.W.findIn K (.ref (ad_c_Program K)) "row_table" = some none := of_decide_eq_true (c.fact 11 11)
  have n_Program_list_sizes : PySem.W.findIn K (.ref (ad_c_Program K)) "list_sizes" = some none := of_decide_eq_true (c.fact 11 12)
  have mk_Program : PySem.W.makesIn K (ad_c_Program K) = true := of_decide_eq_true (c.fact 11 13)
  have kp_Program : PySem.W.keepIn K (.ref (ad_c_Program K)) = true := of_decide_eq_true (c.fact 11 14)
  have at_Program___init__ : PySem.W.findIn K (.ref (ad_c_Program K)) "__init__" = some (some (.ref (ad_m_Program___init__ K))) := of_decide_eq_true (c.fact 11 15)
  have fn_Program___init__ : PySem.W.isFn K (.ref (ad_m_Program___init__ K)) = true := of_decide_eq_true (c.fact 11 16)
  have kw0 : ((ad_p_kw K) == 0) = false := of_decide_eq_true (c.fact 11 17)
  have kw1 : PySem.W.nsIn K (ad_p_kw K) "asks" = some (some .none) := of_decide_eq_true (c.fact 11 18)
  have kw2 : PySem.W.nsIn K (ad_p_kw K) "signals" = some (some .none) := of_decide_eq_true (c.fact 11 19)
  have kw3 : PySem.W.nsIn K (ad_p_kw K) "inputs" = some (some (.ref (ad_p_go K))) := of_decide_eq_true (c.fact 12 0)
  have kw4 : ∀ H, SqT K H (ad_p_go K) (List.map V.str ["go"]) := fun H => Hk.tup_ok (c.fact 12 1) H
  have at_Program_add_rows : PySem.W.findIn K (.ref (ad_c_Program K)) "add_rows" = some (some (.ref (ad_m_Program_add_rows K))) := of_decide_eq_true (c.fact 12 2)
  have fn_Program_add_rows : PySem.W.isFn K (.ref (ad_m_Program_add_rows K)) = true := of_decide_eq_true (c.fact 12 3)
  have pi_ha : PySem.W.findIn K (.ref (ad_c_Program K)) "__class__" = some (some (.builtin "object.__class__")) := of_decide_eq_true (c.fact 12 4)
  have pi_hm : PySem.W.mroIn K (ad_c_Program K) (.type "object") = some true := of_decide_eq_true (c.fact 12 5)
  have pi_ty : PySem.W.typeIn K (.ref (ad_c_Program K)) = some (.type "type") := of_decide_eq_true (c.fact 12 6)
  have pi_ic : PySem.W.isClsIn K (ad_c_Program K) = true := of_decide_eq_true (c.fact 12 7)
  have ek := w_Program___init__ (ad_p_kw K) rfl kw0
  subst ek
  exact Op.all_mk X G hfa z_len z_int z_bool z_str z_list z_tuple z_dict z_set z_range z_zip z_enumerate z_sorted z_isinstance z_LETTERS z_MOST_ROWS z_MOST_LABELS z_MOST_SLOTS z_MOST_GATES z_MOST_EDITS z_DEEPEST A_SHAPES L_SHAPES E_SHAPES S_SHAPES A_FORMS L_FORMS E_FORMS S_FORMS A_OUTER S_OUTER A_NUMBERED S_NUMBERED A_LAST S_LAST opq sg A_InputError A_OpenError A_RunError A_InvalidHistory l_InvalidHistory sa_InvalidHistory su_InvalidHistory ii_InvalidHistory ti_InvalidHistory lf_InvalidHistory cf_InvalidHistory lc_InvalidHistory ld_InvalidHistory v2_InvalidHistory fe_InvalidHistory kp_InvalidHistory hg_InvalidHistory hk_InvalidHistory hs_InvalidHistory hd_InvalidHistory ty_InvalidHistory ic_InvalidHistory ss_InvalidHistory no_at_InvalidHistory A_InvalidArgument l_InvalidArgument sa_InvalidArgument su_InvalidArgument ii_InvalidArgument ti_InvalidArgument lf_InvalidArgument cf_InvalidArgument lc_InvalidArgument ld_InvalidArgument v2_InvalidArgument fe_InvalidArgument kp_InvalidArgument hg_InvalidArgument hk_InvalidArgument hs_InvalidArgument hd_InvalidArgument ty_InvalidArgument ic_InvalidArgument ss_InvalidArgument no_part_InvalidArgument A_InvalidProgram l_InvalidProgram sa_InvalidProgram su_InvalidProgram ii_InvalidProgram ti_InvalidProgram lf_InvalidProgram cf_InvalidProgram lc_InvalidProgram ld_InvalidProgram v2_InvalidProgram fe_InvalidProgram kp_InvalidProgram hg_InvalidProgram hk_InvalidProgram hs_InvalidProgram hd_InvalidProgram ty_InvalidProgram ic_InvalidProgram ss_InvalidProgram no_part_InvalidProgram no_path_InvalidProgram xa1 xa2 xa3 xa4 kq1s kq1n ty_RunError ic_RunError kq2s kq2n ty_InputError ic_InputError kq3s kq3n A_is_integer L_is_integer D_is_integer P_is_integer A_is_word L_is_word D_is_word P_is_word A_are_words L_are_words D_are_words P_are_words A_is_branches L_is_branches D_is_branches P_is_branches A_inner_lists L_inner_lists D_inner_lists P_inner_lists A_with_lists L_with_lists D_with_lists P_with_lists A_copy_row L_copy_row D_copy_row P_copy_row A_copy_rows L_copy_rows D_copy_rows P_copy_rows A_checked_asks L_checked_asks D_checked_asks P_checked_asks A_is_box L_is_box D_is_box P_is_box A_checked_signals L_checked_signals D_checked_signals P_checked_signals A_checked_inputs L_checked_inputs D_checked_inputs P_checked_inputs A_has_form L_has_form D_has_form P_has_form A_is_outer L_is_outer D_is_outer P_is_outer A_suits_things L_suits_things D_suits_things P_suits_things A_enter_token L_enter_token D_enter_token P_enter_token A_check_tokens L_check_tokens D_check_tokens P_check_tokens A_split_turns L_split_turns D_split_turns P_split_turns A_check L_check D_check P_check A_cut L_cut D_cut P_cut A_check_program L_check_program D_check_program P_check_program A_replayed L_replayed D_replayed P_replayed A_read L_read D_read P_read A_good_turns L_good_turns D_good_turns P_good_turns A_resume L_resume D_resume P_resume A__law_bag L__law_bag D__law_bag P__law_bag A__law_draw L__law_draw D__law_draw P__law_draw A__law_one L__law_one D__law_one P__law_one A__law_words L__law_words D__law_words P__law_words A__law_word L__law_word D__law_word P__law_word A__law_same L__law_same D__law_same P__law_same A__law_token L__law_token D__law_token P__law_token A__law_odd L__law_odd D__law_odd P__law_odd A__law_fits L__law_fits D__law_fits P__law_fits A__law_enter L__law_enter D__law_enter P__law_enter A__law_fault L__law_fault D__law_fault P__law_fault A__law_told L__law_told D__law_told P__law_told A__law_history L__law_history D__law_history P__law_history A__law_turns L__law_turns D__law_turns P__law_turns A__law_no_program L__law_no_program D__law_no_program P__law_no_program A_law L_law D_law P_law A_RowCheck c1_RowCheck c2_RowCheck c3_RowCheck c4_RowCheck n_RowCheck_known_asks n_RowCheck_known_signals n_RowCheck_with_edits n_RowCheck_total n_RowCheck_label_words n_RowCheck_slot_words n_RowCheck_gate_words n_RowCheck_edit_words mk_RowCheck kp_RowCheck at_RowCheck___init__ fn_RowCheck___init__ L_RowCheck___init__ D_RowCheck___init__ P_RowCheck___init__ at_RowCheck_check fn_RowCheck_check L_RowCheck_check D_RowCheck_check P_RowCheck_check at_RowCheck_check_sizes fn_RowCheck_check_sizes L_RowCheck_check_sizes D_RowCheck_check_sizes P_RowCheck_check_sizes at_RowCheck_check_list fn_RowCheck_check_list L_RowCheck_check_list D_RowCheck_check_list P_RowCheck_check_list at_RowCheck_fits fn_RowCheck_fits L_RowCheck_fits D_RowCheck_fits P_RowCheck_fits at_RowCheck_id_fits fn_RowCheck_id_fits L_RowCheck_id_fits D_RowCheck_id_fits P_RowCheck_id_fits at_RowCheck_part_fits fn_RowCheck_part_fits L_RowCheck_part_fits D_RowCheck_part_fits P_RowCheck_part_fits at_RowCheck_collect fn_RowCheck_collect L_RowCheck_collect D_RowCheck_collect P_RowCheck_collect A_Program c1_Program c2_Program c3_Program c4_Program n_Program_ask_table n_Program_signal_table n_Program_input_words n_Program_row_list n_Program_label_names n_Program_slot_names n_Program_gate_names n_Program_row_table n_Program_list_sizes mk_Program kp_Program at_Program___init__ fn_Program___init__ L_Program___init__ D_Program___init__ P_Program___init__ kw0 kw1 kw2 kw3 kw4 at_Program_add_rows fn_Program_add_rows L_Program_add_rows D_Program_add_rows P_Program_add_rows pi_ha pi_hm pi_ty pi_ic
end Hq
open PySem PySem.W PySem.Calls PyProof.Rows
set_option maxHeartbeats 0 in
theorem PySem.Challenge.cw_openruns_k12_well_formed_histories_holds : PySem.Challenge.rw_openruns_k12_well_formed_histories.Holds := by
  w_on; o_law
  refine HandSHeadRun.head_any (r := OpenLaw.row PySem.Challenge.rw_openruns_k12_well_formed_histories) (q := Hq.qv) (H := Hk.hook Hq.ask) (ob := Hk.ob Hq.ask) (M := 9600) (loose := Hq.names) (d := HandSHeadRun.topDef (OpenLaw.row PySem.Challenge.rw_openruns_k12_well_formed_histories).prog 110) (kwd := []) (Hk.ob_eq Hq.ask)
    (by kernel_rfl) (fun s => by kernel_rfl) (fun w => PySem.W.byRow2 "special-get-raises" Hq.run_f Hq.run_t w) (by kernel_rfl) (by kernel_rfl) (by kernel_rfl) (by rfl) (by first | assumption | decide +kernel) (by decide +kernel) ⟨rfl, rfl, rfl, rfl, rfl, by decide +kernel⟩ ?hw ?hc
  case hw => w_witness2
  case hc =>
    refine L2.walk_ofE (l := PySem.Challenge.rw_openruns_k12_well_formed_histories) (n := 63) (k := 16) (x := "_law_script") (CX := L2.CX0) rfl (by decide) (by kernel_rfl) ⟨rfl, by decide, by decide⟩ ?F (fun _ _ _ _ z => z)
    intro w mg fa h Y G hmg0
    obtain ⟨K, KX, c⟩ := Y
    have hmg : mg ("law" : PySem.Str) = some (.ref fa) := by
      have e : (HandSHeadRun.topDef (OpenLaw.row PySem.Challenge.rw_openruns_k12_well_formed_histories).prog 110).name = ("law" : PySem.Str) := by kernel_rfl
      rw [← e]
      exact hmg0
    obtain ⟨fd, hb, hF⟩ := Hq.facts KX G hmg c
    exact ⟨K, fd, Op.spLaw K, KX, hb, fun H a ns hl _ hS => ⟨a, ns, rfl, hS, hl, fun _ => rfl⟩, hF⟩
