import PyProof.Rows.All
import Wide.All
import OpenK.AllK
import Wide.FinOn
import PyProof.EqAt
import PyProof.EqKinds
import PyProof.TupleCall
import KE.KExcSuper
import KE.KExcIs
import HandS.Base
import HandS.Call
import HandS.List
import HandS.Ends
import HandS.Exc
import HandS.ExcInit
import HandS.ExcSuper
import HandS.MakeKwOnly
import HandS.IsInst
import HandS.ForMost
import HandS.TryOnly
import HandS.WordsExc
import HandS.ExcOwn
import HandS.ExcField
import HandS.TupAny
import HandS.Zip
import KE.GoesMore
import KE.GoesZip
import KE.GoesEnum
import HandS.Strs
import HandS.More
import HandS.DictTup
import HandS.DictComp
import HandS.Walk
import KE.KSortTupG
import KE.KDictCopyH
import KE.KSortTupUse
import HandS.ExcIs
import HandS.ExcCtx
import HandS.HotCalls
import HandS.Evl
import HandS.Text
import KE.DataEq
import PySem.Challenge.RW_openruns_k02_paths_of_rows
set_option Elab.async false
set_option linter.all false
set_option maxRecDepth 100000
set_option maxHeartbeats 4000000
namespace PySem
namespace XL
open PySem.W PySem.Calls PyProof.Rows
/-! ### C(args, kw = ..), C an own exception class -/
section
variable {M : Model} {prog : Program} {w : World} {A : Around} {E : Value → Shared → Prop} {R : Result → Shared → Prop} {h : Heap} {g : Array GenState} {d : Drawn} {t : Nat} {os : OsState}
variable {nm q : Str} {C N : Addr} {bs bm bmB : List Value} {hdct : Bool} {sn : List Str} {sub : List Value} {ab : Bool} {col : Option Bool} {dd : Option Addr} {k0 k1 k2 k3 k5 : Option Value} {B newId initId : String}
theorem check_newK (F : ExcBaseFacts B newId initId bmB) (hT : ∀ X : String, bm.contains (.type X) = bmB.contains (.type X)) {rest : List Value} {kw : List (Str × Value)} {Q : Unit → Shared → Prop}
    (hC : h.get? C = some (excClassObj nm q C N bs bm hdct sn sub ab col dd k0 k1 k2 k3 k5 newId)) (hq : Q () ⟨h, g, d, t, os⟩) : wpAny M A (checkBuiltinCall newId ⟨.ref C :: rest, kw⟩) Q E ⟨h, g, d, t, os⟩ := by
  have hcont : (Value.ref C :: bm).contains (.type B) = true := by rw [List.contains_cons, hT, F.hasB, Bool.or_true]
  have hstar := F.noStar
  simp only [checkBuiltinCall, F.newKind, F.newSplit, F.newRow]
  repeat (first | refine wpAny_loadPart_at hC ?_ | (refine wpAny_isSubtype_exc hC ?_; rw [hcont]) | refine wpAny_staticBase_exc hC ?_ | refine wpAny_madeBy_exc hC ?_ | simp only [bne_self_eq_false, Bool.false_eq_true, if_false] | wp_step)
  exact hq
theorem newK (F : ExcBaseFacts B newId initId bmB) (hT : ∀ X : String, bm.contains (.type X) = bmB.contains (.type X)) {rest : List Value} {kw : List (Str × Value)}
    (hC : h.get? C = some (excClassObj nm q C N bs bm hdct sn sub ab col dd k0 k1 k2 k3 k5 newId))
    (hq : R (.ok (.ret (.ref (h.objs.size + 1)))) ⟨(h.push { cls := .type "tuple", data := .seq rest.toArray }).push
      { cls := .ref C, data := .fields #[.ref h.objs.size, .none, .none, .none, .bool false, .none] }, g, d, t, os⟩) (hrest : rest.length ≤ sizeLine) :
    codeAny (model prog w) A (.builtin newId ⟨.ref C :: rest, kw⟩) R ⟨h, g, d, t, os⟩ := by
  have hends := F.ends
  have hcB : (Value.ref C :: bm).contains (.type B) = true := by rw [List.contains_cons, hT, F.hasB, Bool.or_true]
  have hcA : (Value.ref C :: bm).contains (.type "AttributeError") = false := by rw [List.contains_cons, hT, F.noAttr]; rfl
  have hcN : (Value.ref C :: bm).contains (.type "NameError") = false := by rw [List.contains_cons, hT, F.noName]; rfl
  refine codeAny_builtinAt F.entry ?_
  unfold Builtin.«BaseException.__new__»
  refine wpAt_bind ?_
  show wpAt _ _ _ (stack >>= _) _ _ _
  refine wpAt_bind (wpAt_stack fun p below => wpAt_of_wpAny ?_)
  wp_walk
  refine wpAt_of_wpAny ?_
  rw [F.owner]
  repeat (first | with_reducible refine wpAny_madeHere_exc F.canon hC ?_ | with_reducible refine wpAny_loadPart_at hC ?_ | (with_reducible refine wpAny_isSubtype_exc hC ?_; first | rw [hcB] | rw [hcA] | rw [hcN]) | wp_step)
  show R _ _
  rw [Heap.size_push]
  exact hq
theorem type_callK (F : ExcBaseFacts B newId initId bmB) (hT : ∀ X : String, bm.contains (.type X) = bmB.contains (.type X)) {rest : List Value} {kw : List (Str × Value)} {fI : Addr} {Q : Fin → Shared → Prop}
    (hC : h.get? C = some (excClassObj nm q C N bs bm hdct sn sub ab col dd k0 k1 k2 k3 k5 newId))
    (hi : W.Looks (model prog w) h (typeLookup (.ref C) "__init__") (some (.ref fI))) (hb : ∀ self, W.Looks (model prog w) h (bindSpecial (.ref fI) self) (.ref fI, [self])) (hrest : rest.length ≤ sizeLine)
    (hq : codeAny (model prog w) A (.call (.ref fI) ⟨.ref (h.objs.size + 1) :: rest, kw⟩)
      (fun r s' => match r with | .ok (.ret v) => v = .none ∧ Q (.done (.ret (.ref (h.objs.size + 1)))) s' | .ok _ => False | .error e => E e s')
      ⟨(h.push (W.kdv_tup rest)).push (HandSPX.excO C h.objs.size), g, d, t, os⟩) :
    wpAny (model prog w) A (Builtin.«type.__call__» ⟨.ref C :: rest, kw⟩) Q E ⟨h, g, d, t, os⟩ := by
  repeat (first | with_reducible refine wpAny_loadPart_at hC ?_ | with_reducible refine wpAny_madeBy_exc hC ?_ | wp_step)
  refine codeAny_call_builtin_code (Code.quiet_builtin _ F.quiet) (check_newK F hT hC ?_)
  refine newK F hT hC ?_ hrest
  show wpAny _ _ _ _ _ _
  have k : ∀ b o, h.get? b = some o → ((h.push (W.kdv_tup rest)).push (HandSPX.excO C h.objs.size)).get? b = some o := fun b o e => Heap.get?_push_of_some _ (Heap.get?_push_of_some _ e)
  have hC₁ := k _ _ hC
  have hget : ((h.push (W.kdv_tup rest)).push (HandSPX.excO C h.objs.size)).get? (h.objs.size + 1) = some (HandSPX.excO C h.objs.size) := by heap_get
  have hcC : (Value.ref C :: bm).contains (.ref C) = true := by simp
  have i1 := hi.keeps k
  have b1 := (hb (.ref (h.objs.size + 1))).keeps k
  unfold isInstance
  repeat (first | with_reducible refine wpAny_loadPart_at hget ?_ | (with_reducible refine wpAny_isSubtype_exc hC₁ ?_; rw [hcC]) | wp_step)
  show wpAny _ _ (typeLookup (.ref C) _) _ _ _
  refine i1.at ?_
  refine wpAny_holding (wpAny_bind (b1.at ?_))
  refine wpAny_bind (wpAny_call (codeAny_mono hq fun r s' z => ?_))
  rcases r with e | (v | _ | _ | _) <;> first | exact z | exact z.elim | skip
  obtain ⟨rfl, z⟩ := z
  first
    | exact wpAny_pure (wpAny_pure z)
    | (wp_walk; exact z)
theorem check_typeK {M : Model} {rest : List Value} {kw : List (Str × Value)} {Q : Unit → Shared → Prop} (hC : h.get? C = some (excClassObj nm q C N bs bm hdct sn sub ab col dd k0 k1 k2 k3 k5 newId))
    (hq : Q () ⟨h, g, d, t, os⟩) : wpAny M A (checkBuiltinCall "type.__call__" ⟨.ref C :: rest, kw⟩) Q E ⟨h, g, d, t, os⟩ := by
  have f3 := tc_sub
  have hT : (⟨h, g, d, t, os⟩ : Shared).TypeIs (.ref C) "type" := ⟨_, hC, rfl⟩
  simp only [checkBuiltinCall, tc_kind, tc_split]
  repeat (any_goals (first | assumption | with_reducible refine wpAny_loadPart_at hC ?_ | with_reducible refine wpAny_onRaise ?_ | with_reducible refine wpAny_map ?_ | wp_step))
theorem call_ownK (F : ExcBaseFacts B newId initId bmB) (hT : ∀ X : String, bm.contains (.type X) = bmB.contains (.type X)) {rest : List Value} {kw : List (Str × Value)} {fI : Addr}
    (hC : h.get? C = some (excClassObj nm q C N bs bm hdct sn sub ab col dd k0 k1 k2 k3 k5 newId))
    (hi : W.Looks (model prog w) h (typeLookup (.ref C) "__init__") (some (.ref fI))) (hb : ∀ self, W.Looks (model prog w) h (bindSpecial (.ref fI) self) (.ref fI, [self])) (hrest : rest.length ≤ sizeLine)
    (hq : codeAny (model prog w) (A.under (.builtin "type.__call__" ⟨.ref C :: rest, kw⟩)) (.call (.ref fI) ⟨.ref (h.objs.size + 1) :: rest, kw⟩) (W.InitBack (h.objs.size + 1) R)
      ⟨(h.push (W.kdv_tup rest)).push (HandSPX.excO C h.objs.size), g, d, t, os⟩) :
    codeAny (model prog w) A (.call (.ref C) ⟨rest, kw⟩) R ⟨h, g, d, t, os⟩ := by
  have f1 := tc_lookup
  have f2 := tc_bind (.ref C)
  have hTy : (⟨h, g, d, t, os⟩ : Shared).TypeIs (.ref C) "type" := ⟨_, hC, rfl⟩
  refine codeAny_of_tree ?_
  show wpAny _ _ (callAny (.ref C) _) _ _ _
  repeat (any_goals (first | assumption | with_reducible refine wpAny_loadPart_at hC ?_ | wp_step))
  refine ⟨rfl, ?_⟩
  refine codeAny_call_builtin_at (Code.quiet_builtin _ (by decide +kernel)) entry_typeCall (check_typeK hC (type_callK F hT hC hi hb hrest ?_))
  refine codeAny_mono hq fun r s' z => ?_
  rcases r with e | (v | _ | _ | _) <;> exact z
end
end XL
end PySem
namespace PySem
namespace XL
open PySem.W PySem.Calls PyProof.Rows Builtin Builtin.ObjectAttr
abbrev lkT : List Value := [.type "LookupError", .type "Exception", .type "BaseException", .type "object"]
theorem lk_ne {l : List Value} (e : excTail lkT l = true) : l.isEmpty = false := by
  rcases excTail_cases l e with ⟨c, r, rfl, _⟩ | rfl <;> rfl
/-! ### self.name = v on an exception over LookupError -/
section
variable {prog : Program} {w : World} {A : Around} {E : Value → Shared → Prop} {R : Result → Shared → Prop} {hp : Heap} {g : Array GenState} {d : Drawn} {t : Nat} {os : OsState}
theorem osa_walk {K : W.Frag} {name : Str} {tk : Tok} {v : Value} {x C : Addr} {ox : Obj} {od : Option Obj} {cd : ClassData}
    (X : K.In hp) (I : W.InstAt hp x ox C od) (hcd : W.clsIn K C = some cd) (hm : excTail lkT cd.mro = true) (ha : W.findIn K (.ref C) name = some none)
    (hq : wpAny (model prog w) A.in1 (Builtin.ObjectAttr.storeInOwnDict (.ref x) (.ref C) (.str name tk) name v false)
      (fun fin s' => match fin with | .done f => R (.ok f) s' | .again c' => c'.quiet = true ∧ codeAny (model prog w) A c' R s') (fun e s' => R (.error e) s') ⟨hp, g, d, t, os⟩) :
    codeAny (model prog w) A (.call (.builtin "object.__setattr__") ⟨[.ref x, .str name tk, v], []⟩) R ⟨hp, g, d, t, os⟩ := by
  have SF := F.store_LookupError
  have ne := lk_ne hm
  have hob : cd.mro.contains (.type "object") = true := (excTail_contains "object" _ hm).trans (by decide +kernel)
  have sub : W.Looks (model prog w) hp (isInstance (.ref x) (.type "object")) true := I.type.andThen (W.looks_mroIn X (by unfold W.mroIn; rw [hcd, Option.bind_some, if_neg (by rw [ne]; decide), hob]))
  refine codeAny_call_builtin SF.slot.plain SF.entry (@W.check_slot (model prog w) _ _ ⟨hp, g, d, t, os⟩ "object.__setattr__" "object" "__setattr__" (.ref x) [.str name tk, v] [] _ SF.kind SF.split sub (SF.args (.ref x) (.str name tk) v) ?_)
  have hmr : W.Looks (model prog w) hp (mroOf (.ref C)) cd.mro := (W.looks_clsIn X hcd).andThen .now
  have L3 : W.Looks (model prog w) hp (storeTaker? none) none := .now
  rw [W.osa_eq, refuse_eq]
  refine wpAny_bind (wpAny_bind (I.type.at (wpAny_bind (hmr.at ?_))))
  rw [excTail_pass _ (SF.passes _) _ hm]
  refine wpAny_pure (wpAny_bind (I.type.at (wpAny_bind ((W.looks_findIn X ha).at (wpAny_bind (L3.at ?_))))))
  exact hq
theorem osa_new {K : W.Frag} {name : Str} {tk : Tok} {v : Value} {x C : Addr} {fv : Array Value} {cd : ClassData}
    (X : K.In hp) (hx : hp.get? x = some { cls := .ref C, data := .fields fv }) (hcd : W.clsIn K C = some cd) (hm : excTail lkT cd.mro = true) (hh : cd.hasDict = true) (ha : W.findIn K (.ref C) name = some none)
    (hq : ∀ h' tk' dx, (∀ b o, b ≠ x → hp.get? b = some o → h'.get? b = some o) → hp.objs.size ≤ dx → dx ≠ x → h'.get? x = some { cls := .ref C, dict := some dx, data := .fields fv } →
      h'.Ns1 dx (fun y => if y = name then some v else none) → R (.ok (.ret .none)) ⟨h', g, d, tk', os⟩) :
    codeAny (model prog w) A (.call (.builtin "object.__setattr__") ⟨[.ref x, .str name tk, v], []⟩) R ⟨hp, g, d, t, os⟩ := by
  have I : W.InstAt hp x { cls := .ref C, data := .fields fv } C none := ⟨hx, rfl, rfl, trivial⟩
  have hxs : x ≠ hp.objs.size := Nat.ne_of_lt (Heap.lt_size hx)
  refine osa_walk X I hcd hm ha ?_
  have hcls : W.Looks (model prog w) hp (classData C) cd := W.looks_clsIn X hcd
  obtain ⟨nm, bs, mro, ns, qn, hd, sn, sb, ab, col, del⟩ := cd
  dsimp only at hh
  subst hh
  unfold Builtin.ObjectAttr.storeInOwnDict Builtin.ObjectAttr.ownDictForStores
  repeat (first | with_reducible refine HandSPX.store_in_new ?_ ?_ | with_reducible refine wpAny_loadPart_at hx ?_ | with_reducible refine hcls.at ?_ | wp_step)
  · exact ⟨_, #[], _, (Heap.get?_update_ne _ _ _ _ hxs.symm).trans (Heap.get?_push_at rfl rfl), rfl, fun e he => absurd he (by simp), fun _ => rfl⟩
  · intro h' tk' hn' hs
    have hx₁ : (hp.push { cls := .type "dict", data := .dict #[] }).get? x = some { cls := .ref C, data := .fields fv } := Heap.get?_push_of_some _ hx
    refine hq h' tk' hp.objs.size (fun b o hb ho => ?_) (Nat.le_refl _) hxs.symm ?_ hn'
    · exact (hs.2 b (Nat.ne_of_lt (Heap.lt_size ho))).trans ((Heap.get?_update_ne _ _ _ _ hb).trans (Heap.get?_push_of_some _ ho))
    · exact (hs.2 x hxs).trans (Heap.get?_update_self _ hx₁ rfl)
theorem osa_old {K : W.Frag} {name : Str} {tk : Tok} {v : Value} {x C dx : Addr} {fv : Array Value} {cd : ClassData} {m0 : Str → Option Value} {nl : List Str}
    (X : K.In hp) (hx : hp.get? x = some { cls := .ref C, dict := some dx, data := .fields fv }) (hns : hp.Ns1 dx m0) (hw : Within m0 nl) (hz : nl.length ≤ 1000) (hcd : W.clsIn K C = some cd) (hm : excTail lkT cd.mro = true) (hh : cd.hasDict = true)
    (ha : W.findIn K (.ref C) name = some none)
    (hq : ∀ h' tk', (∀ b o, b ≠ dx → hp.get? b = some o → h'.get? b = some o) → h'.Ns1 dx (fun y => if y = name then some v else m0 y) → R (.ok (.ret .none)) ⟨h', g, d, tk', os⟩) :
    codeAny (model prog w) A (.call (.builtin "object.__setattr__") ⟨[.ref x, .str name tk, v], []⟩) R ⟨hp, g, d, t, os⟩ := by
  obtain ⟨oD, esD, epD, hoD, hdD, _⟩ := hns.count hw
  have I : W.InstAt hp x { cls := .ref C, dict := some dx, data := .fields fv } C (some oD) := ⟨hx, rfl, rfl, hoD⟩
  refine osa_walk X I hcd hm ha ?_
  have hcls : W.Looks (model prog w) hp (classData C) cd := W.looks_clsIn X hcd
  obtain ⟨nm, bs, mro, ns, qn, hd, sn, sb, ab, col, del⟩ := cd
  dsimp only at hh
  subst hh
  unfold Builtin.ObjectAttr.storeInOwnDict Builtin.ObjectAttr.ownDictForStores
  repeat (first | with_reducible refine OEX.store_in_old hns hw hz ?_ | with_reducible refine wpAny_loadPart_at hx ?_ | with_reducible refine hcls.at ?_ | wp_step)
  intro h' tk' hn' hs
  exact hq h' tk' (fun b o hb ho => (hs.2 b hb).trans ho) hn'
end
/-! ### the text of an own __init__ -/
section
variable {prog : Program} {w : World} {A : Around} {E : Value → Shared → Prop} {R : Result → Shared → Prop} {s : Shared} {K : Frag}
/-- the __init__ of an own class at C (its cell __class__ at cc, its code at cda), over LookupError: what the written part says -/
structure XCls (prog : Program) (K : Frag) (C : Addr) : Prop where
  cls : ∃ nm q N bs bm sn sub ab col dd k0 k1 k2 k3 k5, K.lookup C = some (excClassObj nm q C N bs bm true sn sub ab col dd k0 k1 k2 k3 k5 "LookupError.__new__") ∧ excTail lkT bm = true
  sa : findIn K (.ref C) "__setattr__" = some (some (.builtin "object.__setattr__"))
  sup : ks_superIn K C C "__init__" = some (some (.builtin "LookupError.__init__"))
  opq : nsIn K cStatics "thirdparty.any" = some none
  sg : nsIn K mainGlobals "super" = some none
  top : (prog.main.scope.names.lookup ("super" : Str)).isSome = false
/-- .. of the function object at fI -/
structure XFn (prog : Program) (K : Frag) (C fI : Addr) (qual : Str) (params : Arguments) (body : List Stmt) (scope : Scope) : Prop where
  fn : ∃ (oc : Value) (od : Option Addr) (kV doc pm : Value) (an : Option Addr) (cda : Addr) (ct : Value) (cc : Addr) (osl : Array (Option Value)) (cl ccl : Value) (cld cdd : Option Addr) (csl ccs : Array (Option Value)) (vs : Array Value) (file : Str) (tf : Tok),
    K.lookup fI = some ⟨oc, od, .func (ksFn "__init__" qual params body scope .none kV doc pm an (.ref cda) ct cc), osl⟩ ∧ codeIn K (.ref cda) qual = true ∧
    K.lookup cc = some ⟨cl, cld, .cell (some (.ref C)), csl⟩ ∧ K.lookup cda = some ⟨ccl, cdd, .fields vs, ccs⟩ ∧ vs[2]? = some (.str file tf) ∧ ((prog.main.file : Str) == file) = true
  iC : findIn K (.ref C) "__init__" = some (some (.ref fI))
  tI : typeIn K (.ref fI) = some (.type "function")
/-- a module's parts -/
structure XTop (h : Heap) : Prop where
  g : ∃ mg, h.Ns mainGlobals mg
  b : ∃ mb, h.Ns builtinsNs mb ∧ ∀ x : Str, x ≠ "__name__" → mb x = bootBuiltins x
  nolimit : h.NoLimit
theorem XTop.keeps {h h' : Heap} (T : XTop h) (k : ∀ b o, h.get? b = some o → h'.get? b = some o) : XTop h' :=
  ⟨let ⟨mg, q⟩ := T.g; ⟨mg, q.keeps k⟩, let ⟨mb, q, r⟩ := T.b; ⟨mb, q.keeps k, r⟩, T.nolimit.keeps k⟩
end
end XL
end PySem
namespace PySem
namespace XL
open PySem.W PySem.Calls PyProof.Rows
/-! ### super().__init__('..') in an own __init__ -/
/-- where the statement stands -/
structure SupPos where
  (p0 p1 p2 p3 p4 p5 : Pos) (j : String)
section
variable {prog : Program} {w : World} {A : Around} {E : Value → Shared → Prop} {R : Result → Shared → Prop} {s : Shared} {K : Frag}
theorem call_mw {x C u t0 : Addr} {rest : List Value} {Q : Value → Shared → Prop} (T : XCls prog K C) (X : K.In s.heap) (hx : s.heap.get? x = some (HandSPX.excO C t0)) (hu : KxsAt "LookupError.__init__" u x s.heap) (hz : rest.length ≤ sizeLine)
    (hq : ∀ h' t1, (∀ b o, b ≠ x → s.heap.get? b = some o → h'.get? b = some o) → h'.get? x = some (HandSPX.excO C t1) → Q .none { s with heap := h' }) :
    wpAny (model prog w) A (call (.ref u) rest) Q E s := by
  obtain ⟨nm, q, N, bs, bm, sn, sub, ab, col, dd, k0, k1, k2, k3, k5, hC, hbm⟩ := T.cls
  have FB := F.excBase_LookupError
  obtain ⟨hh, g, d, tk, os⟩ := s
  unfold KxsAt at hu
  refine wpAny_call (codeAny_of_tree ?_)
  show wpAny _ A.in1 (callAny (.ref u) ⟨rest, []⟩) _ _ _
  simp only [callAny]
  refine wpAny_bind (wpAny_load hu ?_)
  simp only [kxs_mw, show (Value.type "method-wrapper" == Value.type "method" || Value.type "method-wrapper" == Value.type "builtin_function_or_method" || Value.type "method-wrapper" == Value.type "method-wrapper") = true by decide, if_true]
  refine KFB.if_so (by decide) ?_
  refine wpAny_bind (check_bound_init FB.toExcCallFacts (X _ _ hC) hx rfl ?_)
  refine wpAny_bind (wpAny_pure (wpAny_pure ?_))
  refine ⟨plainId_quiet FB.init.plain _, codeAny_builtin FB.initEntry ?_⟩
  exact exc_init_tree (cls := .ref C) (t0 := t0) (dv := none) (c2 := .none) (c3 := .none) (b4 := .bool false) hx hz fun h' k e _ => hq h' _ k e
theorem sup_stmt {x C fI L : Addr} {t0 : Addr} {qual : Str} {body : List Stmt} {scope : Scope} {cda cc : Addr} {oc cl ccl : Value} {od cld cdd : Option Addr} {osl csl ccs : Array (Option Value)} {fd : FuncData} {vs : Array Value} {file : Str} {tf : Tok} {ar : Arg}
    {m : Str → Option Value} {p0 p1 p2 p3 p4 p5 : Pos} {tx : Str} {j} {Q : Flow → Shared → Prop}
    (T : XCls prog K C) (X : K.In s.heap) (P : XTop s.heap) (hn : s.heap.Ns L m) (hv : m ar.arg = some (.ref x)) (hx : s.heap.get? x = some (HandSPX.excO C t0)) (hL : L ≠ x)
    (hf : K.lookup fI = some ⟨oc, od, .func fd, osl⟩) (hp : (fd.params.posonlyargs ++ fd.params.args).head? = some ar) (hcode : K.lookup cda = some ⟨ccl, cdd, .fields vs, ccs⟩) (hvs : vs[2]? = some (.str file tf)) (hfile : ((prog.main.file : Str) == file) = true)
    (hcell : K.lookup cc = some ⟨cl, cld, .cell (some (.ref C)), csl⟩)
    (hks : scope.names.lookup ("super" : Str) = some .globalImplicit) (hkc : scope.names.lookup ("__class__" : Str) = some .free) (hka : scope.names.lookup ar.arg = some .local) (hk : scope.kind = .function)
    (hq : ∀ h' tk t1, (∀ b o, b ≠ x → s.heap.get? b = some o → h'.get? b = some o) → h'.get? x = some (HandSPX.excO C t1) → Q .next { s with heap := h', toks := tk })
    {pl : Sem Bool}
    (he : eval (.Call (.Attribute (.Call (.Name "super" p0) [] [] p1) "__init__" p2) [.Constant (.str tx) j p3] [] p4) (ksEnv qual scope L fI (.ref cda) cc) = (do
      let ov ← attributeBase (.Call (.Name "super" p0) [] [] p1) "__init__" (ksEnv qual scope L fI (.ref cda) cc) (eval (.Call (.Name "super" p0) [] [] p1) (ksEnv qual scope L fI (.ref cda) cc))
      standAt p2.atName
      let (f, first) ← holding [ov] (getMethod ov "__init__" pl)
      callWith p4 f first (backTo p4 (starEach [.Constant (.str tx) j p3] (ksEnv qual scope L fI (.ref cda) cc))) []) := by rfl)
    (hi : interactive (ksEnv qual scope L fI (.ref cda) cc) = false := by rfl)
    (hw : swapsWith (.Call (.Attribute (.Call (.Name "super" p0) [] [] p1) "__init__" p2) [.Constant (.str tx) j p3] [] p4) none p5.line (ksEnv qual scope L fI (.ref cda) cc) = pure false := by rfl) :
    _root_.PySem.wpAt (model prog w) A (.func body (ksEnv qual scope L fI (.ref cda) cc)) (exec (.Expr (.Call (.Attribute (.Call (.Name "super" p0) [] [] p1) "__init__" p2) [.Constant (.str tx) j p3] [] p4) p5) (ksEnv qual scope L fI (.ref cda) cc)) Q E s := by
  obtain ⟨nm, q, N, bs, bm, sn, sub, ab, col, dd, k0, k1, k2, k3, k5, hC, hbm⟩ := T.cls
  have hcl : clsIn K C = some { name := nm, bases := bs, mro := .ref C :: bm, ns := N, qualname := q, hasDict := true, slotNames := sn, subclasses := sub, abstract := ab, collection := col, hasDel := false } := by unfold clsIn; rw [hC] <;> rfl
  have hmC : mroIn K C (.ref C) = some true := by unfold mroIn; rw [hcl, Option.bind_some, if_neg (by show ¬ (List.isEmpty (Value.ref C :: bm) = true); simp)]; simp
  have hD1 := X _ _ hC
  obtain ⟨hh, g, d, t, os⟩ := s
  refine ks_wpAt_Expr_any (ks_wpAt_MethodCall ?_ he) hi hw
  refine ks_wpAt_super_base (env := ksEnv qual scope L fI (.ref cda) cc) hks hkc (by decide) rfl (X _ _ hf) rfl hp rfl (X _ _ hcode) rfl hvs hfile T.top ?_
  obtain ⟨mg, hg⟩ := P.g
  obtain ⟨mb, hb, hbt⟩ := P.b
  refine ks_loadName_global hk hks (loadGlobal_builtin (env := ksEnv qual scope L fI (.ref cda) cc) hg (mg_none_of X hg T.sg) hb ((hbt _ (by decide +kernel)).trans (show bootBuiltins "super" = some (.type "super") from by decide +kernel)) ⟨rfl, ?_⟩)
  refine wpAny_loadName_free hk hkc rfl ⟨_, X _ _ hcell, rfl⟩ ?_
  refine wpAny_loadName_local hk hka hn hv ?_
  refine ks_wpAny_isType_cls hD1 rfl ⟨rfl, ?_⟩
  refine ks_wpAny_call_super hD1 rfl hx rfl (fun c e => nomatch e) (looks_mroIn X hmC) (fun h1 e1 kk1 => ?_)
  have k1' : ∀ b o, hh.get? b = some o → h1.get? b = some o := kk1
  have X1 : K.In h1 := X.keeps k1'
  have hI : Looks (model prog w) h1 (isInstance (.ref x) (.type "LookupError")) true := by
    have I : InstAt h1 x (HandSPX.excO C t0) C none := ⟨k1' _ _ hx, rfl, rfl, trivial⟩
    refine I.type.andThen (looks_mroIn X1 ?_)
    unfold mroIn
    rw [hcl, Option.bind_some, if_neg (by show ¬ (List.isEmpty (Value.ref C :: bm) = true); simp)]
    show some ((Value.ref C :: bm).contains (.type "LookupError")) = some true
    rw [List.contains_cons, excTail_contains "LookupError" _ hbm]
    rfl
  have hxC : x ≠ C := fun z => by
    rw [z] at hx
    have y := hD1.symm.trans hx
    cases y
  have hsup := T.sup
  unfold ks_superIn at hsup
  rw [hcl] at hsup
  refine kxs_getMethod kxs_LookupError e1 (looks_opaque X1 T.opq) (l₀ := .ref C :: bm) (fun A Q E s k q => wpAny_bind ((looks_clsIn X1 hcl) A _ E s k (wpAny_pure q))) rfl X1 hsup hI hxC (by decide) ?_
  have k2' : ∀ b o, hh.get? b = some o → (h1.push (kxs_mw "LookupError.__init__" x)).get? b = some o := fun b o z => Heap.get?_push_of_some _ (k1' b o z)
  show wpAny _ _ (callWith p4 (.ref h1.objs.size) [] (backTo p4 (starEach [.Constant (.str tx) j p3] (ksEnv qual scope L fI (.ref cda) cc))) []) _ _ _
  refine kxs_callWith (i := "LookupError.__init__") (x := x) (by rfl) (evalArgs_plain ?_)
  refine spliced_cons ?_
  show wpAny _ _ (eval (.Constant (.str tx) j p3) (ksEnv qual scope L fI (.ref cda) cc)) _ _ _
  refine Calls.Constant_str (spliced_nil ?_)
  refine ⟨Heap.get?_push_at rfl rfl, ?_⟩
  refine call_mw (s := ⟨h1.push (kxs_mw "LookupError.__init__" x), g, d, _, os⟩) T (X.keeps k2') (k2' _ _ hx) (Heap.get?_push_at rfl rfl) (by show 1 ≤ sizeLine; rw [sizeLine_eq]; decide) fun h' t1 k3 e3 => ?_
  exact hq h' _ t1 (fun b o hb z => k3 b o hb (k2' b o z)) e3
end
end XL
end PySem
namespace PySem
namespace XL
open PySem.W PySem.Calls PyProof.Rows
/-- where an __init__ of one, of two fields stands -/
structure Ps1 where
  (p0 p1 p2 p3 p4 p5 q1 q2 q3 q4 : Pos) (j : Nat)
structure Ps2 extends Ps1 where
  (r1 r2 r3 r4 : Pos)
abbrev supS (P : Ps1) (tx : Str) : Stmt := .Expr (.Call (.Attribute (.Call (.Name "super" P.p0) [] [] P.p1) "__init__" P.p2) [.Constant (.str tx) P.j P.p3] [] P.p4) P.p5
abbrev body1 (P : Ps1) (tx f : Str) : List Stmt := [supS P tx, .Assign [.Attribute (.Name "self" P.q1) f P.q2] (.Name f P.q3) P.q4]
abbrev body2 (P : Ps2) (tx f f2 : Str) : List Stmt := [supS P.toPs1 tx, .Assign [.Attribute (.Name "self" P.q1) f P.q2] (.Name f P.q3) P.q4, .Assign [.Attribute (.Name "self" P.r1) f2 P.r2] (.Name f2 P.r3) P.r4]
abbrev args1 (a1 a2 : Pos) (f : Str) : Arguments := { posonlyargs := [], args := [{ arg := "self", annotation := none, pos := a1 }, { arg := f, annotation := none, pos := a2 }], vararg := none, kwonlyargs := [], kw_defaults := [], kwarg := none, defaults := [] }
abbrev args2 (a1 a2 a3 : Pos) (f f2 : Str) : Arguments := { posonlyargs := [], args := [{ arg := "self", annotation := none, pos := a1 }, { arg := f, annotation := none, pos := a2 }, { arg := f2, annotation := none, pos := a3 }], vararg := none, kwonlyargs := [], kw_defaults := [], kwarg := none, defaults := [] }
abbrev scope1 (f : Str) : Scope := { kind := .function, names := [(Str.ofString "self", .local), (f, .local), (Str.ofString "__class__", .free), (Str.ofString "super", .globalImplicit)], isGenerator := false, isCoroutine := false, more := [] }
abbrev scope2 (f f2 : Str) : Scope := { kind := .function, names := [(Str.ofString "self", .local), (f, .local), (f2, .local), (Str.ofString "__class__", .free), (Str.ofString "super", .globalImplicit)], isGenerator := false, isCoroutine := false, more := [] }
/-- how the statement super().__init__('..') is run: rfl for a written scope -/
def EvOk (qual : Str) (scope : Scope) (fI : Addr) (P : Ps1) (tx : Str) : Prop := ∀ L cda cc : Addr, ∃ pl : Sem Bool,
  eval (.Call (.Attribute (.Call (.Name "super" P.p0) [] [] P.p1) "__init__" P.p2) [.Constant (.str tx) P.j P.p3] [] P.p4) (ksEnv qual scope L fI (.ref cda) cc) = (do
      let ov ← attributeBase (.Call (.Name "super" P.p0) [] [] P.p1) "__init__" (ksEnv qual scope L fI (.ref cda) cc) (eval (.Call (.Name "super" P.p0) [] [] P.p1) (ksEnv qual scope L fI (.ref cda) cc))
      standAt P.p2.atName
      let (f, first) ← holding [ov] (getMethod ov "__init__" pl)
      callWith P.p4 f first (backTo P.p4 (starEach [.Constant (.str tx) P.j P.p3] (ksEnv qual scope L fI (.ref cda) cc))) []) ∧
  interactive (ksEnv qual scope L fI (.ref cda) cc) = false ∧
  swapsWith (.Call (.Attribute (.Call (.Name "super" P.p0) [] [] P.p1) "__init__" P.p2) [.Constant (.str tx) P.j P.p3] [] P.p4) none P.p5.line (ksEnv qual scope L fI (.ref cda) cc) = pure false
/-- what __init__ leaves of a fresh exception at x -/
structure InitEnd (h h' : Heap) (x C dx : Addr) (mm : Str → Option Value) : Prop where
  keep : ∀ b o, b ≠ x → h.get? b = some o → h'.get? b = some o
  obj : ∃ t1 : Addr, h'.get? x = some { cls := .ref C, dict := some dx, data := .fields #[.ref t1, .none, .none, .none, .bool false, .none] }
  dbig : h.objs.size ≤ dx
  dne : dx ≠ x
  ns : h'.Ns1 dx mm
/-- a field's name is no name of the machine's -/
def okF (f : Str) : Bool := !(f == ("self" : Str)) && !(f == ("super" : Str)) && !(f == ("__class__" : Str)) && !(f == ("__debug__" : Str))
theorem okF_of {f : Str} (h : okF f = true) : (f == ("self" : Str)) = false ∧ (f == ("super" : Str)) = false ∧ (f == ("__class__" : Str)) = false ∧ (f == ("__debug__" : Str)) = false := by
  unfold okF at h
  simp only [Bool.and_eq_true, Bool.not_eq_true'] at h
  exact ⟨h.1.1.1, h.1.1.2, h.1.2, h.2⟩
theorem flip {a b : Str} (h : (a == b) = false) : (b == a) = false := by
  have := beq_eq_false_iff_ne.mp h
  exact beq_eq_false_iff_ne.mpr (Ne.symm this)
section
variable {prog : Program} {w : World} {A : Around} {E : Value → Shared → Prop} {R : Result → Shared → Prop} {s : Shared} {K : Frag} {C fI x t0 : Addr} {qual tx f f2 : Str} {v v2 : Value}
theorem init1 {P : Ps1} {a1 a2 : Pos} {args : Args} (T : XCls prog K C) (Fn : XFn prog K C fI qual (args1 a1 a2 f) (body1 P tx f) (scope1 f)) (hf : okF f = true) (nof : findIn K (.ref C) f = some none) (ev : EvOk qual (scope1 f) fI P tx)
    (X : K.In s.heap) (Tp : XTop s.heap) (hx : s.heap.get? x = some (HandSPX.excO C t0)) (hnx : K.lookup x = none) (hroom : A.depth < recursionLimit)
    (hb : ∀ (kV doc pm : Value) (an : Option Addr) (cdv ct : Value) (cc : Addr), BindsTo s (ksFn "__init__" qual (args1 a1 a2 f) (body1 P tx f) (scope1 f) .none kV doc pm an cdv ct cc) args [("self", .ref x), (f, v)])
    (hq : ∀ h' tk dx, InitEnd s.heap h' x C dx (fun y => if y = f then some v else none) → R (.ok (.ret .none)) { s with heap := h', toks := tk }) :
    codeAny (model prog w) A (.call (.ref fI) args) R s := by
  obtain ⟨oc, od, kV, doc, pm, an, cda, ct, cc, osl, cl, ccl, cld, cdd, csl, ccs, vs, file, tf, ho, hcd, hcell, hcode, hvs, hfile⟩ := Fn.fn
  obtain ⟨n1, n2, n3, n4⟩ := okF_of hf
  have l1 : (scope1 f).names.lookup f = some .local := by simp [List.lookup, n1]
  have l2 : (scope1 f).names.lookup ("super" : Str) = some .globalImplicit := by simp [List.lookup, flip n2]; rfl
  have l3 : (scope1 f).names.lookup ("__class__" : Str) = some .free := by simp [List.lookup, flip n3]; rfl
  have ls : (scope1 f).names.lookup ("self" : Str) = some .local := by simp [List.lookup]
  have hnc : ∀ y ∈ (scope1 f).names, y.2 ≠ .cell := by
    intro y hy
    simp only [scope1, List.mem_cons, List.mem_nil_iff, or_false] at hy
    rcases hy with rfl | rfl | rfl | rfl <;> simp
  have hlo : ∀ y ∈ ([("self", .ref x), (f, v)] : List (Str × Value)), (scope1 f).names.lookup y.1 = some .local := by
    intro y hy
    simp only [List.mem_cons, List.mem_nil_iff, or_false] at hy
    rcases hy with rfl | rfl
    · exact ls
    · exact l1
  obtain ⟨nm, q, N, bs, bm, sn, sub, ab, col, dd, k0, k1, k2, k3, k5, hC, hbm⟩ := T.cls
  have hcl : clsIn K C = some { name := nm, bases := bs, mro := .ref C :: bm, ns := N, qualname := q, hasDict := true, slotNames := sn, subclasses := sub, abstract := ab, collection := col, hasDel := false } := by unfold clsIn; rw [hC] <;> rfl
  refine ks_codeAny_call_defAt (fd := ksFn "__init__" qual (args1 a1 a2 f) (body1 P tx f) (scope1 f) .none kV doc pm an (.ref cda) ct cc) (body := body1 P tx f) (binds := [("self", .ref x), (f, v)]) hroom (X _ _ ho) rfl Tp.nolimit (codeRec_of X hcd) rfl (hb _ _ _ _ _ _ _) hnc hlo (fun h₁ hns hk₁ => ?_)
  have hLx : s.heap.objs.size ≠ x := Nat.ne_of_gt (Heap.lt_size hx)
  have ms : (fun y => ([("self", Value.ref x), (f, v)] : List (Str × Value)).reverse.lookup y) "self" = some (.ref x) := by simp [List.lookup, flip n1]
  have mf : (fun y => ([("self", Value.ref x), (f, v)] : List (Str × Value)).reverse.lookup y) f = some v := by simp [List.lookup]
  obtain ⟨pl, he, hi, hw⟩ := ev s.heap.objs.size cda cc
  refine ks_wpAt_execs_cons (sup_stmt (s := { s with heap := h₁, toks := s.toks + 2 }) (ar := { arg := "self", annotation := none, pos := a1 }) (t0 := t0) T (X.keeps hk₁) (Tp.keeps hk₁) hns ms (hk₁ _ _ hx) hLx ho rfl hcode hvs hfile hcell l2 l3 ls rfl (fun h₂ tk₂ t1 k₂ e₂ => ?_) he hi hw)
  refine wpAt_of_wpAny ?_
  have kk : ∀ b o, b ≠ x → s.heap.get? b = some o → h₂.get? b = some o := fun b o hb z => k₂ b o hb (hk₁ b o z)
  have X₂ : K.In h₂ := fun a o e => kk a o (fun z => by
    subst z
    rw [hnx] at e
    cases e) (X a o e)
  have hns₂ : h₂.Ns s.heap.objs.size (fun y => ([("self", Value.ref x), (f, v)] : List (Str × Value)).reverse.lookup y) := hns.at fun o z => k₂ _ o hLx z
  refine wpAny_execs_cons (plainObj_wpAny_Assign_Attribute ?_)
  refine ESX.ldL (v := v) hns₂ mf (ESX.ldL (v := .ref x) hns₂ ms ?_ rfl ls) rfl l1 n4
  refine set_plain X₂ (ox := HandSPX.excO C t1) (od := none) ⟨e₂, rfl, rfl, trivial⟩ T.sa ?_
  refine osa_new X₂ e₂ hcl (show excTail lkT (.ref C :: bm) = true from hbm) rfl nof (fun h₃ tk₃ dx k₃ dn dne hx₃ hn₃ => ?_)
  refine wpAny_execs_nil ?_
  have z1 : s.heap.objs.size < h₂.objs.size := hns₂.lt
  exact hq h₃ tk₃ dx ⟨fun b o hb e => k₃ b o hb (kk b o hb e), ⟨t1, hx₃⟩, Nat.le_of_lt (Nat.lt_of_lt_of_le z1 dn), dne, hn₃⟩
theorem init2 {P : Ps2} {a1 a2 a3 : Pos} {args : Args} (T : XCls prog K C) (Fn : XFn prog K C fI qual (args2 a1 a2 a3 f f2) (body2 P tx f f2) (scope2 f f2)) (hf : okF f = true) (hf2 : okF f2 = true) (h12 : (f == f2) = false) (nof : findIn K (.ref C) f = some none) (nof2 : findIn K (.ref C) f2 = some none) (ev : EvOk qual (scope2 f f2) fI P.toPs1 tx)
    (X : K.In s.heap) (Tp : XTop s.heap) (hx : s.heap.get? x = some (HandSPX.excO C t0)) (hnx : K.lookup x = none) (hroom : A.depth < recursionLimit)
    (hb : ∀ (kV doc pm : Value) (an : Option Addr) (cdv ct : Value) (cc : Addr), BindsTo s (ksFn "__init__" qual (args2 a1 a2 a3 f f2) (body2 P tx f f2) (scope2 f f2) .none kV doc pm an cdv ct cc) args [("self", .ref x), (f, v), (f2, v2)])
    (hq : ∀ h' tk dx, InitEnd s.heap h' x C dx (fun y => if y = f2 then some v2 else if y = f then some v else none) → R (.ok (.ret .none)) { s with heap := h', toks := tk }) :
    codeAny (model prog w) A (.call (.ref fI) args) R s := by
  obtain ⟨oc, od, kV, doc, pm, an, cda, ct, cc, osl, cl, ccl, cld, cdd, csl, ccs, vs, file, tf, ho, hcd, hcell, hcode, hvs, hfile⟩ := Fn.fn
  obtain ⟨n1, n2, n3, n4⟩ := okF_of hf
  obtain ⟨m1, m2, m3, m4⟩ := okF_of hf2
  have l1 : (scope2 f f2).names.lookup f = some .local := by simp [List.lookup, n1]
  have l1' : (scope2 f f2).names.lookup f2 = some .local := by simp [List.lookup, m1, flip h12]
  have l2 : (scope2 f f2).names.lookup ("super" : Str) = some .globalImplicit := by simp [List.lookup, flip n2, flip m2]; rfl
  have l3 : (scope2 f f2).names.lookup ("__class__" : Str) = some .free := by simp [List.lookup, flip n3, flip m3]; rfl
  have ls : (scope2 f f2).names.lookup ("self" : Str) = some .local := by simp [List.lookup]
  have hnc : ∀ y ∈ (scope2 f f2).names, y.2 ≠ .cell := by
    intro y hy
    simp only [scope1, List.mem_cons, List.mem_nil_iff, or_false] at hy
    rcases hy with rfl | rfl | rfl | rfl | rfl <;> simp
  have hlo : ∀ y ∈ ([("self", .ref x), (f, v), (f2, v2)] : List (Str × Value)), (scope2 f f2).names.lookup y.1 = some .local := by
    intro y hy
    simp only [List.mem_cons, List.mem_nil_iff, or_false] at hy
    rcases hy with rfl | rfl | rfl
    · exact ls
    · exact l1
    · exact l1'
  obtain ⟨nm, q, N, bs, bm, sn, sub, ab, col, dd, k0, k1, k2, k3, k5, hC, hbm⟩ := T.cls
  have hcl : clsIn K C = some { name := nm, bases := bs, mro := .ref C :: bm, ns := N, qualname := q, hasDict := true, slotNames := sn, subclasses := sub, abstract := ab, collection := col, hasDel := false } := by unfold clsIn; rw [hC] <;> rfl
  refine ks_codeAny_call_defAt (fd := ksFn "__init__" qual (args2 a1 a2 a3 f f2) (body2 P tx f f2) (scope2 f f2) .none kV doc pm an (.ref cda) ct cc) (body := body2 P tx f f2) (binds := [("self", .ref x), (f, v), (f2, v2)]) hroom (X _ _ ho) rfl Tp.nolimit (codeRec_of X hcd) rfl (hb _ _ _ _ _ _ _) hnc hlo (fun h₁ hns hk₁ => ?_)
  have hLx : s.heap.objs.size ≠ x := Nat.ne_of_gt (Heap.lt_size hx)
  have ms : (fun y => ([("self", Value.ref x), (f, v), (f2, v2)] : List (Str × Value)).reverse.lookup y) "self" = some (.ref x) := by simp [List.lookup, flip n1, flip m1]
  have mf : (fun y => ([("self", Value.ref x), (f, v), (f2, v2)] : List (Str × Value)).reverse.lookup y) f = some v := by simp [List.lookup, h12]
  have mf2 : (fun y => ([("self", Value.ref x), (f, v), (f2, v2)] : List (Str × Value)).reverse.lookup y) f2 = some v2 := by simp [List.lookup]
  obtain ⟨pl, he, hi, hw⟩ := ev s.heap.objs.size cda cc
  refine ks_wpAt_execs_cons (sup_stmt (s := { s with heap := h₁, toks := s.toks + 3 }) (ar := { arg := "self", annotation := none, pos := a1 }) (t0 := t0) T (X.keeps hk₁) (Tp.keeps hk₁) hns ms (hk₁ _ _ hx) hLx ho rfl hcode hvs hfile hcell l2 l3 ls rfl (fun h₂ tk₂ t1 k₂ e₂ => ?_) he hi hw)
  refine wpAt_of_wpAny ?_
  have kk : ∀ b o, b ≠ x → s.heap.get? b = some o → h₂.get? b = some o := fun b o hb z => k₂ b o hb (hk₁ b o z)
  have X₂ : K.In h₂ := fun a o e => kk a o (fun z => by
    subst z
    rw [hnx] at e
    cases e) (X a o e)
  have hns₂ : h₂.Ns s.heap.objs.size (fun y => ([("self", Value.ref x), (f, v), (f2, v2)] : List (Str × Value)).reverse.lookup y) := hns.at fun o z => k₂ _ o hLx z
  refine wpAny_execs_cons (plainObj_wpAny_Assign_Attribute ?_)
  refine ESX.ldL (v := v) hns₂ mf (ESX.ldL (v := .ref x) hns₂ ms ?_ rfl ls) rfl l1 n4
  refine set_plain X₂ (ox := HandSPX.excO C t1) (od := none) ⟨e₂, rfl, rfl, trivial⟩ T.sa ?_
  refine osa_new X₂ e₂ hcl (show excTail lkT (.ref C :: bm) = true from hbm) rfl nof (fun h₃ tk₃ dx k₃ dn dne hx₃ hn₃ => ?_)
  have z1 : s.heap.objs.size < h₂.objs.size := hns₂.lt
  have hns₃ : h₃.Ns s.heap.objs.size (fun y => ([("self", Value.ref x), (f, v), (f2, v2)] : List (Str × Value)).reverse.lookup y) := hns₂.at fun o z => k₃ _ o hLx z
  have X₃ : K.In h₃ := fun a o e => k₃ a o (fun z => by
    subst z
    rw [hnx] at e
    cases e) (X₂ a o e)
  refine wpAny_execs_cons (plainObj_wpAny_Assign_Attribute ?_)
  refine ESX.ldL (v := v2) hns₃ mf2 (ESX.ldL (v := .ref x) hns₃ ms ?_ rfl ls) rfl l1' m4
  have hwi : Within (fun y => if y = f then some v else none) [f] := fun y hy => by
    by_cases e : y = f
    · rw [e]; exact List.mem_cons_self ..
    · exact absurd (if_neg e) hy
  obtain ⟨oD, _, _, hoD, _, _⟩ := hn₃.count hwi
  refine set_plain X₃ (ox := { cls := .ref C, dict := some dx, data := .fields #[.ref t1, .none, .none, .none, .bool false, .none] }) (od := some oD) ⟨hx₃, rfl, rfl, hoD⟩ T.sa ?_
  refine osa_old X₃ hx₃ hn₃ hwi (by show 1 ≤ 1000; decide) hcl (show excTail lkT (.ref C :: bm) = true from hbm) rfl nof2 (fun h₄ tk₄ k₄ hn₄ => ?_)
  refine wpAny_execs_nil ?_
  have nd : ∀ {b : Addr} {o : Obj}, s.heap.get? b = some o → b ≠ dx := fun {b o} q => Nat.ne_of_lt (Nat.lt_of_lt_of_le (Heap.lt_size q) (Nat.le_of_lt (Nat.lt_of_lt_of_le z1 dn)))
  exact hq h₄ tk₄ dx ⟨fun b o hb e => k₄ b o (nd e) (k₃ b o hb (kk b o hb e)), ⟨t1, k₄ _ _ (Ne.symm dne) hx₃⟩, Nat.le_of_lt (Nat.lt_of_lt_of_le z1 dn), dne, hn₄⟩

/-- a made exception at e -/
structure OwnMade (h h' : Heap) (e C d : Addr) (mm : Str → Option Value) : Prop where
  keep : ∀ b o, h.get? b = some o → h'.get? b = some o
  new : h.objs.size ≤ e
  obj : ∃ t1 : Addr, h'.get? e = some { cls := .ref C, dict := some d, data := .fields #[.ref t1, .none, .none, .none, .bool false, .none] }
  dbig : h.objs.size ≤ d
  dne : d ≠ e
  ns : h'.Ns1 d mm
theorem made {params : Arguments} {body : List Stmt} {scope : Scope} {rest : List Value} {kw : List (Str × Value)} {mm : Str → Option Value} (T : XCls prog K C) (Fn : XFn prog K C fI qual params body scope) (X : K.In s.heap) (Tp : XTop s.heap) (hz : rest.length ≤ sizeLine)
    (hi : ∀ (s' : Shared) (A' : Around) (x t0 : Addr) (R' : Result → Shared → Prop), K.In s'.heap → XTop s'.heap → s'.heap.get? x = some (HandSPX.excO C t0) → K.lookup x = none → A'.depth ≤ A.depth + 1 →
      (∀ h' tk dx, InitEnd s'.heap h' x C dx mm → R' (.ok (.ret .none)) { s' with heap := h', toks := tk }) → codeAny (model prog w) A' (.call (.ref fI) ⟨.ref x :: rest, kw⟩) R' s')
    (hq : ∀ h' tk e d, OwnMade s.heap h' e C d mm → R (.ok (.ret (.ref e))) { s with heap := h', toks := tk }) :
    codeAny (model prog w) A (.call (.ref C) ⟨rest, kw⟩) R s := by
  obtain ⟨nm, q, N, bs, bm, sn, sub, ab, col, dd, k0, k1, k2, k3, k5, hC, hbm⟩ := T.cls
  obtain ⟨hp, g, dr, tk, os⟩ := s
  have k : ∀ b o, hp.get? b = some o → ((hp.push (kdv_tup rest)).push (HandSPX.excO C hp.objs.size)).get? b = some o := fun b o e => Heap.get?_push_of_some _ (Heap.get?_push_of_some _ e)
  have hget : ((hp.push (kdv_tup rest)).push (HandSPX.excO C hp.objs.size)).get? (hp.objs.size + 1) = some (HandSPX.excO C hp.objs.size) := by heap_get
  have hnx : K.lookup (hp.objs.size + 1) = none := by
    cases e : K.lookup (hp.objs.size + 1) with
    | none => rfl
    | some o =>
      have z : hp.get? (hp.objs.size + 1) = some o := X _ _ e
      exact absurd (Nat.lt_of_succ_lt (Heap.lt_size z)) (Nat.lt_irrefl _)
  refine call_ownK F.excBase_LookupError (fun Y => excTail_contains Y bm hbm) (X _ _ hC) (looks_findIn X Fn.iC) (fun self => bind_fn X self Fn.tI) hz ?_
  refine hi ⟨(hp.push (kdv_tup rest)).push (HandSPX.excO C hp.objs.size), g, dr, tk, os⟩ _ (hp.objs.size + 1) hp.objs.size _ (X.keeps k) (Tp.keeps k) hget hnx (Nat.le_refl _) fun h' tk' dx IE => ?_
  have old : ∀ b o, hp.get? b = some o → h'.get? b = some o := fun b o e => IE.keep b o (Nat.ne_of_lt (Nat.lt_succ_of_lt (Heap.lt_size e))) (k b o e)
  have z : hp.objs.size + 1 + 1 ≤ dx := by
    have q := IE.dbig
    rw [show ({ heap := (hp.push (kdv_tup rest)).push (HandSPX.excO C hp.objs.size), gens := g, drawn := dr, toks := tk, os := os } : Shared).heap.objs.size = hp.objs.size + 1 + 1 from by rw [Heap.size_push, Heap.size_push]] at q
    exact q
  exact ⟨rfl, hq h' tk' (hp.objs.size + 1) dx ⟨old, Nat.le_succ _, IE.obj, Nat.le_trans (Nat.le_trans (Nat.le_succ _) (Nat.le_succ _)) z, IE.dne, IE.ns⟩⟩
end
end XL
end PySem
namespace L2
open PySem PySem.Spec PyProof.Rows
/-! ### exceptions of own classes (over LookupError) as values: made, their fields read, isinstance -/
section
variable {X : Cx} {pins : List (Addr × Obj)} {σ : St} {H : Hp} {s : Shared}
theorem Inv.xtop (I : Inv X pins σ H s) : XL.XTop s.heap :=
  ⟨⟨_, I.mod.glob.keeps I.bk⟩, let ⟨mb, h1, h2⟩ := I.mod.blt; ⟨mb, h1.keeps I.bk, h2⟩, I.nolimit⟩
/-- two objects that are new -/
theorem Inv.laid2 {a d : Addr} {oa od : HO} {t' : Nat} {h' : Heap} (I : Inv X pins σ H s) (k : ∀ b u, s.heap.get? b = some u → h'.get? b = some u) (ha : s.heap.objs.size ≤ a) (hd : s.heap.objs.size ≤ d) (hne : d ≠ a)
    (na : ObjOk X.prog X.w (upd (upd H d od) a oa) h' a oa) (nd : ObjOk X.prog X.w (upd (upd H d od) a oa) h' d od) : Inv X pins σ (upd (upd H d od) a oa) { s with heap := h', toks := t' } := by
  have fa := I.hok.fresh ha
  have fd := I.hok.fresh hd
  have la : ∀ {b : Addr} {u : Obj}, s.heap.get? b = some u → b ≠ a := fun q => Nat.ne_of_lt (Nat.lt_of_lt_of_le (Heap.lt_size q) ha)
  have ld : ∀ {b : Addr} {u : Obj}, s.heap.get? b = some u → b ≠ d := fun q => Nat.ne_of_lt (Nat.lt_of_lt_of_le (Heap.lt_size q) hd)
  have up : ∀ {b : Addr} {u : HO}, H b = some u → upd (upd H d od) a oa b = some u := fun q => by rw [upd_ne (ne_of_none q fa), upd_ne (ne_of_none q fd)]; exact q
  refine I.un (t' := t') (h' := h') {
    keep := fun b u q _ _ _ => k b u q
    slot := fun b u q _ _ _ => ⟨u.slots, k b u q⟩
    free := fun b u q n _ => by rw [upd_ne (la q), upd_ne (ld q)]; exact n
    there := fun b u q _ => ⟨u, k b u q⟩
    tups := fun b xs q => up q
    frzs := fun b u xs q => up q
    tbls := fun b ps q => ⟨#[], by rw [up q]; simp⟩ } fun b u e => ?_
  by_cases hb : b = a
  · subst hb; rw [upd_same] at e; cases e; exact na
  · rw [upd_ne hb] at e
    by_cases hb' : b = d
    · subst hb'; rw [upd_same] at e; cases e; exact nd
    · rw [upd_ne hb'] at e
      exact (I.hok b u e).stay (fun c v _ q => k c v q) (fun c q => up q) fun c xs q => up q
end
theorem pe_gref {X : Cx} {x : Str} {C : Addr} {pos : Pos} (hg : Gl X x) (hm : X.mg x = some (.ref C)) (hd : (x == ("__debug__" : Str)) = false := by decide) : PE X (.Name x pos) (tC (.ref C)) := pe_glob hg hm rfl hd
/-- C(us, ks = ws) can be made; its fields then are gV's -/
def XMk (P : Program) (w : World) (K : PySem.W.Frag) (C : Addr) (n : Nat) (ks : List Str) (gV : List V → List V → List (Str × V)) : Prop :=
  ∀ (A : Around) (s : Shared) (R : Result → Shared → Prop) (us ws : List Value) (vs zs : List V), Vals vs us → Vals zs ws → us.length = n → ws.length = ks.length → K.In s.heap → XL.XTop s.heap → A.depth + 2 < recursionLimit →
    (∀ h' tk e d mm, XL.OwnMade s.heap h' e C d mm → (∀ f, RelO ((gV vs zs).lookup f) (mm f)) → R (.ok (.ret (.ref e))) { s with heap := h', toks := tk }) →
    codeAny (model P w) A (.call (.ref C) ⟨us, ks.zip ws⟩) R s
/-- a new exception of the class C with the fields gV -/
def tXv (C : Addr) (n m : Nat) (gV : List V → List V → List (Str × V)) (ta tk : TA) : TE := fun σ H Q => ta σ H fun vs H1 => tk σ H1 fun zs H2 => vs.length = n ∧ zs.length = m ∧
  ∀ a d, H2 a = none → H2 d = none → d ≠ a → Q (.ref a) (upd (upd H2 d (exd d (gV vs zs))) a (exo a C (some d)))
section
variable {X : Cx} {n k : Nat} {C : Addr} {ks : List Str} {x : Str} {p pos : Pos} {e : Expr} {es : List Expr} {kws : List Keyword} {t tk : TA} {gV : List V → List V → List (Str × V)}
theorem run_xv {pins : List (Addr × Obj)} {σ : St} {H : Hp} {s : Shared} {Q : VK} {us ws : List Value} {vs zs : List V} (M : XMk X.prog X.w X.K C n ks gV) (hr : Room k X.A) (I : Inv X pins σ H s) (r : Vals vs us) (rz : Vals zs ws) (l1 : vs.length = n) (l2 : zs.length = ks.length)
    (h : ∀ a d, H a = none → H d = none → d ≠ a → Q (.ref a) (upd (upd H d (exd d (gV vs zs))) a (exo a C (some d)))) :
    wpAny (model X.prog X.w) X.A (call (.ref C) us (ks.zip ws)) (EP X pins σ Q) X.xe s := by
  refine wpAny_call (M _ s _ us ws vs zs r rz (r.length.symm.trans l1) (rz.length.symm.trans l2) I.kIn I.xtop (by have := hr.dp; omega) fun h' tk' e' d mm O rel => ?_)
  obtain ⟨t1, ho⟩ := O.obj
  exact ⟨.ref e', _, I.laid2 (t' := tk') O.keep O.new O.dbig O.dne (exo_ok ho) (exd_ok O.ns rel), rfl, h e' d (I.hok.fresh O.new) (I.hok.fresh O.dbig) O.dne⟩
/-- C(e, .., k = v, ..) -/
theorem pe_xv (M : XMk X.prog X.w X.K C n ks gV) (hr : Room k X.A) (hg : Gl X x) (hm : X.mg x = some (.ref C)) (kp : PySem.W.keepIn X.K (.ref C) = true) (ha : PA X (e :: es) t) (hkw : PK X kws tk)
    (hall : (backToKw pos (keywordEach kws X.env)).all (·.1.isSome) = true := by rfl) (hks : (backToKw pos (keywordEach kws X.env)).filterMap (·.1) = ks := by rfl) (hdb : (x == ("__debug__" : Str)) = false := by decide)
    (he : starEach (e :: es) X.env = (false, eval e X.env) :: starEach es X.env := by rfl) (hpl : ((backTo pos (starEach (e :: es) X.env)).any (·.1) || (backToKw pos (keywordEach kws X.env)).any (·.1.isNone)) = false := by rfl) :
    PE X (.Call (.Name x p) (e :: es) kws pos) (tXv C n ks.length gV t tk) := by
  refine ⟨fun pins s σ H Q I h => ?_⟩
  refine wpAny_Call_Name_kw (ld_glob I hg hm ?_ hdb)
  refine PySem.W.callWith_KW (h₀ := X.base) I.ok.mod.kin kp hall (thn (ha.run pos pins s σ H _ I h) fun us s1 ⟨vs, H1, I1, r, q⟩ => ?_) hpl he
  refine thn (hkw.run pos pins s1 σ H1 _ I1 q) fun ws s2 ⟨zs, H2, I2, rz, l1, l2, q2⟩ => ⟨I2.kIn, ?_⟩
  rw [hks]
  exact run_xv M hr I2 r rz l1 l2 q2
/-- C(k = v, ..) -/
theorem pe_xv0 (M : XMk X.prog X.w X.K C 0 ks gV) (hr : Room k X.A) (hg : Gl X x) (hm : X.mg x = some (.ref C)) (kp : PySem.W.keepIn X.K (.ref C) = true) (hkw : PK X kws tk)
    (hall : (backToKw pos (keywordEach kws X.env)).all (·.1.isSome) = true := by rfl) (hks : (backToKw pos (keywordEach kws X.env)).filterMap (·.1) = ks := by rfl) (hdb : (x == ("__debug__" : Str)) = false := by decide)
    (hpl : ((backTo pos (starEach [] X.env)).any (·.1) || (backToKw pos (keywordEach kws X.env)).any (·.1.isNone)) = false := by rfl) :
    PE X (.Call (.Name x p) [] kws pos) (tXv C 0 ks.length gV tNil tk) := by
  refine ⟨fun pins s σ H Q I h => ?_⟩
  refine wpAny_Call_Name_kw (ld_glob I hg hm ?_ hdb)
  refine PySem.W.callWith_KW0 (h₀ := X.base) I.ok.mod.kin kp hall ?_ hpl
  refine thn (hkw.run pos pins s σ H _ I h) fun ws s2 ⟨zs, H2, I2, rz, l1, l2, q2⟩ => ⟨I2.kIn, ?_⟩
  rw [hks]
  exact run_xv (us := []) (vs := []) M hr I2 .nil rz rfl l2 q2
end
section
variable {P : Program} {w : World} {K : PySem.W.Frag} {C fI : Addr} {qual tx f f2 : Str}
open PySem.XL in
theorem xmk1 {Ps : Ps1} {a1 a2 : Pos} (T : XCls P K C) (Fn : XFn P K C fI qual (args1 a1 a2 f) (body1 Ps tx f) (scope1 f)) (hf : okF f = true) (nof : PySem.W.findIn K (.ref C) f = some none) (ev : EvOk qual (scope1 f) fI Ps tx)
    (hb : ∀ (s : Shared) (x : Addr) (v : Value) (kV doc pm : Value) (an : Option Addr) (cdv ct : Value) (cc : Addr), BindsTo s (PySem.W.ksFn "__init__" qual (args1 a1 a2 f) (body1 Ps tx f) (scope1 f) .none kV doc pm an cdv ct cc) ⟨[.ref x, v], []⟩ [("self", .ref x), (f, v)]) :
    XMk P w K C 1 [] (fun vs _ => [(f, vs.headD .non)]) := by
  intro A s R us ws vs zs r rz l1 l2 X Tp dp hq
  cases r with
  | nil => cases l1
  | @cons v u vs' us' ru rr =>
    cases rr with
    | cons _ _ => cases l1
    | nil =>
      show codeAny _ _ (.call (.ref C) ⟨[u], []⟩) _ _
      refine made (mm := fun y => if y = f then some u else none) T Fn X Tp (by show 1 ≤ sizeLine; rw [sizeLine_eq]; decide) (fun s' A' x t0 R' X' Tp' hx hnx hA hq' => ?_) fun h' tk e d O => hq h' tk e d _ O fun g => ?_
      · exact init1 T Fn hf nof ev X' Tp' hx hnx (by omega) (hb s' x u) hq'
      · rw [lookup_put]
        by_cases e : g = f
        · rw [if_pos e, if_pos e]; exact ru
        · rw [if_neg e, if_neg e]; exact True.intro
open PySem.XL in
theorem xmk1k {Ps : Ps1} {a1 a2 : Pos} (T : XCls P K C) (Fn : XFn P K C fI qual (args1 a1 a2 f) (body1 Ps tx f) (scope1 f)) (hf : okF f = true) (nof : PySem.W.findIn K (.ref C) f = some none) (ev : EvOk qual (scope1 f) fI Ps tx)
    (hb : ∀ (s : Shared) (x : Addr) (v : Value) (kV doc pm : Value) (an : Option Addr) (cdv ct : Value) (cc : Addr), BindsTo s (PySem.W.ksFn "__init__" qual (args1 a1 a2 f) (body1 Ps tx f) (scope1 f) .none kV doc pm an cdv ct cc) ⟨[.ref x], [(f, v)]⟩ [("self", .ref x), (f, v)]) :
    XMk P w K C 0 [f] (fun _ zs => [(f, zs.headD .non)]) := by
  intro A s R us ws vs zs r rz l1 l2 X Tp dp hq
  cases r with
  | cons _ _ => cases l1
  | nil =>
    cases rz with
    | nil => cases l2
    | @cons v u vs' us' ru rr =>
      cases rr with
      | cons _ _ => cases l2
      | nil =>
        show codeAny _ _ (.call (.ref C) ⟨[], [(f, u)]⟩) _ _
        refine made (mm := fun y => if y = f then some u else none) T Fn X Tp (by show 0 ≤ sizeLine; omega) (fun s' A' x t0 R' X' Tp' hx hnx hA hq' => ?_) fun h' tk e d O => hq h' tk e d _ O fun g => ?_
        · exact init1 T Fn hf nof ev X' Tp' hx hnx (by omega) (hb s' x u) hq'
        · rw [lookup_put]
          by_cases e : g = f
          · rw [if_pos e, if_pos e]; exact ru
          · rw [if_neg e, if_neg e]; exact True.intro
theorem rel2 {v v2 : V} {u u2 : Value} (r : RelV v u) (r2 : RelV v2 u2) (g : Str) : RelO (([(f2, v2), (f, v)] : List (Str × V)).lookup g) (if g = f2 then some u2 else if g = f then some u else none) := by
  rw [lookup_put]
  by_cases e : g = f2
  · rw [if_pos e, if_pos e]; exact r2
  · rw [if_neg e, if_neg e, lookup_put]
    by_cases e' : g = f
    · rw [if_pos e', if_pos e']; exact r
    · rw [if_neg e', if_neg e']; exact True.intro
open PySem.XL in
theorem xmk2 {Ps : Ps2} {a1 a2 a3 : Pos} (T : XCls P K C) (Fn : XFn P K C fI qual (args2 a1 a2 a3 f f2) (body2 Ps tx f f2) (scope2 f f2)) (hf : okF f = true) (hf2 : okF f2 = true) (h12 : (f == f2) = false) (nof : PySem.W.findIn K (.ref C) f = some none) (nof2 : PySem.W.findIn K (.ref C) f2 = some none) (ev : EvOk qual (scope2 f f2) fI Ps.toPs1 tx)
    (hb : ∀ (s : Shared) (x : Addr) (v v2 : Value) (kV doc pm : Value) (an : Option Addr) (cdv ct : Value) (cc : Addr), BindsTo s (PySem.W.ksFn "__init__" qual (args2 a1 a2 a3 f f2) (body2 Ps tx f f2) (scope2 f f2) .none kV doc pm an cdv ct cc) ⟨[.ref x, v, v2], []⟩ [("self", .ref x), (f, v), (f2, v2)]) :
    XMk P w K C 2 [] (fun vs _ => [(f2, vs.getD 1 .non), (f, vs.getD 0 .non)]) := by
  intro A s R us ws vs zs r rz l1 l2 X Tp dp hq
  cases r with
  | nil => cases l1
  | @cons v u vs' us' ru rr =>
    cases rr with
    | nil => cases l1
    | @cons v2 u2 vs' us' ru2 rr =>
      cases rr with
      | cons _ _ => cases l1
      | nil =>
        show codeAny _ _ (.call (.ref C) ⟨[u, u2], []⟩) _ _
        refine made (mm := fun y => if y = f2 then some u2 else if y = f then some u else none) T Fn X Tp (by show 2 ≤ sizeLine; rw [sizeLine_eq]; decide) (fun s' A' x t0 R' X' Tp' hx hnx hA hq' => ?_) fun h' tk e d O => hq h' tk e d _ O fun g => rel2 ru ru2 g
        exact init2 T Fn hf hf2 h12 nof nof2 ev X' Tp' hx hnx (by omega) (hb s' x u u2) hq'
open PySem.XL in
/-- by keywords, the second one first -/
theorem xmk2k {Ps : Ps2} {a1 a2 a3 : Pos} (T : XCls P K C) (Fn : XFn P K C fI qual (args2 a1 a2 a3 f f2) (body2 Ps tx f f2) (scope2 f f2)) (hf : okF f = true) (hf2 : okF f2 = true) (h12 : (f == f2) = false) (nof : PySem.W.findIn K (.ref C) f = some none) (nof2 : PySem.W.findIn K (.ref C) f2 = some none) (ev : EvOk qual (scope2 f f2) fI Ps.toPs1 tx)
    (hb : ∀ (s : Shared) (x : Addr) (v v2 : Value) (kV doc pm : Value) (an : Option Addr) (cdv ct : Value) (cc : Addr), BindsTo s (PySem.W.ksFn "__init__" qual (args2 a1 a2 a3 f f2) (body2 Ps tx f f2) (scope2 f f2) .none kV doc pm an cdv ct cc) ⟨[.ref x], [(f2, v2), (f, v)]⟩ [("self", .ref x), (f, v), (f2, v2)]) :
    XMk P w K C 0 [f2, f] (fun _ zs => [(f2, zs.getD 0 .non), (f, zs.getD 1 .non)]) := by
  intro A s R us ws vs zs r rz l1 l2 X Tp dp hq
  cases r with
  | cons _ _ => cases l1
  | nil =>
  cases rz with
  | nil => cases l2
  | @cons v2 u2 vs' us' ru2 rr =>
    cases rr with
    | nil => cases l2
    | @cons v u vs' us' ru rr =>
      cases rr with
      | cons _ _ => cases l2
      | nil =>
        show codeAny _ _ (.call (.ref C) ⟨[], [(f2, u2), (f, u)]⟩) _ _
        refine made (mm := fun y => if y = f2 then some u2 else if y = f then some u else none) T Fn X Tp (by show 0 ≤ sizeLine; omega) (fun s' A' x t0 R' X' Tp' hx hnx hA hq' => ?_) fun h' tk e d O => hq h' tk e d _ O fun g => rel2 ru ru2 g
        exact init2 T Fn hf hf2 h12 nof nof2 ev X' Tp' hx hnx (by omega) (hb s' x u u2) hq'
end
/-- what an own exception class must say for its instances to be read and asked -/
structure XAsk (K : PySem.W.Frag) (D : Addr) : Prop where
  hg : PySem.W.findIn K (.ref D) "__getattribute__" = some (some (.builtin "BaseException.__getattribute__"))
  hk : PySem.W.findIn K (.ref D) "__getattr__" = some none
  hs : PySem.W.subIn K (.ref D) (.type "BaseException") = some true
  hd : PySem.W.hasDictIn K D = true
  ha : PySem.W.findIn K (.ref D) "__class__" = some (some (.builtin "object.__class__"))
  hn : PySem.W.specialIn K (.builtin "object.__class__") "__get__" = some (some (.builtin "getset_descriptor.__get__"))
  ht : PySem.W.takesIn K (.builtin "object.__class__") = some true
  hm : PySem.W.mroIn K D (.type "object") = some true
/-- e.f, e an exception that is held as a value -/
def tXat (K : PySem.W.Frag) (f : Str) (te : TE) : TE := fun σ H Q => te σ H fun x H1 => ∃ (a C d : Addr) (fs : List (Str × V)) (v : V), x = .ref a ∧ H1 a = some (exo a C (some d)) ∧ H1 d = some (exd d fs) ∧ XAsk K C ∧ PySem.W.findIn K (.ref C) f = some none ∧ fs.lookup f = some v ∧ Q v H1
/-- isinstance(e, c) -/
def rXis (K : PySem.W.Frag) : List V → Hp → VK → Prop := fun xs H Q => ∃ (a C d : Addr) (fs : List (Str × V)) (c : V) (u : Value) (b : Bool), xs = [.ref a, c] ∧ ClsV c u ∧ H a = some (exo a C (some d)) ∧ H d = some (exd d fs) ∧ XAsk K C ∧ PySem.W.kitOne K (.ref C) u = some b ∧ Q (.bl b) H
section
variable {X : Cx} {pins : List (Addr × Obj)} {σ : St} {H : Hp} {s : Shared}
theorem Inv.inst {a C d : Addr} {fs : List (Str × V)} (I : Inv X pins σ H s) (ea : H a = some (exo a C (some d))) (ed : H d = some (exd d fs)) :
    ∃ (oe od : Obj) (mA : Str → Option Value), PySem.W.InstAt s.heap a oe C (some od) ∧ (∀ f, RelO (fs.lookup f) (mA f)) ∧ ∀ f, PySem.W.lookIn f od = some (mA f) := by
  obtain ⟨t1, ho⟩ := exo_at I.hok ea
  obtain ⟨mA, hns, hr⟩ := exd_at I.hok ed
  obtain ⟨od, hod, hl⟩ := lookIn_ns hns
  exact ⟨_, od, mA, ⟨ho, rfl, rfl, hod⟩, hr, hl⟩
theorem pe_xat {e : Expr} {te : TE} {pos : Pos} {f : Str} (he : PE X e te) (hb : attributeBase e f X.env (eval e X.env) = eval e X.env := by rfl) : PE X (.Attribute e f pos) (tXat X.K f te) := by
  refine ⟨fun pins s σ H Q I h => ?_⟩
  refine attr_of hb (thn (he.run pins s σ H _ I h) fun u s1 ⟨x, H1, I1, rx, a, C, d, fs, v, ex, ea, ed, T, hno, l, q⟩ => ?_)
  subst ex
  obtain rfl : u = Value.ref a := rx
  obtain ⟨oe, od, mA, J, hr, hl⟩ := I1.inst ea ed
  obtain ⟨u, hu, ru⟩ := RelO.some_of (v := v) (o := mA f) (by rw [← l]; exact hr f)
  exact HandSPX.exc_get I1.kIn J T.hg T.hk T.hs (PySem.W.findObj_own T.hd hno rfl (by rw [hl, hu])) (handed_of ru) ⟨v, H1, I1.tok _, ru, q⟩
theorem call_xis : CallR X (.builtin "isinstance") (rXis X.K) := by
  intro pins s σ H xs us Q I r h
  obtain ⟨a, C, d, fs, c, u, b, rfl, k, ea, ed, T, e, q⟩ := h
  obtain ⟨u1, u2, rfl, r1, r2⟩ := vals2 r
  have e2 := k.eq r2
  subst e2
  obtain rfl : u1 = Value.ref a := r1
  obtain ⟨oe, od, mA, J, hr, hl⟩ := I.inst ea ed
  obtain ⟨cd, hc, _⟩ := PySem.W.any_some T.hd
  exact PySem.W.kia_one (PySem.W.kitx_exc (by rw [hc]; rfl) T.hg T.hk T.hs T.ha T.hn T.ht T.hm) I.kIn J e (fun z => nomatch z) fun tk => ⟨.bl b, H, I.tok tk, rfl, q⟩
end
end L2
namespace L2
open PySem PySem.Spec PyProof.Rows
/-! ### raise C(e, ..), C an own class over LookupError -/
/-- C(e, ..) to be raised: its own dict d, new, holds the fields -/
def tXmk (C : Addr) (n : Nat) (gV : List V → List V → List (Str × V)) (ta : TA) : L2.St → Hp → XK → Prop := fun σ H Q => ta σ H fun vs H1 => vs.length = n ∧ ∀ d, H1 d = none → Q (.ref C) (some d) (upd H1 d (.xd (gV vs [])))
theorem pmk_x {X : Cx} {x : Str} {C : Addr} {n k : Nat} {e : Expr} {es : List Expr} {ta : TA} {p pos : Pos} {gV : List V → List V → List (Str × V)} (M : XMk X.prog X.w X.K C n [] gV) (hr : Room k X.A) (hg : Gl X x) (hm : X.mg x = some (.ref C)) (kp : PySem.W.keepIn X.K (.ref C) = true) (rs : Raises X (.ref C)) (ha : PA X (e :: es) ta)
    (hdb : (x == ("__debug__" : Str)) = false := by decide) (he : starEach (e :: es) X.env = (false, eval e X.env) :: starEach es X.env := by rfl) (hpl : (backTo pos (starEach es X.env)).any (·.1) = false := by rfl) :
    PMk X (.Call (.Name x p) (e :: es) [] pos) (tXmk C n gV ta) := by
  intro pins s σ H Q I h
  refine wpAny_Call_Name_kw (ld_glob I hg hm ?_ hdb)
  refine PySem.W.callWith_K (h₀ := X.base) I.ok.mod.kin kp (thn (ha.run pos pins s σ H _ I h) fun us s1 ⟨vs, H1, I1, r1, l1, q1⟩ => ⟨I1.kIn, ?_⟩) he hpl
  show wpAny _ _ (call (.ref C) us) _ _ _
  refine wpAny_call (M _ s1 _ us [] vs [] r1 .nil (r1.length.symm.trans l1) rfl I1.kIn I1.xtop (by have := hr.dp; omega) fun h' tk' e' d mm O rel => ?_)
  obtain ⟨hp, g, dr, tk, os⟩ := s1
  obtain ⟨t1, hoe⟩ := O.obj
  obtain ⟨G', g1, g2⟩ := restrict h' fun b => decide (b ≠ e')
  have gk : ∀ b, b ≠ e' → G'.get? b = h'.get? b := fun b hb => g1 b (decide_eq_true hb)
  have ge : G'.get? e' = none := g2 e' (by simp)
  have old : ∀ b o, hp.get? b = some o → G'.get? b = some o := fun b o q => (gk b (Nat.ne_of_lt (Nat.lt_of_lt_of_le (Heap.lt_size q) O.new))).trans (O.keep b o q)
  have ob : ObjOk X.prog X.w (upd H1 d (.xd (gV vs []))) G' d (.xd (gV vs [])) := ⟨_, O.ns.at (fun o q => (gk d O.dne).trans q), rel⟩
  have J : Inv X pins σ (upd H1 d (.xd (gV vs []))) ⟨G', g, dr, tk', os⟩ := I1.laid (t' := tk') old O.dbig ob
  refine ⟨e', _, _, ⟨G', g, dr, tk', os⟩, _, .ref C, some d, rfl, J, fun b o q => ?_, ge, hoe, ⟨rfl, rfl⟩, rfl, rfl, ?_, rfl, I1.bare, rs, q1 d (I1.hok.fresh O.dbig)⟩
  · by_cases hb : b = e'
    · have q' : G'.get? b = some o := q
      rw [hb, ge] at q'; cases q'
    · exact (gk b hb).symm.trans q
  · rw [upd_ne (Ne.symm O.dne)]
    exact I1.hok.fresh O.new
end L2
namespace L2
open PySem PySem.Spec PyProof.Rows
/-! ### zip of a text and a tuple -/
/-- the text x and the tuple at b, the items in new pairs -/
def ItzS (K : PySem.W.Frag) (x : Str) (b : Addr) : It :=
  ⟨fun i H => ∃ (ys : List V) (c : Nat) (y : V), SqT K H b ys ∧ x.cps[i]? = some c ∧ ys[i]? = some y ∧ i ≤ x.cps.size ∧ i ≤ ys.length,
    fun i H v H' => ∃ T c y, v = .ref T ∧ H T = none ∧ H' = upd H T (.tup [.str ⟨#[c]⟩, y]) ∧ x.cps[i]? = some c ∧ ∀ ys, SqT K H b ys → ys[i]? = some y,
    fun i H => ∃ ys : List V, SqT K H b ys ∧ i ≤ x.cps.size ∧ i ≤ ys.length ∧ (i = x.cps.size ∨ i = ys.length)⟩
theorem draws_text {prog : Program} {w : World} {A : Around} (hh : A.handled = none) (it : Addr) (x : Str) (t : Tok) (ty : String) (hty : ty = "str_ascii_iterator" ∨ ty = "str_iterator") :
    Draws prog w A it [it] x.cps.size (fun i v => ∃ c u, x.cps[i]? = some c ∧ v = .str ⟨#[c]⟩ u) (fun i h => h.IsStrIter it ty x t i) := by
  rcases hty with rfl | rfl
  · exact Draws.strAscii hh it x t
  · exact Draws.strWide hh it x t
theorem turn_zipS {P : Program} {w : World} {K : PySem.W.Frag} {elts : List Expr} {kk : Nat} {tpos : Pos} {b z TI TO i1 i2 : Addr} {x : Str} {t : Tok} {ty : String} (hty : ty = "str_ascii_iterator" ∨ ty = "str_iterator") (D : ZipSep2 z TI TO i1 i2 [i1] [i2, b]) (hb : b ≠ i2) :
    Turn P w K (.Tuple elts kk tpos) (ItzS K x b) [z, TI, TO, i1, i2] z (fun i h => IsZip h z TI TO .none ∧ IsTupOf2 h TI (.ref i1) (.ref i2) ∧ (∃ x y, IsTupOf2 h TO x y) ∧ h.IsStrIter i1 ty x t i ∧ h.IsTupleIter i2 b i) where
  mem := by simp
  obj := fun i h st c hc => by
    obtain ⟨hz, hTI, ⟨x, y, hTO⟩, ⟨o1, e1, _, d1⟩, ⟨o2, e2, _, d2⟩⟩ := st
    have e' : c = z ∨ c = TI ∨ c = TO ∨ c = i1 ∨ c = i2 := by simpa using hc
    rcases e' with q | q | q | q | q
    · rw [q]; exact ⟨_, hz, fun v q => nomatch q⟩
    · rw [q]; exact ⟨_, hTI, fun v q => nomatch q⟩
    · rw [q]; exact ⟨_, hTO, fun v q => nomatch q⟩
    · rw [q]; exact ⟨o1, e1, fun v q => by rw [d1] at q; cases q⟩
    · rw [q]; exact ⟨o2, e2, fun v q => by rw [d2] at q; cases q⟩
  keep := fun i h h' st k => by
    obtain ⟨hz, hTI, ⟨x, y, hTO⟩, ⟨o, ho, r⟩, h2⟩ := st
    exact ⟨k z (by simp) _ hz, k TI (by simp) _ hTI, ⟨x, y, k TO (by simp) _ hTO⟩, ⟨o, k i1 (by simp) o ho, r⟩, h2.at fun o q => k i2 (by simp) o q⟩
  item := by
    intro X hP hw hK hc i pins s σ H E I hf st hg
    subst hP hw hK
    obtain ⟨hz, hTI, ⟨x0, y0, hTO⟩, h1, h2⟩ := st
    obtain ⟨ys, c, y, hqy, hx, hy, l1, l2⟩ := hg
    obtain ⟨its2, rv2, p2, _⟩ := I.tuple hqy
    obtain ⟨u2, hu2, ru2⟩ := rv2.get hy
    have hzl : z < s.heap.objs.size := Heap.lt_size hz
    have hlt1 : i < x.cps.size := (Array.getElem?_eq_some_iff.mp hx).1
    have hlt2 : i < its2.toArray.size := by simpa using (List.getElem?_eq_some_iff.mp hu2).1
    have d1 := draws_text (prog := X.prog) (w := X.w) (A := X.A.in1) (I.ok.hd hc) i1 x t ty hty
    have d2 := Draws.tuple (prog := X.prog) (w := X.w) (A := X.A.in1) (I.ok.hd hc) i2 b hb its2.toArray
    refine wpAny_pyNext_zipD2_item (St1 := fun i h => h.IsStrIter i1 ty x t i) (St2 := fun i h => h.IsTupleIter i2 b i ∧ h.IsTuple b its2.toArray) D d1 d2 hz hTI hTO h1 ⟨h2, p2⟩ hlt1 hlt2 fun x1 x2 h' tk q1 q2 z' TO' h1' h2' hT hsz hk => ?_
    obtain ⟨c', u, hc', rfl⟩ := q1
    rw [hx] at hc'
    cases hc'
    have hx2 : x2 = u2 := by
      have q2' : its2[i]? = some x2 := by simpa using q2
      rw [hu2] at q2'
      exact (Option.some.inj q2').symm
    subst hx2
    refine ⟨_, rfl, wpAny_letOwnedTupleGo_zip (s := { s with heap := h', toks := tk }) z' fun h'' z'' sb => ?_⟩
    have hT2 : h''.get? s.heap.objs.size = some { cls := .type "tuple", data := .seq #[.str ⟨#[c]⟩ u, x2] } := (sb.2 _ (Nat.ne_of_gt hzl)).trans hT
    have new : ObjOk X.prog X.w (upd H s.heap.objs.size (.tup [.str ⟨#[c]⟩, y])) h'' s.heap.objs.size (.tup [.str ⟨#[c]⟩, y]) :=
      ⟨by show 2 ≤ sizeLine; decide, [.str ⟨#[c]⟩ u, x2], .cons ⟨u, rfl⟩ (.cons ru2 .nil), ⟨_, hT2, rfl, _, rfl⟩⟩
    have I1 : Inv X pins σ (upd H s.heap.objs.size (.tup [.str ⟨#[c]⟩, y])) { s with heap := h'', toks := tk } :=
      I.turnedNew (t' := tk) (ch := [z, TI, TO, i1, i2]) (fun c o hb q => (sb.2 c (fun q' => hb (by simp [q']))).trans (hk c o (fun q' => hb (by simp [q'])) (fun q' => hb (by simp [q'])) (fun q' => hb (by simp [q'])) (fun q' => hb (by simp [q'])) q)) hf (Nat.le_refl _) new
    refine ⟨.ref s.heap.objs.size, _, I1, rfl, ⟨_, c, y, rfl, I.hok.fresh (Nat.le_refl _), rfl, hx, fun l hl => by rw [I.tuple_inj hl hqy]; exact hy⟩, ⟨z'', ?_, ⟨.str ⟨#[c]⟩ u, x2, ?_⟩, ?_, ?_⟩, fun c hcm => ?_⟩
    · exact (sb.2 _ D.TIz).trans (hk _ _ D.TIz D.TITO D.TIi1 D.TIi2 hTI)
    · exact (sb.2 _ D.TOz).trans TO'
    · obtain ⟨o, ho, r⟩ := h1'
      exact ⟨o, (sb.2 _ D.zi1.symm).trans ho, r⟩
    · exact h2'.1.at fun o q => (sb.2 _ D.zi2.symm).trans q
    · have hlt : c < s.heap.objs.size := by
        have e' : c = z ∨ c = TI ∨ c = TO ∨ c = i1 ∨ c = i2 := by simpa using hcm
        rcases e' with q | q | q | q | q
        · rw [q]; exact hzl
        · rw [q]; exact Heap.lt_size hTI
        · rw [q]; exact Heap.lt_size hTO
        · rw [q]; obtain ⟨_, e1, _⟩ := h1; exact Heap.lt_size e1
        · rw [q]; obtain ⟨_, e2, _⟩ := h2; exact Heap.lt_size e2
      rw [upd_ne (Nat.ne_of_lt hlt)]
      exact (hf c hcm).1
  done := by
    intro X hP hw hK hc i pins s σ H E I hf st hg
    subst hP hw hK
    obtain ⟨hz, hTI, ⟨x0, y0, hTO⟩, h1, h2⟩ := st
    obtain ⟨ys, hqy, l1, l2, hend⟩ := hg
    obtain ⟨its2, rv2, p2, _⟩ := I.tuple hqy
    have ll := rv2.length
    have l2' : i ≤ its2.toArray.size := by simp; omega
    have he : i = x.cps.size ∨ i = its2.toArray.size := by
      rcases hend with q | q
      · exact .inl q
      · exact .inr (by simp; omega)
    have d1 := draws_text (prog := X.prog) (w := X.w) (A := X.A.in1) (I.ok.hd hc) i1 x t ty hty
    have d2 := Draws.tuple (prog := X.prog) (w := X.w) (A := X.A.in1) (I.ok.hd hc) i2 b hb its2.toArray
    exact wpAny_pyNext_zipD2_end (St1 := fun i h => h.IsStrIter i1 ty x t i) (St2 := fun i h => h.IsTupleIter i2 b i ∧ h.IsTuple b its2.toArray) D d1 d2 hz hTI hTO h1 ⟨h2, p2⟩ l1 l2' he fun h' tk hk => ⟨rfl, I.turnedL (t' := tk) (ch := [z, TI, TO, i1, i2]) (fun c o hb q =>
      hk c o (fun q' => hb (by simp [q'])) (fun q' => hb (by simp [q'])) (fun q' => hb (by simp [q'])) (fun q' => hb (by simp [q'])) q) hf⟩
  self := fun A i s Q E st h => wpAny_pyIter_zip st.1 h
def iZipS (K : PySem.W.Frag) (ta : TA) : TI := fun σ H R => ta σ H fun vs H1 => ∃ (x : Str) (b : Addr) (ys : List V), vs = [.str x, .ref b] ∧ SqT K H1 b ys ∧ R (ItzS K x b) H1
theorem pi_zipS {X : Cx} {e e2 : Expr} {ta : TA} {p pos tpos : Pos} {elts : List Expr} {kk : Nat} (hg : Gl X "zip") (hm : X.mg "zip" = none) (ha : PA X [e, e2] ta)
    (hs : starEach [e, e2] X.env = (false, eval e X.env) :: starEach [e2] X.env := by rfl) (hpl : (backTo pos (starEach [e2] X.env)).any (·.1) = false := by rfl) :
    PI X (.Tuple elts kk tpos) (.Call (.Name "zip" p) [e, e2] [] pos) (iZipS X.K ta) := by
  refine ⟨fun pins s σ H R I h => ?_⟩
  refine Call_ (ld_blt I hg hm PyProof.Rows.boot_zip (PyProof.Rows.callWith_type1 (thn (ha.run pos pins s σ H _ I h) fun us s1 ⟨vs, H1, I1, r1, q1⟩ => ?_) hs hpl))
  obtain ⟨x, b, ys, ex, hqy, q⟩ := q1
  subst ex
  obtain ⟨u1, u2, rfl, r, r'⟩ := vals2 r1
  obtain ⟨t, rfl⟩ := r
  cases r'
  have fresh5 : ∀ c, c ∈ [s1.heap.objs.size + 4, s1.heap.objs.size + 2, s1.heap.objs.size + 3, s1.heap.objs.size, s1.heap.objs.size + 1] → FpOk X pins H1 c := fun c hcm => by
    have e' : c = s1.heap.objs.size + 4 ∨ c = s1.heap.objs.size + 2 ∨ c = s1.heap.objs.size + 3 ∨ c = s1.heap.objs.size ∨ c = s1.heap.objs.size + 1 := by simpa using hcm
    have hle : s1.heap.objs.size ≤ c := by omega
    exact I1.fpOk hle (I1.hok.fresh hle)
  obtain ⟨its2, rv2, p2, _⟩ := I1.tuple hqy
  obtain ⟨o2, ho2, _⟩ := id p2
  have hblt := Heap.lt_size ho2
  refine zip_begins2 (begins_text x t) (begins_tuple b its2.toArray) trivial (show s1.heap.IsTuple b its2.toArray from p2) fun h' hz hTI hTO h1 h2 hsz hk => wpAny_pyIter_zip hz ?_
  have I2 : Inv X pins σ H1 { s1 with heap := h' } := I1.kept (t' := s1.toks) hk
  have sep := zip_sep2 (N := s1.heap.objs.size) (fp1 := []) (fp2 := [b]) (fun _ q => nomatch q) (fun c q => by
    have e : c = b := by simpa using q
    rw [e]; exact hblt)
  have hty : strIterType x = "str_ascii_iterator" ∨ strIterType x = "str_iterator" := by
    unfold strIterType
    split
    · exact .inl rfl
    · exact .inr rfl
  exact ⟨s1.heap.objs.size + 4, [s1.heap.objs.size + 4, s1.heap.objs.size + 2, s1.heap.objs.size + 3, s1.heap.objs.size, s1.heap.objs.size + 1], _, _, H1, rfl, I2, turn_zipS (x := x) (t := t) hty sep (Nat.ne_of_lt (Nat.lt_succ_of_lt hblt)), ⟨hz, hTI, ⟨_, _, hTO⟩, ⟨_, h1, rfl, rfl⟩, ⟨_, h2, rfl, rfl⟩⟩, fresh5, q⟩
/-- a loop over zip of a text and a tuple of one length -/
theorem for_zipS {K : PySem.W.Frag} {b : Addr} {x : Str} {ys : List V} {g : TG} {tb : TS} {D : Ends} {σ : L2.St} {H : Hp} (hl : x.cps.size = ys.length) (Pv : Nat → L2.St → Hp → Prop) (h0 : Pv 0 σ H) (hq : ∀ i σ H, Pv i σ H → SqT K H b ys)
    (hs : ∀ (i c : Nat) (y : V) (T : Addr) (σ : L2.St) (H : Hp), x.cps[i]? = some c → ys[i]? = some y → Pv i σ H → H T = none → g (.ref T) σ (upd H T (.tup [.str ⟨#[c]⟩, y])) fun σ2 H2 => tb { D with nx := Pv (i + 1), ct := Pv (i + 1), bk := D.nx } σ2 H2) (hd : ∀ σ H, Pv ys.length σ H → D.nx σ H) :
    ∃ W : Nat → Nat → L2.St → Hp → Prop, (∃ m, W 0 m σ H) ∧ ∀ i m σ H, W i m σ H →
      ((ItzS K x b).stop i H ∧ D.nx σ H) ∨ ((ItzS K x b).go i H ∧ ∃ N : L2.St → Hp → Prop, (∀ σ' H', N σ' H' → ∃ m', m' < m ∧ W (i + 1) m' σ' H') ∧ ∀ v H', (ItzS K x b).yld i H v H' → g v σ H' fun σ2 H2 => tb { D with nx := N, ct := N, bk := D.nx } σ2 H2) := by
  refine ⟨fun i m σ H => m = ys.length - i ∧ i ≤ ys.length ∧ Pv i σ H, ⟨ys.length, rfl, Nat.zero_le _, h0⟩, ?_⟩
  rintro i m σ H ⟨rfl, hi, p⟩
  have qy := hq i σ H p
  by_cases hlt : i < ys.length
  · have hy : ys[i]? = some ys[i] := List.getElem?_eq_getElem hlt
    have hx : x.cps[i]? = some (x.cps[i]'(by omega)) := Array.getElem?_eq_getElem _
    refine .inr ⟨⟨ys, _, _, qy, hx, hy, by omega, hi⟩, Pv (i + 1), fun σ' H' p' => ⟨ys.length - (i + 1), by omega, rfl, hlt, p'⟩, fun v H' y => ?_⟩
    obtain ⟨T, c, y', rfl, hT, rfl, f1, f2⟩ := y
    exact hs i c y' T σ H f1 (f2 ys qy) p hT
  · have e : i = ys.length := by omega
    subst e
    exact .inl ⟨⟨ys, qy, by omega, Nat.le_refl _, .inr rfl⟩, hd σ H p⟩
end L2
namespace L2
namespace TS
open PySem PySem.Spec PyProof.Rows
/-! ### the set of the texts of a tuple: how many they are -/
/-- how many different ones are among the first i -/
def dist (xs : List Str) : Nat → Nat
  | 0 => 0
  | i + 1 => if (xs.take i).any (· == xs.getD i Str.empty) = true then dist xs i else dist xs i + 1
theorem dist_succ (xs : List Str) (i : Nat) : (if (xs.take i).any (· == xs.getD i Str.empty) = true then dist xs i else dist xs i + 1) = dist xs (i + 1) := rfl
theorem dist_le (xs : List Str) : ∀ i, dist xs i ≤ i
  | 0 => Nat.le_refl _
  | i + 1 => by
    unfold dist
    have := dist_le xs i
    split <;> omega
theorem take_one {α : Type} : ∀ {l : List α} {i : Nat} {x : α}, l[i]? = some x → l.take (i + 1) = l.take i ++ [x]
  | [], i, x, h => by simp at h
  | a :: l, 0, x, h => by
    have e : a = x := Option.some.inj h
    subst e
    rfl
  | a :: l, i + 1, x, h => by
    have ih := take_one (l := l) (i := i) (x := x) h
    show a :: l.take (i + 1) = a :: l.take i ++ [x]
    rw [ih]
    rfl
section
variable {prog : Program} {w : World} {A : Around} {R : Result → Shared → Prop} {I : Addr} {fp wr : List Addr} {G : Array GenState → Array GenState → Prop} {n : Nat} {P : Nat → Value → Prop} {St : Nat → Shared → Prop}
theorem loop_strs (W : WalksS prog w A.in1 I fp wr G n P St) (S : Addr) (hSf : S ∉ fp) (xs : List Str) (hsz : xs.length = n) (hn1 : n < 1000)
    (hval : ∀ i v, P i v → ∃ t, v = .str (xs.getD i Str.empty) t) :
    ∀ (k i : Nat) (s : Shared), n - i = k → i ≤ n → St i s →
      s.heap.SetOf (PySem.strKind prog w) S (fun k' => (xs.take i).any (· == k')) (dist xs i) →
      (∀ s', Moved (S :: wr) G s s' → s'.heap.SetOf (PySem.strKind prog w) S (fun k' => (xs.take n).any (· == k')) (dist xs n) → R (.ok (.ret .none)) s') →
      codeAny (model prog w) A (.builtin "set.update.loop" ⟨[.ref S, .ref I], []⟩) R s := by
  have hSw : S ∉ wr := fun h => hSf (W.sub _ h)
  have hsub : ∀ b ∈ wr, b ∈ S :: wr := fun b hb => List.mem_cons_of_mem _ hb
  intro k
  induction k with
  | zero =>
    intro i s hk hi hst hS hR
    have hin : i = n := by omega
    subst hin
    refine codeAny_builtin PyProof.Rows.F.entry_set_update_loop ?_
    rw [Around.under_plainId PyProof.Rows.F.plain_set_update_loop _]
    show wpAny _ A.in1 (pyNext (.ref I) >>= _) _ _ s
    refine wpAny_bind (W.done s _ _ hst fun s' hm => ?_)
    show wpAny _ A.in1 (ret Value.none) _ _ s'
    exact wpAny_pure (hR s' (hm.mono hsub) (by
      obtain ⟨o, es, ep, t, ho, rest⟩ := hS
      exact ⟨o, es, ep, t, hm.heap S _ hSw ho, rest⟩))
  | succ k ih =>
    intro i s hk hi hst hS hR
    have hlt : i < n := by omega
    have hdi := dist_le xs i
    refine codeAny_builtin PyProof.Rows.F.entry_set_update_loop ?_
    rw [Around.under_plainId PyProof.Rows.F.plain_set_update_loop _]
    show wpAny _ A.in1 (pyNext (.ref I) >>= _) _ _ s
    refine wpAny_bind (W.item i s _ _ hlt hst fun v s' hP hst' hm => ?_)
    obtain ⟨t, rfl⟩ := hval i v hP
    have hS' : s'.heap.SetOf (PySem.strKind prog w) S (fun k' => (xs.take i).any (· == k')) (dist xs i) := by
      obtain ⟨o, es, ep, tb, ho, rest⟩ := hS
      exact ⟨o, es, ep, tb, hm.heap S _ hSw ho, rest⟩
    show wpAny _ A.in1 (holding [Value.str (xs.getD i Str.empty) t] (setAdd S (.str (xs.getD i Str.empty) t)) >>= _) _ _ s'
    refine wpAny_bind (wpAny_holding ?_)
    unfold setAdd
    refine wpAny_holding ?_
    refine wpAny_bind ((PySem.strKind prog w).pyHash (k := xs.getD i Str.empty) (strKind_is _ _ _ _) ?_)
    refine wpAny_setAddHashed_of (knd := PySem.strKind prog w) (s := { s' with toks := s'.toks + 1 }) (strKind_is _ _ _ _) rfl hS' (by unfold scanBound; omega) fun h' hsb hS2 => ?_
    have hSi : h'.SetOf (PySem.strKind prog w) S (fun k' => (xs.take (i + 1)).any (· == k')) (dist xs (i + 1)) := by
      have hix : xs[i]? = some (xs.getD i Str.empty) := by
        rw [List.getD_eq_getElem?_getD, List.getElem?_eq_getElem (by omega)]
        rfl
      refine PyProof.Rows.SetOf_congr hS2 (fun k' => ?_) (dist_succ xs i)
      rw [take_one hix, List.any_append]
      congr 1
      by_cases e : k' = xs.getD i Str.empty
      · rw [e]; simp
      · have hb : (xs.getD i Str.empty == k') = false := by simpa [beq_iff_eq] using (fun h' : xs.getD i Str.empty = k' => e h'.symm)
        simp only [List.any_cons, List.any_nil, hb, Bool.or_false]
        exact decide_eq_false e
    refine wpAny_pure ⟨plainId_quiet PyProof.Rows.F.plain_set_update_loop _, ih (i + 1) _ (by omega) hlt (W.frame _ s' _ _ hst' (Nat.le_succ _) fun b hb o e => ?_) hSi fun s'' hm'' hS'' => ?_⟩
    · rw [hsb.2 b (fun h : b = S => hSf (by rw [← h]; exact hb))]; exact e
    · refine hR s'' (Moved.trans W.gtrans ((hm.mono hsub).then_heap (Nat.le_succ _) fun b o hb e => ?_) hm'') hS''
      rw [hsb.2 b (fun h : b = S => hb (by rw [h]; exact List.mem_cons_self))]; exact e
end
section
variable {prog : Program} {w : World} {A : Around} {E : Value → Shared → Prop} {s : Shared}
theorem call_set_strs {l : Addr} {items : Array Value} {xs : List Str} {Q : Value → Shared → Prop}
    (hh : A.handled = none) (hl : s.heap.IsTuple l items) (hi : PyProof.Rows.StrsAre items.toList xs) (hn1 : xs.length < 1000)
    (h : ∀ (h' : Heap) (tk : Nat), h'.SetOf (PySem.strKind prog w) s.heap.objs.size (fun k' => (xs.take items.size).any (· == k')) (dist xs items.size) →
      (∀ b o, b < s.heap.objs.size → s.heap.get? b = some o → h'.get? b = some o) → Q (.ref s.heap.objs.size) { s with heap := h', toks := tk }) :
    wpAny (model prog w) A (call (.type "set") [.ref l]) Q E s := by
  obtain ⟨c, tl, hmro⟩ := PySem.F.called_set.mro
  have hmade := PySem.F.called_set.made
  have hsub := PySem.F.called_set.sub
  refine wpAny_call (codeAny_of_tree ?_)
  show wpAny _ _ (callAny (.type "set") _) _ _ _
  refine wpAny_pure ⟨Code.quiet_builtin _ (by decide +kernel), codeAny_builtin PySem.F.entry_type_call ?_⟩
  rw [Around.under_plain (weight_type_call_type "set" [.ref l] []) rfl]
  have h1 := PySem.F.called_set.notType
  have h2 := PySem.F.called_set.canCreate
  have hct := PySem.F.typeCall_set_1 (.ref l)
  repeat (any_goals (first | assumption | wp_step))

  refine codeAny_mono (code_set_new_1 (.ref l) (E := E) (Q₁ := fun obj s₁ => ∃ led : Bool, obj = .ref s.heap.objs.size ∧ s₁ = { s with heap := s.heap.push { cls := .type "set", dict := none, data := .set #[] 0 (.fresh 0 0 led) } }) fun led => ⟨led, rfl, rfl⟩) fun r s₁ hr => ?_
  cases r with
  | error e => exact hr
  | ok fl =>
    cases fl with
    | ret obj =>
      obtain ⟨led, rfl, rfl⟩ := hr
      have hS : (s.heap.push { cls := .type "set", dict := none, data := .set #[] 0 (.fresh 0 0 led) }).get? s.heap.objs.size = some { cls := .type "set", dict := none, data := .set #[] 0 (.fresh 0 0 led) } := Heap.get?_push_size _ rfl
      have hT : Shared.TypeIs { s with heap := s.heap.push { cls := .type "set", dict := none, data := .set #[] 0 (.fresh 0 0 led) } } (.ref s.heap.objs.size) "set" := ⟨_, hS, rfl⟩
      have hli := PySem.F.called_set.init.lookup
      have hbi := PySem.F.called_set.init.bind (.ref s.heap.objs.size)
      repeat (any_goals (first | assumption | wp_step))

      refine codeAny_mono (codeAny_call_builtin (R := wants (fun r s₂ => r = .none ∧ ∃ h' tk, s₂ = { s with heap := h', toks := tk } ∧
          h'.SetOf (PySem.strKind prog w) s.heap.objs.size (fun k' => (xs.take items.size).any (· == k')) (dist xs items.size) ∧
          (∀ b o, b < s.heap.objs.size → s.heap.get? b = some o → h'.get? b = some o)) E) PySem.F.called_set.init.plain PySem.F.entry_set_init (check_set_init_1 hT ?_)) fun r₂ s₂ hr₂ => ?_
      · obtain ⟨ol, hol, hcl, nl, hdl⟩ := hl
        obtain ⟨ocls, odict, odata, oslots⟩ := ol
        simp only at hcl hdl
        subst hcl; subst hdl
        have hol' : (s.heap.push { cls := .type "set", dict := none, data := .set #[] 0 (.fresh 0 0 led) }).get? l = some { cls := .type "tuple", dict := odict, data := .seq items nl, slots := oslots } := Heap.get?_push_of_some _ hol
        have hsls := PySem.F.sub_tuple_set
        have hslf := PySem.F.sub_tuple_frozenset
        have hne : (Value.type "tuple" == Value.type "dict") = false := by decide
        have hl1 : (s.heap.push { cls := .type "set", dict := none, data := .set #[] 0 (.fresh 0 0 led) }).IsTuple l items := ⟨_, hol', rfl, nl, rfl⟩
        unfold Builtin.«set.__init__» noKeywords Builtin.Frozenset.updateFrom
        generalize hPI : pyIter = PI
        wp_walk
        subst hPI

        refine wpAny_pyIter_tuple hl1 ?_
        refine wpAny_bind (wpAny_runValue ?_)
        have hlS : l < s.heap.objs.size := Heap.lt_size hol
        have hh3 : A.in1.in1.in1.handled = none := by simp [hh]
        have hneI : l ≠ (s.heap.push { cls := .type "set", dict := none, data := .set #[] 0 (.fresh 0 0 led) }).objs.size := by
          rw [Heap.size_push]; exact Nat.ne_of_lt (Nat.lt_succ_of_lt hlS)
        have hSf : s.heap.objs.size ∉ [(s.heap.push { cls := .type "set", dict := none, data := .set #[] 0 (.fresh 0 0 led) }).objs.size, l] := by
          rw [Heap.size_push]; simp only [List.mem_cons, List.mem_singleton, List.not_mem_nil, or_false, not_or]
          exact ⟨Nat.ne_of_lt (Nat.lt_succ_self _), Nat.ne_of_gt hlS⟩
        have hsz : xs.length = items.size := by rw [← StrsAre.len_eq hi, Array.length_toList]
        have hval : ∀ (i : Nat) (v : Value), items[i]? = some v → ∃ t, v = .str (xs.getD i Str.empty) t := fun i v hv => SS.strs_at hi i v (by rw [Array.getElem?_toList]; exact hv)
        refine loop_strs ((Walks.tuple hh3 _ l hneI items).toS) s.heap.objs.size
          hSf xs hsz (by rw [← hsz]; exact hn1) hval (items.size - 0) 0 _ (by omega) (Nat.zero_le _)
          ⟨⟨_, Heap.get?_push_size _ rfl, rfl, rfl⟩, (hl1.push _)⟩ ?hS0 ?hR
        case hS0 =>
          have hget : ((s.heap.push { cls := .type "set", dict := none, data := .set #[] 0 (.fresh 0 0 led) }).push { cls := .type "tuple_iterator", data := .fields #[.ref l, .int 0 0] }).get? s.heap.objs.size
              = some { cls := .type "set", dict := none, data := .set #[] 0 (.fresh 0 0 led) } := Heap.get?_push_of_some _ hS
          exact PyProof.Rows.SetOf_congr ((PyProof.Rows.setObjOf_fresh (knd := PySem.strKind prog w) led).setOf hget (by unfold scanBound; omega)) (fun _ => rfl) rfl
        case hR =>
          intro s' hm hS'
          obtain ⟨h', g', d', tk', os'⟩ := s'
          have eg : g' = s.gens := hm.gens
          have ed : d' = s.drawn := hm.drawn
          have eo : os' = s.os := hm.os
          subst eg; subst ed; subst eo
          show wpAny _ _ _ _ _ _
          refine wpAny_pure ?_
          show wpAny _ _ (ret Value.none) _ _ _
          refine wpAny_pure ⟨rfl, h', tk', rfl, hS', fun b o hb e => ?_⟩
          have hb1 : b ≠ s.heap.objs.size := Nat.ne_of_lt hb
          have hb2 : b ≠ (s.heap.push { cls := .type "set", dict := none, data := .set #[] 0 (.fresh 0 0 led) }).objs.size := by
            rw [Heap.size_push]; exact Nat.ne_of_lt (Nat.lt_succ_of_lt hb)
          exact hm.heap b o (by simp only [List.mem_cons, List.mem_singleton, List.not_mem_nil, or_false, not_or]; exact ⟨hb1, hb2⟩) (Heap.get?_push_of_some _ (Heap.get?_push_of_some _ e))

      · cases r₂ with
        | error e => exact hr₂
        | ok fl₂ =>
          cases fl₂ with
          | ret r =>
            obtain ⟨rfl, h', tk, rfl, hS', hk'⟩ := hr₂
            repeat (any_goals (first | assumption | wp_step))
            exact h _ _ hS' hk'
          | _ => exact hr₂.elim
    | _ => exact hr.elim

end
/-- all are different exactly if none is left out -/
theorem dist_full (xs : List Str) : ∀ i, i ≤ xs.length → (dist xs i = i ↔ (xs.take i).Nodup)
  | 0, _ => by simp [dist]
  | i + 1, h => by
    have ih := dist_full xs i (by omega)
    have le := dist_le xs i
    have hix : xs[i]? = some (xs.getD i Str.empty) := by
      rw [List.getD_eq_getElem?_getD, List.getElem?_eq_getElem (by omega)]
      rfl
    rw [take_one hix, List.nodup_append]
    unfold dist
    by_cases e : (xs.take i).any (· == xs.getD i Str.empty) = true
    · rw [if_pos e]
      constructor
      · intro q; omega
      · rintro ⟨_, _, q⟩
        obtain ⟨y, hy, ey⟩ := List.any_eq_true.mp e
        exact absurd (beq_iff_eq.mp ey) (q y hy _ (by simp))
    · rw [if_neg e]
      constructor
      · intro q
        refine ⟨ih.mp (by omega), by simp, fun y hy z hz => ?_⟩
        have hz' : z = xs.getD i Str.empty := by simpa using hz
        rw [hz']
        intro ey
        exact e (List.any_eq_true.mpr ⟨y, hy, by simp [ey]⟩)
      · rintro ⟨q, _, _⟩
        rw [ih.mpr q]
end TS
open PySem in
/-- len(set(t)), t a tuple of texts -/
def tLenSetS (K : PySem.W.Frag) (ta : TE) : TE := fun σ H Q => ta σ H fun x H1 => ∃ (l : Addr) (xs : List Str), x = .ref l ∧ SqT K H1 l (xs.map V.str) ∧ xs.length < 1000 ∧ Q (.int (TS.dist xs xs.length : Nat)) H1
open PySem PySem.Spec PyProof.Rows in
theorem pe_lenSetS {X : Cx} {a : Expr} {ta : TE} {p p2 q pos : Pos} (hg : Gl X "len") (hm : X.mg "len" = none) (hg2 : Gl X "set") (hm2 : X.mg "set" = none) (ha : PE X a ta) (hc : X.calm = true := by rfl)
    (na : starEach [a] X.env = (false, eval a X.env) :: starEach [] X.env := by rfl) : PE X (.Call (.Name "len" p) [.Call (.Name "set" p2) [a] [] q] [] pos) (tLenSetS X.K ta) := by
  refine ⟨fun pins s σ H Q I h => ?_⟩
  refine Call_ (ld_blt I hg hm PySem.boot_len ?_)
  refine PyProof.Rows.callWith_builtin1 (PyProof.Rows.args_cons ?_ rfl) rfl rfl
  refine Call_ (ld_blt I hg2 hm2 PyProof.Rows.boot_set ?_)
  refine PyProof.Rows.callWith_type1 (PyProof.Rows.args_cons (thn (ha.run pins s σ H _ I h) fun v s1 ⟨x, H1, I1, r1, q1⟩ => PyProof.Rows.args_nil ?_) na) na rfl
  obtain ⟨l, xs, rfl, hq, h1, q1⟩ := q1
  cases r1
  obtain ⟨its, r, pl, hz⟩ := I1.tuple hq
  have hl : its.toArray.size = xs.length := by rw [List.size_toArray, ← r.length, List.length_map]
  refine TS.call_set_strs (I1.ok.hd hc) pl (by simpa using strsAre_of r) h1 fun h' tk hS hk => ?_
  refine PyProof.Rows.args_nil ?_
  rw [hl] at hS
  obtain ⟨o, es, ep, t, ho, hex, hd, _, _, _, hf, hn⟩ := hS
  have I2 : Inv X pins σ H1 { s1 with heap := h', toks := tk } := I1.kept fun b o e => hk b o (Heap.lt_size e) e
  have hdl := TS.dist_le xs xs.length
  exact call_len_set ho hex hd hf (by rw [hn] <;> omega) ⟨.int (TS.dist xs xs.length : Nat), H1, I2.tok _, ⟨_, by rw [hn]⟩, q1⟩
end L2
namespace L2
open PySem PySem.Spec PyProof.Rows
/-! ### a table of the written part, its keys texts -/
/-- the entries, key by key -/
def Ents (P : Params) : List DictEntry → List (Str × V) → Prop
  | [], [] => True
  | e :: r, (k, v) :: t => (∃ tk, e.key = .str k tk ∧ e.hash = PyData.keyHash P k) ∧ RelV v e.val ∧ Ents P r t
  | _, _ => False
/-- at a: the table tab -/
def WTab (K : PySem.W.Frag) (w : World) (a : Addr) (tab : List (Str × V)) : Prop :=
  ∃ es n, K.lookup a = some ⟨.type "dict", none, .dict es n, #[]⟩ ∧ Ents w.params es.toList tab ∧ (a == sysModules) = false
theorem Ents.lit {P : Params} : ∀ {es : List DictEntry} {tab : List (Str × V)}, Ents P es tab → PySem.W.KeysLit P es
  | [], [], _ => trivial
  | e :: r, (k, v) :: t, ⟨⟨tk, h1, h2⟩, _, h3⟩ => ⟨⟨k, tk, h1, h2⟩, h3.lit⟩
theorem Ents.noRef {P : Params} : ∀ {es : List DictEntry} {tab : List (Str × V)}, Ents P es tab → es.any (·.refKey) = false
  | [], [], _ => rfl
  | e :: r, (k, v) :: t, ⟨⟨tk, h1, _⟩, _, h3⟩ => by
    rw [List.any_cons, h3.noRef, Bool.or_false]
    unfold DictEntry.refKey
    rw [h1]
theorem Ents.find {P : Params} (z : Str) : ∀ {es : List DictEntry} {tab : List (Str × V)}, Ents P es tab → RelO (tab.lookup z) ((es.find? (·.key.isStr z)).map (·.val))
  | [], [], _ => trivial
  | e :: r, (k, v) :: t, ⟨⟨tk, h1, _⟩, h2, h3⟩ => by
    rw [List.find?_cons]
    by_cases q : z = k
    · have e1 : e.key.isStr z = true := by rw [h1, q]; exact (by show (k == k) = true; simp)
      have e2 : ((k, v) :: t).lookup z = some v := by rw [q]; simp [List.lookup]
      rw [e1, e2]
      exact h2
    · have e1 : e.key.isStr z = false := by
        rw [h1]
        show (k == z) = false
        simpa using fun h : k = z => q h.symm
      have e2 : ((k, v) :: t).lookup z = t.lookup z := by
        have : (z == k) = false := by simpa using q
        simp [List.lookup, this]
      rw [e1, e2]
      exact h3.find z
theorem WTab.ns {K : PySem.W.Frag} {w : World} {a : Addr} {tab : List (Str × V)} (T : WTab K w a tab) (z : Str) : ∃ r, PySem.W.nsIn K a z = some r ∧ RelO (tab.lookup z) r := by
  obtain ⟨es, n, hl, he, _⟩ := T
  have f := he.find z
  unfold PySem.W.nsIn
  rw [hl]
  show ∃ r, (match es.toList.find? (·.key.isStr z) with | some e => some (some e.val) | none => if es.toList.any (·.refKey) then none else some none) = some r ∧ _
  cases q : es.toList.find? (·.key.isStr z) with
  | some e =>
    rw [q] at f
    exact ⟨_, rfl, f⟩
  | none =>
    rw [q] at f
    exact ⟨none, by rw [he.noRef]; rfl, f⟩
/-- t[k], the key is there -/
def rIxW (K : PySem.W.Frag) (w : World) : R2 := fun x y H Q => ∃ p z tab v, x = .ref p ∧ y = .str z ∧ WTab K w p tab ∧ tab.lookup z = some v ∧ Q v H
def rNotInW (K : PySem.W.Frag) (w : World) : R2 := fun x y H Q => ∃ p z tab, x = .str z ∧ y = .ref p ∧ WTab K w p tab ∧ Q (.bl (!(tab.lookup z).isSome)) H
def rInW (K : PySem.W.Frag) (w : World) : R2 := fun x y H Q => ∃ p z tab, x = .str z ∧ y = .ref p ∧ WTab K w p tab ∧ Q (.bl (tab.lookup z).isSome) H
theorem RelO.isSome {a : Option V} {b : Option Value} (h : RelO a b) : b.isSome = a.isSome := by
  cases a <;> cases b <;> first | rfl | exact h.elim
section
variable {X : Cx}
theorem ix_wtab : IxR X (rIxW X.K X.w) := by
  intro value slice pins s σ H x y v u Q I rx ry h hs
  obtain ⟨p, z, tab, r, rfl, rfl, T, hlk, q⟩ := h
  obtain ⟨o, e, rel⟩ := T.ns z
  obtain ⟨es, n, hl, he, _⟩ := T
  rw [hlk] at rel
  cases o with
  | none => exact rel.elim
  | some u0 => exact ix_kdict value slice pins s σ H _ _ v u Q I rx ry ⟨p, z, r, rfl, rfl, ⟨es, n, u0, hl, he.lit, e, rel⟩, q⟩ hs
theorem op_notIn_wtab : OpR X (compareOp .NotIn) (rNotInW X.K X.w) := by
  intro pins s σ H x y v u Q I rx ry h
  obtain ⟨p, z, tab, rfl, rfl, T, q⟩ := h
  obtain ⟨o, e, rel⟩ := T.ns z
  obtain ⟨es, n, hl, he, lo⟩ := T
  obtain ⟨t, rfl⟩ := rx
  obtain rfl : u = Value.ref p := ry
  have hm := PySem.W.mapOf_K (prog := X.prog) (w := X.w) I.kIn hl he.lit
  refine wpAny_notIn_of (strKind_is X.prog X.w z t) lo hm ?_
  rw [PySem.W.find_K hl e, rel.isSome]
  exact ⟨.bl _, H, I.tok _, rfl, q⟩
theorem op_in_wtab : OpR X (compareOp .In) (rInW X.K X.w) := by
  intro pins s σ H x y v u Q I rx ry h
  obtain ⟨p, z, tab, rfl, rfl, T, q⟩ := h
  obtain ⟨o, e, rel⟩ := T.ns z
  obtain ⟨es, n, hl, he, lo⟩ := T
  obtain ⟨t, rfl⟩ := rx
  obtain rfl : u = Value.ref p := ry
  have hm := PySem.W.mapOf_K (prog := X.prog) (w := X.w) I.kIn hl he.lit
  refine wpAny_in_of (strKind_is X.prog X.w z t) lo hm ?_
  rw [PySem.W.find_K hl e, rel.isSome]
  exact ⟨.bl _, H, I.tok _, rfl, q⟩
end
/-! ### a method by its name, with its promise -/
def Mcal (P : Program) (w : World) (K : PySem.W.Frag) (mg : Str → Option Value) (base : Heap) (CX : CXT) (k : Nat) (C : Addr) (m : Str) (ps : List Str) (sp : Sp) : Prop :=
  ∃ (f : Addr) (fd : FuncData), Meth K C m f ∧ Binds K fd ps [] ∧ FnOk P w K mg base CX k f fd ps sp
theorem pe_mcal {X : Cx} {CX : CXT} {k : Nat} {C : Addr} {m : Str} {ps : List Str} {sp : Sp} {E : XK} {apos pos : Pos} {o e : Expr} {es : List Expr} {ta : TE} {t : TA} (ho : PE X o ta) (c : Cls X.K C) (M : Mcal X.prog X.w X.K X.mg X.base CX k C m ps sp) (hr : Room k X.A) (hx : Passes CX X E) (ha : PA X (e :: es) t)
    {pl : Sem Bool} (hc : eval (.Call (.Attribute o m apos) (e :: es) [] pos) X.env = (do
      let ov ← eval o X.env
      standAt apos.atName
      let (f, first) ← holding [ov] (getMethod ov m pl)
      callWith pos f first (backTo pos (starEach (e :: es) X.env)) (backToKw pos (keywordEach [] X.env))) := by rfl)
    (he : starEach (e :: es) X.env = (false, eval e X.env) :: starEach es X.env := by rfl) (hpl : (backTo pos (starEach es X.env)).any (·.1) = false := by rfl) :
    PE X (.Call (.Attribute o m apos) (e :: es) [] pos) (tMeth C m sp [] E ta t) := by
  obtain ⟨f, fd, h1, h2, h3⟩ := M
  exact pe_meth ho c h1 h3 hr h2 .nil hx ha he hpl hc
theorem pe_mcal0 {X : Cx} {CX : CXT} {k : Nat} {C : Addr} {m : Str} {ps : List Str} {sp : Sp} {E : XK} {apos pos : Pos} {o : Expr} {ta : TE} (ho : PE X o ta) (c : Cls X.K C) (M : Mcal X.prog X.w X.K X.mg X.base CX k C m ps sp) (hr : Room k X.A) (hx : Passes CX X E)
    {pl : Sem Bool} (hc : eval (.Call (.Attribute o m apos) [] [] pos) X.env = (do
      let ov ← eval o X.env
      standAt apos.atName
      let (f, first) ← holding [ov] (getMethod ov m pl)
      callWith pos f first (backTo pos (starEach [] X.env)) (backToKw pos (keywordEach [] X.env))) := by rfl) :
    PE X (.Call (.Attribute o m apos) [] [] pos) (tMeth C m sp [] E ta tNil) := by
  obtain ⟨f, fd, h1, h2, h3⟩ := M
  exact pe_meth0 ho c h1 h3 hr h2 .nil hx hc
end L2
namespace L2
open PySem PySem.Spec PyProof.Rows
/-! ### d.keys() as a value, and sorted of it -/
/-- the view d.keys() at p -/
def keysO (p d : Addr) : HO := .ext fun h => PySem.W.KdlKeysView h p d
theorem keysO_ok {P : Program} {w : World} {H : Hp} {h : Heap} {p d : Addr} (e : h.get? p = some { cls := .type "dict_keys", data := .fields #[.ref d] }) : ObjOk P w H h p (keysO p d) :=
  ⟨⟨_, e, rfl, rfl⟩, ⟨_, e⟩, fun h1 h2 x k => let ⟨o, ho, r⟩ := x; ⟨o, k o ho, r⟩⟩
section
variable {X : Cx}
def rKeysV : V → List V → Hp → VK → Prop := fun x xs H Q => ∃ (a : Addr) (kvs : List (Key × V)), x = .ref a ∧ xs = [] ∧ Rd H a (.dK kvs) ∧ ∀ p, H p = none → Q (.ref p) (upd H p (keysO p a))
theorem mt_keysV : MtR X "dict.keys" rKeysV := by
  intro pins s σ H x xs v us Q I rx rxs h
  obtain ⟨a, kvs, rfl, rfl, ha, q⟩ := h
  cases rx
  cases rxs
  obtain ⟨z, lo, vs, rel, dd⟩ := dk_rd I.hok ha
  have hf : H s.heap.objs.size = none := I.hok.fresh (Nat.le_refl _)
  refine call_meetsIn PySem.F.slot_dict_keys dd.typeIs PySem.F.entry_dict_keys (PySem.F.args_dict_keys_1 _) (PySem.W.kdl_meets_keys (mixKind X.prog X.w) a lo) ⟨⟨vs, dd⟩, ?_⟩
  exact ⟨.ref s.heap.objs.size, upd H s.heap.objs.size (keysO s.heap.objs.size a), I.laid (t' := s.toks) (fun b u e => Heap.get?_push_of_some _ e) (Nat.le_refl _) (keysO_ok (Heap.get?_push_size _ rfl)), rfl, q _ hf⟩
/-- sorted(d.keys()), fewer than 64 keys, all texts -/
def rSortKV : List V → Hp → VK → Prop := fun xs H Q => ∃ (p a : Addr) (kvs : List (Key × V)) (ks : List Str), xs = [.ref p] ∧ H p = some (keysO p a) ∧ Rd H a (.dK kvs) ∧ kvs.map (·.1) = ks.map Sum.inr ∧ ks.length < 64 ∧
    ∀ ys q, ys.Perm ks → sortedS ys = true → H q = none → Q (.ref q) (upd H q (.lst (ys.map V.str)))
theorem call_sortedKV (hcalm : X.calm = true) : CallR X (.builtin "sorted") rSortKV := by
  intro pins s σ H xs us Q I r q
  obtain ⟨p, a, kvs, ks, rfl, hp, hd, hks, h64, q⟩ := q
  obtain ⟨u, rfl, rx⟩ := vals1 r
  cases rx
  have hview : PySem.W.KdlKeysView s.heap p a := (I.hok p _ hp).1
  obtain ⟨z, lo, vs, rel, dd⟩ := dk_rd I.hok hd
  obtain ⟨ep, hat⟩ := dd.dictAt
  have hkeys : vs.map (·.1) = ks.map Sum.inr := rel.keys.symm.trans hks
  have hl : vs.length = ks.length := by simpa using congrArg List.length hkeys
  refine Calls.call_function_entry PyProof.Rows.kind_sorted PyProof.Rows.plain_sorted PyProof.Rows.entry_sorted (PyProof.Rows.args_sorted1 _) ?_
  unfold Builtin.«sorted»
  refine wpAny_bind (m := checkCount "sorted" 1 1 _) (wpAny_pure ?_)
  refine wpAny_bind (PySem.W.kdu_collect (A := X.A.in1) (PySem.W.kdl_keys (knd := mixKind X.prog X.w) (r := p) (d := a) (kvs := vs) (ep := ep)) (I.ok.hd hcalm) ⟨hview, hat⟩ (by rw [hl, sizeLine_eq]; omega) fun h' tk acc hk hacc => ?_)
  have hal : acc.toList.length = ks.length := by rw [Array.length_toList, hacc.1, hl]
  have hS : StrsAre acc.toList ks := strs_at hal fun j v e => by
    obtain ⟨k, x, e1, e2⟩ := hacc.2 j v (by rw [← Array.getElem?_toList]; exact e)
    have e3 : (vs.map (·.1))[j]? = some k := by rw [List.getElem?_map, e1]; rfl
    rw [hkeys, List.getElem?_map] at e3
    cases e4 : ks[j]? with
    | none => rw [e4] at e3; cases e3
    | some y =>
      rw [e4] at e3
      obtain rfl : Sum.inr y = k := Option.some.inj e3
      obtain ⟨t, ev⟩ := Value.isStrOf_shape (x := y) (v := v) e2
      exact ⟨y, t, rfl, ev⟩
  have I1 : Inv X pins σ H { s with heap := h', toks := tk } := I.kept hk
  refine wpAny_bind (wpAny_newList ?_ (by rw [hal, sizeLine_eq]; omega))
  have hoL : (h'.push (seqObj "list" acc.toList.toArray 0)).get? h'.objs.size = some (seqObj "list" acc.toList.toArray 0) := Heap.get?_push_size _ rfl
  show wpAny _ _ _ _ _ { s with heap := h'.push (seqObj "list" acc.toList.toArray 0), toks := tk }
  refine wpAny_bind (wpAny_holding (wpAny_call_entry PyProof.Rows.slot_list_sort ⟨_, hoL, rfl⟩ PyProof.Rows.entry_list_sort
    (list_sort_treeK strKind_oneLt (s := { s with heap := h'.push (seqObj "list" acc.toList.toArray 0), toks := tk }) hoL hS.keysOf (fun v₁ v₂ rest e => keyKind_strs (by rw [← e]; exact hS)) (by rw [hal]; exact h64) fun st' hp' hs => ⟨_, rfl, ?_⟩)
    (PyProof.Rows.args_list_sort _)))
  obtain ⟨ys, g1, g2, g3⟩ := sorted_out_str hS hp' hs
  obtain ⟨e', he'⟩ := PyProof.Rows.sortedHeap_at (vs := acc.toList) (out := (arrOf st').map (·.2)) hoL
  have hlen : (ys.map V.str).length ≤ sizeLine := by
    rw [List.length_map, g2.length_eq, sizeLine_eq]
    omega
  refine wpAny_pure ⟨_, rfl, .ref h'.objs.size, upd H h'.objs.size (.lst (ys.map V.str)), I1.laid (t' := tk) (fun b u e => ?_) (Nat.le_refl _)
    (show ObjOk X.prog X.w _ _ _ (.lst (ys.map V.str)) from ⟨hlen, ((arrOf st').map (·.2)).toList, e', vals_of_strs g1, by rw [Array.toArray_toList]; exact he'⟩), rfl, q ys _ g2 g3 (I1.hok.fresh (Nat.le_refl _))⟩
  have hb : b < h'.objs.size := Heap.lt_size e
  rw [PyProof.Rows.sortedHeap_old (Nat.ne_of_lt hb) (by rw [size_push']; exact Nat.lt_succ_of_lt hb)]
  exact Heap.get?_push_of_some _ e
end
/-- a dict comprehension over what is walked -/
theorem dc_it {J : It} {n : Nat} {G : Hp → Prop} {Y : Nat → Hp → V → Hp → Prop} (w : Walk J n G Y) {g : TG} {tt : TT} {tk tv : TE} {vs : List Nat} {σ : L2.St} {H1 : Hp} {D : Addr} {Qd : Hp → Prop} (Pv : Nat → Hp → Prop) (h0 : Pv 0 (upd H1 D (.dK []))) (hG : ∀ i H, i ≤ n → Pv i H → G H)
    (hs : ∀ i x H H', i < n → Pv i H → Y i H x H' → g x (wipe σ vs) H' fun σ2 H2 => wipe σ2 vs = wipe σ vs ∧ tt σ2 H2 fun b H3 =>
      if b = true then tk σ2 H3 fun y H4 => tv σ2 H4 fun z H5 => ∃ kvs k, y = kV k ∧ H5 D = some (.dK kvs) ∧ kvs.length < sizeLine ∧ Pv (i + 1) (upd H5 D (.dK (putK kvs k z))) else Pv (i + 1) H3) (hd : ∀ H, Pv n H → Qd H) :
    ∃ W : Nat → Nat → Hp → Prop, (∃ m, W 0 m (upd H1 D (.dK []))) ∧ ∀ i m H, W i m H →
      (J.stop i H ∧ Qd H) ∨ (J.go i H ∧ ∃ Nx : Hp → Prop, (∀ H', Nx H' → ∃ m', m' < m ∧ W (i + 1) m' H') ∧ ∀ x H', J.yld i H x H' → g x (wipe σ vs) H' fun σ2 H2 => wipe σ2 vs = wipe σ vs ∧ tt σ2 H2 fun b H3 =>
        if b = true then tk σ2 H3 fun y H4 => tv σ2 H4 fun z H5 => ∃ kvs k, y = kV k ∧ H5 D = some (.dK kvs) ∧ kvs.length < sizeLine ∧ Nx (upd H5 D (.dK (putK kvs k z))) else Nx H3) := by
  refine ⟨fun i m H => m = n - i ∧ i ≤ n ∧ Pv i H, ⟨n, by simp, Nat.zero_le _, h0⟩, ?_⟩
  rintro i m H ⟨rfl, hi, p⟩
  have q := hG i H hi p
  by_cases hlt : i < n
  · exact .inr ⟨w.goes i H hlt q, Pv (i + 1), fun H' p' => ⟨n - (i + 1), by omega, rfl, hlt, p'⟩, fun x H' y => hs i x H H' hlt p (w.yields i H x H' hlt q y)⟩
  · have e : i = n := by omega
    subst e
    exact .inl ⟨w.stops H q, hd H p⟩
end L2
namespace L2
open PySem PySem.Spec PyProof.Rows
/-! ### sorted, where the tuples of ints stand in order already -/
def sh0 : Nat → Bool := fun _ => false
abbrev pK (k : List Int) : List (Int ⊕ List Nat) := k.map Sum.inl
def pLt (a b : List Int) : Bool := PyProof.Rows.lexLt PyProof.Rows.itemOrd (pK a) (pK b)
theorem perm_same {α : Type} {R : α → α → Bool} (hi : ∀ a, R a a = false) : ∀ {l2 l1 : List α}, l1.Perm l2 → l2.Pairwise (fun a b => R a b = true) → l1.Pairwise (fun a b => R b a = false) → l1 = l2
  | [], l1, hp, _, _ => List.Perm.eq_nil hp
  | b :: t, [], hp, _, _ => absurd hp.length_eq (by simp)
  | b :: t, a :: s, hp, h2, h1 => by
    obtain ⟨hb, ht⟩ := List.pairwise_cons.mp h2
    obtain ⟨ha, hs⟩ := List.pairwise_cons.mp h1
    have e : a = b := by
      rcases List.mem_cons.mp (hp.mem_iff.mp (List.mem_cons_self (a := a) (l := s))) with e | e
      · exact e
      · have hR := hb a e
        rcases List.mem_cons.mp (hp.mem_iff.mpr (List.mem_cons_self (a := b) (l := t))) with e' | e'
        · exact e'.symm
        · have := ha b e'
          rw [hR] at this
          cases this
    subst e
    rw [perm_same hi (List.perm_cons a |>.mp hp) ht hs]
def KeyAt (h : Heap) (v : Value) (k : List Int) : Prop := PyProof.Rows.G.tupKeyC h sh0 v = some (pK k)
def keyV (h : Heap) (v : Value) : List (Int ⊕ List Nat) := (PyProof.Rows.G.tupKeyC h sh0 v).getD []
theorem zip_self_eq {α : Type} {l : List α} {p : α × α} (h : p ∈ l.zip l) : p.1 = p.2 := (PyProof.Rows.mem_zip_self h).1
theorem zip_snd {α : Type} : ∀ l : List α, (l.zip l).map (·.2) = l
  | [] => rfl
  | a :: r => by rw [List.zip_cons_cons, List.map_cons, zip_snd r]
theorem sort_same {h : Heap} {vs : List Value} {ks : List (List Int)} (hv : Paired (KeyAt h) vs ks) (hs : ks.Pairwise fun a b => pLt a b = true) {arr : Array Keyed} (hp : arr.Perm (pairsOf vs)) (hk : SortedToK (PyProof.Rows.G.tupKindC h sh0) arr (pairsOf vs).size) : arr.map (·.2) = vs.toArray := by
  have hpl : arr.toList.Perm (vs.zip vs) := by
    have := Array.perm_iff_toList_perm.mp hp
    rw [pairsOf_toList] at this
    exact this
  have h1 : (arr.toList.map (·.2)).Perm vs := by
    have := hpl.map (·.2)
    rw [zip_snd] at this
    exact this
  have heq : ∀ p ∈ arr.toList, p.1 = p.2 := fun p hp' => zip_self_eq (hpl.mem_iff.mp hp')
  have hsz : (pairsOf vs).size = arr.toList.length := by rw [Array.length_toList]; exact hp.size_eq.symm
  have h2 : vs.Pairwise (fun a b => PyProof.Rows.lexLt PyProof.Rows.itemOrd (keyV h a) (keyV h b) = true) := by
    clear h1 hpl hk hp heq hsz
    induction hv with
    | nil => exact .nil
    | @cons a b l1 l2 hab t ih =>
      obtain ⟨p1, p2⟩ := List.pairwise_cons.mp hs
      refine List.pairwise_cons.mpr ⟨fun x hx => ?_, ih p2⟩
      obtain ⟨k, hk1, hk2⟩ : ∃ k ∈ l2, KeyAt h x k := by
        clear ih p1 p2 hs
        induction t with
        | nil => cases hx
        | @cons a' b' m1 m2 hab' t' ih' =>
          rcases List.mem_cons.mp hx with rfl | hx
          · exact ⟨b', List.mem_cons_self, hab'⟩
          · obtain ⟨k, q1, q2⟩ := ih' hx
            exact ⟨k, List.mem_cons_of_mem _ q1, q2⟩
      have := p1 k hk1
      unfold keyV
      rw [show PyProof.Rows.G.tupKeyC h sh0 a = _ from hab, show PyProof.Rows.G.tupKeyC h sh0 x = _ from hk2]
      exact this
  have h3 : (arr.toList.map (·.2)).Pairwise (fun a b => PyProof.Rows.lexLt PyProof.Rows.itemOrd (keyV h b) (keyV h a) = false) := by
    rw [List.pairwise_map, List.pairwise_iff_getElem]
    intro i j hi hj hij
    have := hk i j (Nat.le_of_lt hij) (by rw [hsz]; exact hj)
    have e : ∀ (i : Nat) (hi : i < arr.toList.length), KK (PyProof.Rows.G.tupKindC h sh0) arr i = keyV h (arr.toList[i].2) := fun i hi => by
      have g : arr[i]? = some arr.toList[i] := by rw [← Array.getElem?_toList, List.getElem?_eq_getElem hi]
      unfold KK
      rw [g]
      show (PyProof.Rows.G.tupKeyC h sh0 arr.toList[i].1).getD [] = _
      rw [heq _ (List.getElem_mem hi)]
      rfl
    rw [e i hi, e j hj] at this
    exact this
  have h4 := perm_same (R := fun a b => PyProof.Rows.lexLt PyProof.Rows.itemOrd (keyV h a) (keyV h b)) (fun a => PyProof.Rows.lex_irrefl _) h1 h2 h3
  apply Array.ext'
  rw [Array.toList_map, h4]
theorem items_ints : ∀ {k : List Int} {its : List Value} (i : Nat), Vals (k.map V.int) its → PyProof.Rows.tupItems sh0 i its = some (pK k)
  | [], [], i, .nil => rfl
  | n :: r, _ :: _, i, .cons h t => by
    obtain ⟨tk, rfl⟩ := h
    show (if sh0 i = true then none else (PyProof.Rows.tupItems sh0 (i + 1) _).map (Sum.inl n :: ·)) = _
    rw [items_ints (i + 1) t]
    rfl
theorem tup_key {h : Heap} {a : Addr} {k : List Int} {its : List Value} (hv : Vals (k.map V.int) its) (ht : IsTup h a its.toArray) : KeyAt h (.ref a) k := by
  obtain ⟨o, h1, h2, n, h3⟩ := ht
  exact PyProof.Rows.G.tupKeyC_of h1 h2 h3 (items_ints 0 hv)
theorem tup_first {h : Heap} {a : Addr} {k : List Int} {its : List Value} (hn : k ≠ []) (hv : Vals (k.map V.int) its) (ht : IsTup h a its.toArray) : ∃ f, PyProof.Rows.TupOf h sh0 (.ref a) f := by
  obtain ⟨o, h1, h2, n, h3⟩ := ht
  cases k with
  | nil => exact absurd rfl hn
  | cons x r =>
    cases hv with
    | cons hx t =>
      obtain ⟨tk, rfl⟩ := hx
      exact ⟨_, a, o, _, n, rfl, h1, h2, h3, rfl, fun _ => ⟨x, tk, rfl⟩, fun z => by cases z⟩
theorem tups_of {h : Heap} : ∀ {vs : List Value}, (∀ v ∈ vs, ∃ f, PyProof.Rows.TupOf h sh0 v f) → ∃ fs, PyProof.Rows.TupsOf h sh0 vs fs
  | [], _ => ⟨[], .nil⟩
  | v :: r, hv => by
    obtain ⟨f, hf⟩ := hv v List.mem_cons_self
    obtain ⟨fs, hfs⟩ := tups_of (vs := r) fun x hx => hv x (List.mem_cons_of_mem _ hx)
    exact ⟨f :: fs, .cons hf hfs⟩
theorem paired_all {h : Heap} {qs : List Addr} {ks : List (List Int)} (hq : Paired (fun (q : Addr) k => k ≠ [] ∧ ∃ its, Vals (k.map V.int) its ∧ IsTup h q its.toArray) qs ks) : Paired (KeyAt h) (qs.map Value.ref) ks ∧ ∀ v ∈ qs.map Value.ref, (∃ f, PyProof.Rows.TupOf h sh0 v f) ∧ ∃ l, PyProof.Rows.G.tupKeyC h sh0 v = some l := by
  induction hq with
  | nil => exact ⟨.nil, fun v hv => (List.not_mem_nil hv).elim⟩
  | @cons a b l1 l2 hab t ih =>
    obtain ⟨hn, its, h1, h2⟩ := hab
    have hk := tup_key h1 h2
    refine ⟨.cons hk ih.1, fun v hv => ?_⟩
    rcases List.mem_cons.mp hv with rfl | hv
    · exact ⟨tup_first hn h1 h2, _, hk⟩
    · exact ih.2 v hv
theorem vals_refs : ∀ qs : List Addr, Vals (qs.map V.ref) (qs.map Value.ref)
  | [] => .nil
  | q :: r => .cons rfl (vals_refs r)
section
variable {X : Cx} {pins : List (Addr × Obj)} {σ : St} {H : Hp} {s : Shared}
/-- tuples of ints at qs -/
abbrev TupsAt (H : Hp) : List Addr → List (List Int) → Prop := Paired fun q k => H q = some (.tup (k.map V.int))
theorem TupsAt.raw {h : Heap} {qs : List Addr} {ks : List (List Int)} (hok : HOk X.prog X.w H h) (hne : ∀ k ∈ ks, k ≠ []) (t : TupsAt H qs ks) : Paired (fun (q : Addr) k => k ≠ [] ∧ ∃ its, Vals (k.map V.int) its ∧ IsTup h q its.toArray) qs ks := by
  induction t with
  | nil => exact .nil
  | @cons a b l1 l2 hab t ih =>
    obtain ⟨_, its, r, tt⟩ := (show ObjOk X.prog X.w H h a (.tup (b.map V.int)) from hok a _ hab)
    exact .cons ⟨hne b List.mem_cons_self, its, r, tt⟩ (ih fun k hk => hne k (List.mem_cons_of_mem _ hk))
theorem raw_keep {h h' : Heap} {qs : List Addr} {ks : List (List Int)} (k : ∀ b o, h.get? b = some o → h'.get? b = some o) (t : Paired (fun (q : Addr) k => k ≠ [] ∧ ∃ its, Vals (k.map V.int) its ∧ IsTup h q its.toArray) qs ks) : Paired (fun (q : Addr) k => k ≠ [] ∧ ∃ its, Vals (k.map V.int) its ∧ IsTup h' q its.toArray) qs ks := by
  induction t with
  | nil => exact .nil
  | cons hab t ih =>
    obtain ⟨h1, its, h2, o, h3, h4⟩ := hab
    exact .cons ⟨h1, its, h2, o, k _ _ h3, h4⟩ ih
end
section
variable {X : Cx}
/-- sorted(xs), xs a list of tuples of ints in order: the same again -/
def rSortTs (K : PySem.W.Frag) : List V → Hp → VK → Prop := fun vs H Q => ∃ (a : Addr) (qs : List Addr) (ks : List (List Int)), vs = [.ref a] ∧ H a = some (.lst (qs.map V.ref)) ∧ TupsAt H qs ks ∧ (∀ k ∈ ks, k ≠ []) ∧ (ks.Pairwise fun a b => pLt a b = true) ∧
  ∀ p, H p = none → Q (.ref p) (upd H p (.lst (qs.map V.ref)))
theorem call_sortT : CallR X (.builtin "sorted") (rSortTs X.K) := by
  intro pins s σ H vs us Q I r h
  obtain ⟨a, qs, ks, rfl, hs, ht, hne, hp, q⟩ := h
  obtain ⟨its, rv, hl, hz⟩ := I.list (.inl (.inl hs))
  rw [Vals.ref1 r]
  obtain rfl : its = qs.map Value.ref := by
    clear hl hz hs ht q
    induction qs generalizing its with
    | nil => cases rv; rfl
    | cons b t ih =>
      cases rv with
      | cons h1 h2 =>
        rw [List.map_cons, ← ih _ h2]
        exact congrArg (· :: _) h1
  have raw := TupsAt.raw (X := X) I.hok hne ht
  obtain ⟨g1, g2⟩ := paired_all raw
  obtain ⟨fs, hfs⟩ := tups_of fun v hv => (g2 v hv).1
  refine PyProof.Rows.G.sorted_tups hl.isList hfs (fun v hv => (g2 v hv).2) (by rw [← rv.length]; exact hz) fun st' hp' hs' _ => ?_
  rw [sort_same g1 hp hp' hs']
  obtain ⟨ep, he'⟩ := PyProof.Rows.sortedAll_at s.heap (qs.map Value.ref) (qs.map Value.ref).toArray
  exact ⟨.ref _, upd H (s.heap.objs.size + 1) (.lst (qs.map V.ref)), I.laid (t' := s.toks) (fun _ _ => PyProof.Rows.sortedAll_old) (Nat.le_succ _) ⟨by rw [rv.length]; exact rv.length ▸ hz, qs.map Value.ref, ep, vals_refs qs, he'⟩, rfl, q _ (I.hok.fresh (Nat.le_succ _))⟩
end
end L2
namespace L2
open PySem PySem.Spec PyProof.Rows
section
variable {prog : Program} {w : World}
theorem meetsKeys {d : Addr} {es : Array DictEntry} {ep : Nat} (hd : (d == sysModules) = false) :
    MeetsIn prog w (Builtin.«dict.keys» ⟨[.ref d], []⟩) (fun _ R s => s.heap.DictRaw d es ep ∧
      R (.ok (.ret (.ref s.heap.objs.size))) { s with heap := s.heap.push { cls := .type "dict_keys", data := .fields #[.ref d] } }) :=
  .of_wp fun A R s ⟨hm, h⟩ => by
    unfold Builtin.«dict.keys»
    refine wpAny_bind ?_
    unfold Builtin.Dict.noArgs
    refine wpAny_bind (wpAny_notOrdered_dict hm.typeIs ?_)
    show wpAny _ _ (pure d) _ _ s
    refine wpAny_pure ?_
    show wpAny _ _ (Builtin.Dict.showsAll d >>= _) _ _ s
    unfold Builtin.Dict.showsAll
    rw [if_neg (by rw [hd]; exact Bool.false_ne_true)]
    refine wpAny_bind (wpAny_pure ?_)
    exact wpAny_bind (wpAny_newObj_type (wpAny_pure ⟨_, rfl, h⟩))
end
section
variable {X : Cx}
def rKeysVT : V → List V → Hp → VK → Prop := fun x xs H Q => ∃ (a : Addr) (kvs : List (List Key × V)), x = .ref a ∧ xs = [] ∧ Rd H a (.dT kvs) ∧ ∀ p, H p = none → Q (.ref p) (upd H p (keysO p a))
theorem mt_keysVT : MtR X "dict.keys" rKeysVT := by
  intro pins s σ H x xs v us Q I rx rxs h
  obtain ⟨a, kvs, rfl, rfl, ha, q⟩ := h
  cases rx
  cases rxs
  obtain ⟨z, hd, xs', rel, o, es, ep, ho, hx, hdat, _⟩ := dt_rd I.hok ha
  have hf : H s.heap.objs.size = none := I.hok.fresh (Nat.le_refl _)
  refine call_meetsIn PySem.F.slot_dict_keys (Heap.DictRaw.typeIs (es := es) (ep := ep) ⟨o, ho, hx, hdat⟩) PySem.F.entry_dict_keys (PySem.F.args_dict_keys_1 _) (meetsKeys (es := es) (ep := ep) hd) ⟨⟨o, ho, hx, hdat⟩, ?_⟩
  exact ⟨.ref s.heap.objs.size, upd H s.heap.objs.size (keysO s.heap.objs.size a), I.laid (t' := s.toks) (fun b u e => Heap.get?_push_of_some _ e) (Nat.le_refl _) (keysO_ok (Heap.get?_push_size _ rfl)), rfl, q _ hf⟩
theorem kt_tups {H : Hp} : ∀ {kvs : List (List Key × V)} {xs : List (List Key × Addr × Value)} {ks : List (List Int)}, KT H kvs xs → kvs.map (·.1) = ks.map (fun k => k.map Sum.inl) → TupsAt H (xs.map fun x => x.2.1) ks
  | [], [], ks, .nil, e => by
    cases ks with
    | nil => exact .nil
    | cons _ _ => cases e
  | p :: l, q :: m, ks, .cons h t, e => by
    cases ks with
    | nil => cases e
    | cons k r =>
      injection e with e1 e2
      refine .cons ?_ (kt_tups t e2)
      have h2 := h.2.1
      have e1 : p.1 = k.map Sum.inl := e1
      rw [e1, List.map_map] at h2
      exact h2
/-- sorted(d.keys()), the keys tuples of ints in order -/
def rSortKVT : List V → Hp → VK → Prop := fun xs H Q => ∃ (p a : Addr) (kvs : List (List Key × V)) (ks : List (List Int)), xs = [.ref p] ∧ H p = some (keysO p a) ∧ Rd H a (.dT kvs) ∧ kvs.map (·.1) = ks.map (fun k => k.map Sum.inl) ∧ (∀ k ∈ ks, k ≠ []) ∧ (ks.Pairwise fun a b => pLt a b = true) ∧
    ∀ (qs : List Addr) (q : Addr), TupsAt H qs ks → H q = none → Q (.ref q) (upd H q (.lst (qs.map V.ref)))
theorem call_sortedKVT (hcalm : X.calm = true) : CallR X (.builtin "sorted") rSortKVT := by
  intro pins s σ H xs us Q I r q
  obtain ⟨p, a, kvs, ks, rfl, hp, hd, hks, hne, hpw, q⟩ := q
  obtain ⟨u, rfl, rx⟩ := vals1 r
  cases rx
  have hview : PySem.W.KdlKeysView s.heap p a := (I.hok p _ hp).1
  obtain ⟨z, lo, vs, rel, o, es, ep, ho, hx, hdat, hes, _, _⟩ := dt_rd I.hok hd
  have hta := kt_tups rel hks
  have hvl : vs.length = kvs.length := by
    have := Paired.length rel
    exact this.symm
  have hsz : es.size = vs.length := by rw [← Array.length_toList, hes, List.length_map]
  refine Calls.call_function_entry PyProof.Rows.kind_sorted PyProof.Rows.plain_sorted PyProof.Rows.entry_sorted (PyProof.Rows.args_sorted1 _) ?_
  unfold Builtin.«sorted»
  refine wpAny_bind (m := checkCount "sorted" 1 1 _) (wpAny_pure ?_)
  refine wpAny_bind (PySem.W.kdu_collect (A := X.A.in1) (KdlSrc.rawKeys (r := p) (d := a) (es := es) (ep := ep)) (I.ok.hd hcalm) ⟨hview, ⟨o, ho, hx, hdat⟩⟩ (by rw [hsz, hvl]; exact z) fun h' tk acc hk hacc => ?_)
  have hacl : acc.toList = (vs.map fun x => x.2.1).map Value.ref := by
    refine List.ext_getElem? fun j => ?_
    rw [List.map_map, List.getElem?_map]
    by_cases hj : j < acc.size
    · have hj2 : j < vs.length := by rw [← hsz, ← hacc.1]; exact hj
      obtain ⟨hi, ev⟩ := hacc.2 j acc[j] (Array.getElem?_eq_getElem hj)
      rw [Array.getElem?_toList, Array.getElem?_eq_getElem hj, List.getElem?_eq_getElem hj2, ev]
      have : es[j]? = some (entryOfKey (tupleKind (mixKind X.prog X.w)) vs[j]) := by
        rw [← Array.getElem?_toList, hes, List.getElem?_map, List.getElem?_eq_getElem hj2]
        rfl
      rw [Array.getElem?_eq_getElem hi] at this
      rw [Option.some.inj this]
      rfl
    · rw [Array.getElem?_toList, Array.getElem?_eq_none (by omega), List.getElem?_eq_none (by have := hacc.1; omega)]
      rfl
  rw [hacl]
  generalize (vs.map fun x => x.2.1) = qs at hta hacl
  have hql : qs.length = kvs.length := by
    have h1 := congrArg List.length hacl
    rw [Array.length_toList, List.length_map, hacc.1, hsz, hvl] at h1
    exact h1.symm
  have I1 : Inv X pins σ H { s with heap := h', toks := tk } := I.kept hk
  refine wpAny_bind (wpAny_newList ?_ (by rw [List.length_map, hql]; exact z))
  have hoL : (h'.push (seqObj "list" (qs.map Value.ref).toArray 0)).get? h'.objs.size = some (seqObj "list" (qs.map Value.ref).toArray 0) := Heap.get?_push_size _ rfl
  show wpAny _ _ _ _ _ { s with heap := h'.push (seqObj "list" (qs.map Value.ref).toArray 0), toks := tk }
  have raw := raw_keep (h' := h'.push (seqObj "list" (qs.map Value.ref).toArray 0)) (fun b o e => Heap.get?_push_of_some _ e) (TupsAt.raw (X := X) I1.hok hne hta)
  obtain ⟨g1, g2⟩ := paired_all raw
  obtain ⟨fs, hfs⟩ := tups_of fun v hv => (g2 v hv).1
  refine wpAny_bind (wpAny_holding (wpAny_call_entry PyProof.Rows.slot_list_sort ⟨_, hoL, rfl⟩ PyProof.Rows.entry_list_sort
    (PyProof.Rows.G.list_sort_tups (s := { s with heap := h'.push (seqObj "list" (qs.map Value.ref).toArray 0), toks := tk }) hoL hfs (fun v hv => (g2 v hv).2) (by rw [List.length_map, hql]; exact z) fun st' hp' hs' _ => ⟨_, rfl, ?_⟩)
    (PyProof.Rows.args_list_sort _)))
  have hout := sort_same g1 hpw hp' hs'
  obtain ⟨e', he'⟩ := PyProof.Rows.sortedHeap_at (vs := qs.map Value.ref) (out := (arrOf st').map (·.2)) hoL
  rw [hout] at he'
  refine wpAny_pure ⟨_, rfl, .ref h'.objs.size, upd H h'.objs.size (.lst (qs.map V.ref)), I1.laid (t' := tk) (fun b u e => ?_) (Nat.le_refl _)
    (show ObjOk X.prog X.w _ _ _ (.lst (qs.map V.ref)) from ⟨by rw [List.length_map, hql]; exact z, qs.map Value.ref, e', vals_refs qs, by rw [hout]; exact he'⟩), rfl, q qs _ hta (I1.hok.fresh (Nat.le_refl _))⟩
  have hb : b < h'.objs.size := Heap.lt_size e
  rw [PyProof.Rows.sortedHeap_old (Nat.ne_of_lt hb) (by rw [size_push']; exact Nat.lt_succ_of_lt hb)]
  exact Heap.get?_push_of_some _ e
end
end L2
namespace L2
open PySem PySem.Spec PyProof.Rows
/-- isinstance(e, c), e the caught exception, with fields of its own -/
def rIsEd (K : PySem.W.Frag) (cls : Value) (d : Option Addr) (C a : Addr) : List V → Hp → VK → Prop := fun xs H Q => ∃ (c : V) (u : Value) (b : Bool) (dd : Addr) (fs : List (Str × V)), xs = [.ref a, c] ∧ ClsV c u ∧ cls = .ref C ∧ d = some dd ∧ H dd = some (.xd fs) ∧ PySem.W.kitOne K (.ref C) u = some b ∧ Q (.bl b) H
theorem call_isEd {X : Cx} {a C : Addr} {oe : Obj} {cls : Value} {d : Option Addr} {pn : List (Addr × Obj)} (T : XAsk X.K C) (hz : Zc cls d oe) (hf : ∃ vs, oe.data = .fields vs) : CallR (X.suite a ((a, oe) :: pn)) (.builtin "isinstance") (rIsEd X.K cls d C a) := by
  intro pins s σ H xs us Q I r h
  obtain ⟨c, u, b, dd, fs, rfl, k, ec, ed, ea, e, q⟩ := h
  obtain ⟨u1, u2, rfl, r1, r2⟩ := vals2 r
  have e2 := k.eq r2
  subst e2
  obtain rfl : u1 = Value.ref a := r1
  subst ec
  subst ed
  obtain ⟨ha, _⟩ := I.pin (a, oe) (List.mem_append_left _ List.mem_cons_self)
  obtain ⟨vs, hd⟩ := hf
  have hx : ObjOk X.prog X.w H s.heap dd (.xd fs) := I.hok dd _ ea
  obtain ⟨mA, hns, hr⟩ := hx
  obtain ⟨od, ho, hl⟩ := lookIn_ns hns
  have J : PySem.W.InstAt s.heap a oe C (some od) := ⟨ha, hz.1, by unfold PySem.W.notCls; rw [hd] <;> rfl, by rw [hz.2]; exact ho⟩
  obtain ⟨cd, hc, _⟩ := PySem.W.any_some T.hd
  exact PySem.W.kia_one (PySem.W.kitx_exc (by rw [hc]; rfl) T.hg T.hk T.hs T.ha T.hn T.ht T.hm) I.kIn J e (fun z => nomatch z) fun tk => ⟨.bl b, H, I.tok tk, rfl, q⟩
end L2
namespace L2
open PySem PySem.Spec PyProof.Rows
/-- as pmk_x; the context of the new exception is None -/
theorem pmk_xN {X : Cx} {x : Str} {C : Addr} {n k : Nat} {e : Expr} {es : List Expr} {ta : TA} {p pos : Pos} {gV : List V → List V → List (Str × V)} (M : XMk X.prog X.w X.K C n [] gV) (hr : Room k X.A) (hg : Gl X x) (hm : X.mg x = some (.ref C)) (kp : PySem.W.keepIn X.K (.ref C) = true) (rs : Raises X (.ref C)) (ha : PA X (e :: es) ta)
    (hdb : (x == ("__debug__" : Str)) = false := by decide) (he : starEach (e :: es) X.env = (false, eval e X.env) :: starEach es X.env := by rfl) (hpl : (backTo pos (starEach es X.env)).any (·.1) = false := by rfl) :
    L2N.PMk X (.Call (.Name x p) (e :: es) [] pos) (tXmk C n gV ta) := by
  intro pins s σ H Q I h
  refine wpAny_Call_Name_kw (ld_glob I hg hm ?_ hdb)
  refine PySem.W.callWith_K (h₀ := X.base) I.ok.mod.kin kp (thn (ha.run pos pins s σ H _ I h) fun us s1 ⟨vs, H1, I1, r1, l1, q1⟩ => ⟨I1.kIn, ?_⟩) he hpl
  show wpAny _ _ (call (.ref C) us) _ _ _
  refine wpAny_call (M _ s1 _ us [] vs [] r1 .nil (r1.length.symm.trans l1) rfl I1.kIn I1.xtop (by have := hr.dp; omega) fun h' tk' e' d mm O rel => ?_)
  obtain ⟨hp, g, dr, tk, os⟩ := s1
  obtain ⟨t1, hoe⟩ := O.obj
  obtain ⟨G', g1, g2⟩ := restrict h' fun b => decide (b ≠ e')
  have gk : ∀ b, b ≠ e' → G'.get? b = h'.get? b := fun b hb => g1 b (decide_eq_true hb)
  have ge : G'.get? e' = none := g2 e' (by simp)
  have old : ∀ b o, hp.get? b = some o → G'.get? b = some o := fun b o q => (gk b (Nat.ne_of_lt (Nat.lt_of_lt_of_le (Heap.lt_size q) O.new))).trans (O.keep b o q)
  have ob : ObjOk X.prog X.w (upd H1 d (.xd (gV vs []))) G' d (.xd (gV vs [])) := ⟨_, O.ns.at (fun o q => (gk d O.dne).trans q), rel⟩
  have J : Inv X pins σ (upd H1 d (.xd (gV vs []))) ⟨G', g, dr, tk', os⟩ := I1.laid (t' := tk') old O.dbig ob
  refine ⟨e', _, _, ⟨G', g, dr, tk', os⟩, _, .ref C, some d, rfl, J, fun b o q => ?_, ge, hoe, ⟨rfl, rfl, fun vs e => by cases e; rfl⟩, rfl, rfl, ?_, rfl, I1.bare, rs, q1 d (I1.hok.fresh O.dbig)⟩
  · by_cases hb : b = e'
    · have q' : G'.get? b = some o := q
      rw [hb, ge] at q'; cases q'
    · exact (gk b hb).symm.trans q
  · rw [upd_ne (Ne.symm O.dne)]
    exact I1.hok.fresh O.new
section
variable {P : Program} {w : World} {K : PySem.W.Frag} {mg : Str → Option Value} {base : Heap}
/-- as Fun.okX; what is let out has the context None -/
theorem Fun.okN {x qual : Str} {st : Stmt} {f : Addr} {fd : FuncData} {N ps : List Str} {k : Nat} {sp : Sp} (F : Fun K x qual st f fd) (S : FnScope N ps (defScope st)) (len : ∀ vs H Q E, sp vs H Q E → vs.length = ps.length)
    (hbody : ∀ (cdv : Value) (A : Around) (outer : List Env) (s : Shared) (H : Hp) (vs : List V) (Q : VK) (E : XK), Room k (A.deeper (envOfC qual (defScope st) s.heap.objs.size f cdv)) → sp vs H Q E →
      ∃ t, PSs (cxOf (L2N.CX P w) P w K mg base N qual (defScope st) f cdv A outer s H E) (defBody st) t ∧ t { nx := fun _ H' => Q .non H', rt := Q } (start N vs) H) : FnOk P w K mg base (L2N.CX P w) (k + 1) f fd ps sp := by
  obtain ⟨oc, od, kV, doc, pm, an, cdv, ct, osl, rfl, lk, hcd⟩ := F.ex
  exact fn_of lk hcd S len fun A outer s H vs Q E hr hsp => hbody cdv A outer s H vs Q E hr hsp
/-- as Fun.ok, for a call within an except suite -/
theorem Fun.okH {x qual : Str} {st : Stmt} {f : Addr} {fd : FuncData} {N ps : List Str} {k : Nat} {sp : Sp} (F : Fun K x qual st f fd) (S : FnScope N ps (defScope st)) (len : ∀ vs H Q E, sp vs H Q E → vs.length = ps.length)
    (hbody : ∀ (cdv : Value) (A : Around) (outer : List Env) (s : Shared) (H : Hp) (vs : List V) (Q : VK) (E : XK) (p : Addr × Obj), L2H.RoomH k (A.deeper (envOfC qual (defScope st) s.heap.objs.size f cdv)) → sp vs H Q E →
      ∃ t, PSs (L2H.cxH CX0 P w K mg base N qual (defScope st) f cdv A outer s H E p) (defBody st) t ∧ t { nx := fun _ H' => Q .non H', rt := Q } (start N vs) H) : L2H.FnH P w K mg base CX0 (k + 1) f fd ps sp := by
  obtain ⟨oc, od, kV, doc, pm, an, cdv, ct, osl, rfl, lk, hcd⟩ := F.ex
  exact L2H.fn_ofH lk hcd S len fun A outer s H vs Q E p _ hr hsp => hbody cdv A outer s H vs Q E p hr hsp
end
/-- what a callee may let out is taken, whatever the names hold -/
theorem passes_lenN {X : Cx} {W : WX} {E : XK} (tk : L2N.Takes X W) (hW : ∀ cls d σ H, σ.length = X.N.length → E cls d H → W cls d σ H) : Passes (L2N.CX X.prog X.w) X E :=
  fun _ σ _ _ e s' I c => tk e s' (L2N.XE.of_call I (fun cls d H' h => hW cls d σ H' I.len h) c)
theorem takes0N {X : Cx} : L2N.Takes X (fun _ _ _ _ => False) := fun _ _ x => by
  obtain ⟨_, _, _, _, _, _, _, _, _, _, _, _, _, _, _, _, z⟩ := x
  exact z.elim
end L2
namespace Op
open PySem L2
abbrev PP : Program := PySem.Challenge.pw_openruns_k02_paths_of_rows
def top (i : Nat) : Stmt := PySem.Challenge.pw_openruns_k02_paths_of_rows.main.body.getD i (.Pass ⟨0, 0, 0, 0⟩)
abbrev s__wall : Stmt := top 0
abbrev s_InvalidProgram___init__ : Stmt := inClass (top 4) 0
abbrev s_InvalidArgument___init__ : Stmt := inClass (top 5) 0
abbrev s_is_integer : Stmt := top 16
abbrev s_is_word : Stmt := top 17
abbrev s_are_words : Stmt := top 18
abbrev s_inner_lists : Stmt := top 19
abbrev s_with_lists : Stmt := top 20
abbrev s_copy_row : Stmt := top 21
abbrev s_copy_rows : Stmt := top 22
abbrev s_checked_asks : Stmt := top 23
abbrev s_is_box : Stmt := top 24
abbrev s_checked_signals : Stmt := top 25
abbrev s_checked_inputs : Stmt := top 26
abbrev s_RowCheck___init__ : Stmt := inClass (top 27) 0
abbrev s_RowCheck_check : Stmt := inClass (top 27) 1
abbrev s_RowCheck_check_sizes : Stmt := inClass (top 27) 2
abbrev s_RowCheck_check_list : Stmt := inClass (top 27) 3
abbrev s_RowCheck_fits : Stmt := inClass (top 27) 4
abbrev s_RowCheck_id_fits : Stmt := inClass (top 27) 5
abbrev s_RowCheck_part_fits : Stmt := inClass (top 27) 6
abbrev s_RowCheck_collect : Stmt := inClass (top 27) 7
abbrev s_is_branches : Stmt := top 28
abbrev s_is_path : Stmt := top 30
abbrev s_Program___init__ : Stmt := inClass (top 31) 0
abbrev s_Program_add_rows : Stmt := inClass (top 31) 1
abbrev s_Program___len__ : Stmt := inClass (top 31) 2
abbrev s_Program___eq__ : Stmt := inClass (top 31) 3
abbrev s_Program_rows : Stmt := inClass (top 31) 4
abbrev s_Program_asks : Stmt := inClass (top 31) 5
abbrev s_Program_signals : Stmt := inClass (top 31) 6
abbrev s_Program_inputs : Stmt := inClass (top 31) 7
abbrev s_Program_names : Stmt := inClass (top 31) 8
abbrev s_Program_paths : Stmt := inClass (top 31) 9
abbrev s_Program_row_at : Stmt := inClass (top 31) 10
abbrev s_Program_with_rows : Stmt := inClass (top 31) 11
abbrev s__law_bag : Stmt := top 33
abbrev s__law_draw : Stmt := top 34
abbrev s__law_one : Stmt := top 35
abbrev s__law_words : Stmt := top 36
abbrev s__law_kit : Stmt := top 37
abbrev s__law_start_row : Stmt := top 38
abbrev s__law_plain_row : Stmt := top 39
abbrev s__law_great_row : Stmt := top 40
abbrev s__law_list : Stmt := top 41
abbrev s__law_plan : Stmt := top 42
abbrev s__law_copy_part : Stmt := top 43
abbrev s__law_copy_rows : Stmt := top 44
abbrev s__law_program : Stmt := top 45
abbrev s__law_same : Stmt := top 46
abbrev s__law_lists : Stmt := top 47
abbrev s__law_with : Stmt := top 48
abbrev s__law_paths : Stmt := top 49
abbrev s__law_at : Stmt := top 50
abbrev s__law_replaced : Stmt := top 51
abbrev s__law_in_loop : Stmt := top 52
abbrev s__law_refused : Stmt := top 53
abbrev s__law_wrong : Stmt := top 54
abbrev s_law : Stmt := top 55
end Op
namespace L2
open PySem PySem.Spec PyProof.Rows
/-! ### a def by its name, with its promise -/
def Cal (P : Program) (w : World) (K : PySem.W.Frag) (mg : Str → Option Value) (base : Heap) (CX : CXT) (k : Nat) (x : Str) (ps : List Str) (sp : Sp) : Prop :=
  ∃ (f : Addr) (fd : FuncData), mg x = some (.ref f) ∧ PySem.W.keepIn K (.ref f) = true ∧ Binds K fd ps [] ∧ FnOk P w K mg base CX k f fd ps sp
theorem pe_cal {X : Cx} {CX : CXT} {k : Nat} {x : Str} {ps : List Str} {sp : Sp} {E : XK} {p pos : Pos} {e : Expr} {es : List Expr} {t : TA} (c : Cal X.prog X.w X.K X.mg X.base CX k x ps sp) (hr : Room k X.A) (hg : Gl X x) (hx : Passes CX X E) (ha : PA X (e :: es) t)
    (hdb : (x == ("__debug__" : Str)) = false := by decide) (he : starEach (e :: es) X.env = (false, eval e X.env) :: starEach es X.env := by rfl) (hpl : (backTo pos (starEach es X.env)).any (·.1) = false := by rfl) :
    PE X (.Call (.Name x p) (e :: es) [] pos) (tCall sp [] E t) := by
  obtain ⟨f, fd, h1, h2, h3, h4⟩ := c
  exact pe_call h4 hr hg h1 h2 h3 .nil hx ha hdb he hpl
/-! ### data -/
theorem SqL.mono {K : PySem.W.Frag} {H H' : Hp} {a : Addr} {xs : List V} (h : SqL K H a xs) (s : Same H H') : SqL K H' a xs := Evl.ex_l s h
theorem SqT.mono {K : PySem.W.Frag} {H H' : Hp} {a : Addr} {xs : List V} (h : SqT K H a xs) (s : Same H H') : SqT K H' a xs := Evl.ex_t s h
mutual
theorem Dp.mono {K : PySem.W.Frag} {H H' : Hp} (s : Same H H') : ∀ {v : V} {d : PyData}, Dp K H v d → Dp K H' v d
  | _, _, .non => .non
  | _, _, .bl b => .bl b
  | _, _, .int i => .int i
  | _, _, .str x => .str x
  | _, _, .lst h a => .lst (h.mono s) (DpAll.mono s a)
  | _, _, .tup h a => .tup (h.mono s) (DpAll.mono s a)
theorem DpAll.mono {K : PySem.W.Frag} {H H' : Hp} (s : Same H H') : ∀ {vs : List V} {ds : List PyData}, DpAll K H vs ds → DpAll K H' vs ds
  | _, _, .nil => .nil
  | _, _, .cons h a => .cons (Dp.mono s h) (DpAll.mono s a)
end
theorem DpAll.len {K : PySem.W.Frag} {H : Hp} : ∀ {vs : List V} {ds : List PyData}, DpAll K H vs ds → vs.length = ds.length
  | _, _, .nil => rfl
  | _, _, .cons _ a => congrArg Nat.succ a.len
theorem DpAll.get {K : PySem.W.Frag} {H : Hp} : ∀ {vs : List V} {ds : List PyData} {i : Nat} {v : V}, DpAll K H vs ds → vs[i]? = some v → ∃ d, ds[i]? = some d ∧ Dp K H v d
  | _, _, i, _, .nil, h => by simp at h
  | _, _, 0, v, .cons (d := d) h a, e => by
    have e' := Option.some.inj e
    subst e'
    exact ⟨d, rfl, h⟩
  | _, _, i + 1, v, .cons h a, e => a.get (i := i) e
theorem DpAll.drop {K : PySem.W.Frag} {H : Hp} : ∀ {vs : List V} {ds : List PyData} (n : Nat), DpAll K H vs ds → DpAll K H (vs.drop n) (ds.drop n)
  | _, _, 0, h => h
  | _, _, _ + 1, .nil => .nil
  | _, _, n + 1, .cons _ a => DpAll.drop n a
/-- the name of a datum's class -/
def tyN : PyData → String
  | .none => "NoneType"
  | .bool _ => "bool"
  | .int _ => "int"
  | .str _ => "str"
  | .list _ => "list"
  | .tuple _ => "tuple"
  | .dict _ => "dict"
theorem ty_dp {K : PySem.W.Frag} {H : Hp} {v : V} {d : PyData} (h : Dp K H v d) : TyX K H v (.type (tyN d)) := by
  cases h with
  | non => exact .base .non
  | bl b => exact .base (.bl b)
  | int i => exact .base (.int i)
  | str x => exact .base (.str x)
  | lst hs _ => 
    rcases hs with (hs | ⟨o, hs⟩) | hs
    · exact .base (.lst hs)
    · exact .base (.frz hs)
    · obtain ⟨o, its, n, h1, h2, _⟩ := hs
      exact .kList h1 h2
  | tup hs _ => 
    rcases hs with (hs | ⟨o, hs⟩) | hs
    · exact .base (.tup hs)
    · exact .fTuple hs
    · obtain ⟨o, its, n, h1, h2, _⟩ := hs
      exact .kTuple h1 h2
end L2
namespace Op
open PySem L2 PyProof.Rows
theorem ifT {c : Bool} {A B : Prop} (hc : c = true) (h : A) : if c = true then A else B := by
  rw [if_pos hc]
  exact h
theorem ifF {c : Bool} {A B : Prop} (hc : c = false) (h : B) : if c = true then A else B := by
  rw [hc, if_neg Bool.false_ne_true]
  exact h
/-! ### the mirror: words -/
def letters : Str := "abcdefghijklmnopqrstuvwxyz"
def isWordS (x : Str) : Bool := decide (1 ≤ x.length ∧ x.length ≤ 8) && x.cps.toList.all fun c => decide (c ∈ letters.cps.toList)
def isWord : PyData → Bool
  | .str x => isWordS x
  | _ => false
def isStr : PyData → Bool
  | .str _ => true
  | _ => false
def isList : PyData → Bool
  | .list _ => true
  | _ => false
def isTup : PyData → Bool
  | .tuple _ => true
  | _ => false
def isInt : PyData → Bool
  | .int _ => true
  | _ => false
def strOf : PyData → Str
  | .str x => x
  | _ => ""
def areWords (most : Int) : PyData → Bool
  | .tuple ds => decide (1 ≤ ds.length ∧ (ds.length : Int) ≤ most) && (ds.all isWord && decide ((ds.map strOf).Nodup))
  | _ => false
def isBranches : PyData → Bool
  | .tuple ds => decide (2 ≤ ds.length ∧ ds.length ≤ 3) && ds.all isList
  | _ => false
section
variable {K : PySem.W.Frag} {H : Hp}
theorem kit_str (d : PyData) : PySem.W.kitOne K (.type (tyN d)) (.type "str") = some (isStr d) := by
  cases d with
  | none => exact kit_ty (show kitB "NoneType" "str" = some false by decide +kernel)
  | bool _ => exact kit_ty (show kitB "bool" "str" = some false by decide +kernel)
  | int _ => exact kit_ty (show kitB "int" "str" = some false by decide +kernel)
  | str _ => exact kit_ty (show kitB "str" "str" = some true by decide +kernel)
  | list _ => exact kit_ty (show kitB "list" "str" = some false by decide +kernel)
  | tuple _ => exact kit_ty (show kitB "tuple" "str" = some false by decide +kernel)
  | dict _ => exact kit_ty (show kitB "dict" "str" = some false by decide +kernel)
theorem kit_list (d : PyData) : PySem.W.kitOne K (.type (tyN d)) (.type "list") = some (isList d) := by
  cases d with
  | none => exact kit_ty (show kitB "NoneType" "list" = some false by decide +kernel)
  | bool _ => exact kit_ty (show kitB "bool" "list" = some false by decide +kernel)
  | int _ => exact kit_ty (show kitB "int" "list" = some false by decide +kernel)
  | str _ => exact kit_ty (show kitB "str" "list" = some false by decide +kernel)
  | list _ => exact kit_ty (show kitB "list" "list" = some true by decide +kernel)
  | tuple _ => exact kit_ty (show kitB "tuple" "list" = some false by decide +kernel)
  | dict _ => exact kit_ty (show kitB "dict" "list" = some false by decide +kernel)
theorem kit_tuple (d : PyData) : PySem.W.kitOne K (.type (tyN d)) (.type "tuple") = some (isTup d) := by
  cases d with
  | none => exact kit_ty (show kitB "NoneType" "tuple" = some false by decide +kernel)
  | bool _ => exact kit_ty (show kitB "bool" "tuple" = some false by decide +kernel)
  | int _ => exact kit_ty (show kitB "int" "tuple" = some false by decide +kernel)
  | str _ => exact kit_ty (show kitB "str" "tuple" = some false by decide +kernel)
  | list _ => exact kit_ty (show kitB "list" "tuple" = some false by decide +kernel)
  | tuple _ => exact kit_ty (show kitB "tuple" "tuple" = some true by decide +kernel)
  | dict _ => exact kit_ty (show kitB "dict" "tuple" = some false by decide +kernel)
theorem kit_int (d : PyData) : PySem.W.kitOne K (.type (tyN d)) (.type "int") = some (match d with | .int _ => true | .bool _ => true | _ => false) := by
  cases d with
  | none => exact kit_ty (show kitB "NoneType" "int" = some false by decide +kernel)
  | bool _ => exact kit_ty (show kitB "bool" "int" = some true by decide +kernel)
  | int _ => exact kit_ty (show kitB "int" "int" = some true by decide +kernel)
  | str _ => exact kit_ty (show kitB "str" "int" = some false by decide +kernel)
  | list _ => exact kit_ty (show kitB "list" "int" = some false by decide +kernel)
  | tuple _ => exact kit_ty (show kitB "tuple" "int" = some false by decide +kernel)
  | dict _ => exact kit_ty (show kitB "dict" "int" = some false by decide +kernel)
theorem kit_bool (d : PyData) : PySem.W.kitOne K (.type (tyN d)) (.type "bool") = some (match d with | .bool _ => true | _ => false) := by
  cases d with
  | none => exact kit_ty (show kitB "NoneType" "bool" = some false by decide +kernel)
  | bool _ => exact kit_ty (show kitB "bool" "bool" = some true by decide +kernel)
  | int _ => exact kit_ty (show kitB "int" "bool" = some false by decide +kernel)
  | str _ => exact kit_ty (show kitB "str" "bool" = some false by decide +kernel)
  | list _ => exact kit_ty (show kitB "list" "bool" = some false by decide +kernel)
  | tuple _ => exact kit_ty (show kitB "tuple" "bool" = some false by decide +kernel)
  | dict _ => exact kit_ty (show kitB "dict" "bool" = some false by decide +kernel)
theorem kit_dict (d : PyData) : PySem.W.kitOne K (.type (tyN d)) (.type "dict") = some (match d with | .dict _ => true | _ => false) := by
  cases d with
  | none => exact kit_ty (show kitB "NoneType" "dict" = some false by decide +kernel)
  | bool _ => exact kit_ty (show kitB "bool" "dict" = some false by decide +kernel)
  | int _ => exact kit_ty (show kitB "int" "dict" = some false by decide +kernel)
  | str _ => exact kit_ty (show kitB "str" "dict" = some false by decide +kernel)
  | list _ => exact kit_ty (show kitB "list" "dict" = some false by decide +kernel)
  | tuple _ => exact kit_ty (show kitB "tuple" "dict" = some false by decide +kernel)
  | dict _ => exact kit_ty (show kitB "dict" "dict" = some true by decide +kernel)
end
/-- the names of the module and of the machine that are read -/
structure Txt (mg : Str → Option Value) : Prop where
  b_len : mg "len" = none
  b_int : mg "int" = none
  b_bool : mg "bool" = none
  b_str : mg "str" = none
  b_list : mg "list" = none
  b_tuple : mg "tuple" = none
  b_dict : mg "dict" = none
  b_set : mg "set" = none
  b_range : mg "range" = none
  b_zip : mg "zip" = none
  b_enumerate : mg "enumerate" = none
  b_sorted : mg "sorted" = none
  b_isinstance : mg "isinstance" = none
  g_LETTERS : ∃ t, mg "LETTERS" = some (.str letters t)
def spWord (K : PySem.W.Frag) : Sp := fun vs H Q _ => ∃ (v : V) (d : PyData), vs = [v] ∧ Dp K H v d ∧ (∀ x, d = .str x → x.length ≤ 100000) ∧ Q (.bl (isWord d)) H
section
variable {P : Program} {w : World} {K : PySem.W.Frag} {mg : Str → Option Value} {base : Heap} {H : Hp}
theorem chain_le {σ : L2.St} {H : Hp} {Q : VK} {ta tb : TE} {lo hi n : Int} (tl : TE) (h1 : ∀ Q, Q (.int lo) H → ta σ H Q) (h : ∀ Q, Q (.int n) H → tl σ H Q) (h2 : ∀ Q, Q (.int hi) H → tb σ H Q) (q : Q (.bl (decide (lo ≤ n ∧ n ≤ hi))) H) :
    tChain (rI0 fun i j => .bl (decide (i ≤ j))) (rI0 fun i j => .bl (decide (i ≤ j))) ta tl tb σ H Q := by
  refine h1 _ (h _ ⟨_, _, rfl, rfl, _, rfl, ?_⟩)
  by_cases c : lo ≤ n
  · refine ifT (decide_eq_true c) (h2 _ ⟨_, _, rfl, rfl, ?_⟩)
    have e : decide (n ≤ hi) = decide (lo ≤ n ∧ n ≤ hi) := by simp [c]
    show Q (.bl (decide (n ≤ hi))) H
    rw [e]
    exact q
  · refine ifF (decide_eq_false c) ?_
    have e : false = decide (lo ≤ n ∧ n ≤ hi) := by simp [c]
    rw [e]
    exact q
theorem sc_is_word : FnScope ["value", "letter"] ["value"] (defScope s_is_word) := ⟨rfl, rfl, rfl, by decide +kernel, rfl, by decide +kernel, by decide +kernel⟩
theorem ok_is_word {f : Addr} {fd : FuncData} (F : Fun K "is_word" "is_word" s_is_word f fd) (T : Txt mg) : FnOk P w K mg base CX0 1 f fd ["value"] (spWord K) := by
  refine F.ok sc_is_word (fun vs H Q E h => ?_) (fun cdv A outer s H vs Q E hr h => ?_)
  · obtain ⟨v, d, rfl, _⟩ := h
    rfl
  · obtain ⟨v, d, rfl, hd, hl, k⟩ := h
    obtain ⟨tk, hL⟩ := T.g_LETTERS
    refine ⟨_, (pss_cons (ps_if (PW.pt (pw_or (pt_not (pt_val (pe_callB call_isi (by rfl) T.b_isinstance (by decide +kernel) (pa_cons (pv 0) (pa_cons (pe_bltn (v := .ty "str") (by rfl) T.b_str (by decide +kernel) rfl) pa_nil))))) (pw_or1 (pt_not (pt_chain op_le op_le pe_int (pe_callB call_len_str (by rfl) T.b_len (by decide +kernel) (pa_cons (pv 0) pa_nil)) pe_int))))) (pss_one (ps_ret pe_bl)) pss_nil)
      (pss_cons (ps_for PassesOwn.never rfl (pi_str (pv 0)) (pg_name (i := 1) sc_is_word.nd rfl (.inl rfl)) (pss_one (ps_if (pt_cmpR op_notIn_sign (pv 1) (pe_glob (v := .str letters) rfl hL ⟨_, rfl⟩) (by rfl)) (pss_one (ps_ret pe_bl)) pss_nil)))
      (pss_one (ps_ret pe_bl)))), ?_⟩
    refine ⟨_, rfl, v, _, _, _, _, rfl, .ty _, ty_dp hd, kit_str d, _, rfl, ?_⟩
    cases hd with
    | str x =>
      refine ifF rfl ?_
      refine chain_le _ (fun Q q => q) (fun Q q => ⟨_, rfl, x, rfl, Evl.sz_of (hl x rfl), q⟩) (fun Q q => q) ⟨_, rfl, ?_⟩
      by_cases c : (1 : Int) ≤ (x.length : Int) ∧ (x.length : Int) ≤ 8
      · rw [decide_eq_true c]
        refine ifF rfl ?_
        have eL : decide (1 ≤ x.length ∧ x.length ≤ 8) = true := decide_eq_true (by omega)
        refine ⟨_, rfl, x, rfl, for_it walk_str (fun i σ H' => H' = H ∧ (∃ y : Option V, σ = [some (.str x), y]) ∧ (x.cps.toList.take i).all (fun c => decide (c ∈ letters.cps.toList)) = true) ⟨rfl, ⟨none, rfl⟩, rfl⟩ (fun _ _ _ _ _ => trivial) ?_ ?_⟩
        · rintro i v σ H1 H2 hi ⟨rfl, ⟨y, rfl⟩, hp⟩ ⟨rfl, c, hc, rfl⟩
          have hc' : x.cps.toList[i]? = some c := by rw [Array.getElem?_toList]; exact hc
          refine ⟨_, rfl, c, letters, rfl, rfl, _, rfl, ?_⟩
          by_cases m : c ∈ letters.cps.toList
          · rw [decide_eq_true m]
            refine ifF rfl ⟨rfl, ⟨_, rfl⟩, ?_⟩
            rw [TS.take_one hc', List.all_append, hp, List.all_cons, List.all_nil, decide_eq_true m]
            rfl
          · rw [decide_eq_false m]
            refine ifT rfl ?_
            have e : isWord (.str x) = false := by
              show (decide (1 ≤ x.length ∧ x.length ≤ 8) && _) = false
              rw [eL, Bool.true_and]
              refine Bool.eq_false_iff.mpr fun q => ?_
              have := List.all_eq_true.mp q c (List.mem_of_getElem? hc')
              exact m (of_decide_eq_true this)
            rw [e] at k
            exact k
        · rintro σ H1 ⟨rfl, ⟨y, rfl⟩, hp⟩
          have e : isWord (.str x) = true := by
            show (decide (1 ≤ x.length ∧ x.length ≤ 8) && _) = true
            rw [eL, Bool.true_and]
            rw [List.take_of_length_le (by rw [Array.length_toList]; exact Nat.le_refl _)] at hp
            exact hp
          rw [e] at k
          exact k
      · rw [decide_eq_false c]
        refine ifT rfl ?_
        have e : isWord (.str x) = false := by
          show (decide (1 ≤ x.length ∧ x.length ≤ 8) && _) = false
          rw [decide_eq_false (by omega)]
          rfl
        rw [e] at k
        exact k
    | _ => exact ifT rfl k
/-! data that are of a size that is counted -/
mutual
def small : PyData → Bool
  | .str x => decide (x.length ≤ 100000)
  | .list xs => decide (xs.length ≤ 100000) && smalls xs
  | .tuple xs => decide (xs.length ≤ 100000) && smalls xs
  | _ => true
def smalls : List PyData → Bool
  | [] => true
  | x :: r => small x && smalls r
end
theorem smalls_get : ∀ {ds : List PyData} {i : Nat} {d : PyData}, smalls ds = true → ds[i]? = some d → small d = true
  | [], i, d, _, h => by simp at h
  | x :: r, 0, d, h, e => by
    have e' := Option.some.inj e
    subst e'
    exact (Bool.and_eq_true_iff.mp h).1
  | x :: r, i + 1, d, h, e => smalls_get (ds := r) (i := i) (Bool.and_eq_true_iff.mp h).2 e
theorem small_str {x : Str} (h : small (.str x) = true) : x.length ≤ 100000 := of_decide_eq_true h
theorem strs_of : ∀ {ds : List PyData} {xs : List V}, ds.all isWord = true → DpAll K H xs ds → ∃ zs : List Str, ds = zs.map PyData.str ∧ xs = zs.map V.str := by
  intro ds
  induction ds with
  | nil =>
    intro xs _ h
    cases h
    exact ⟨[], rfl, rfl⟩
  | cons d r ih =>
    intro xs h hp
    cases hp with
    | cons hd ha =>
      obtain ⟨h1, h2⟩ := Bool.and_eq_true_iff.mp h
      obtain ⟨zs, e1, e2⟩ := ih h2 ha
      cases hd with
      | str x => exact ⟨x :: zs, by rw [e1]; rfl, by rw [e2]; rfl⟩
      | _ => cases h1
def spAreWords (K : PySem.W.Frag) : Sp := fun vs H Q _ => ∃ (v : V) (d : PyData) (m : Int), vs = [v, .int m] ∧ Dp K H v d ∧ small d = true ∧ m < 100 ∧ Q (.bl (areWords m d)) H
theorem sc_are_words : FnScope ["value", "most", "item"] ["value", "most"] (defScope s_are_words) := ⟨rfl, rfl, rfl, by decide +kernel, rfl, by decide +kernel, by decide +kernel⟩
theorem ok_are_words {f : Addr} {fd : FuncData} (F : Fun K "are_words" "are_words" s_are_words f fd) (T : Txt mg) (c_is_word : Cal P w K mg base CX0 1 "is_word" ["value"] (spWord K)) : FnOk P w K mg base CX0 2 f fd ["value", "most"] (spAreWords K) := by
  refine F.ok sc_are_words (fun vs H Q E h => ?_) (fun cdv A outer s H vs Q E hr h => ?_)
  · obtain ⟨v, d, m, rfl, _⟩ := h
    rfl
  · obtain ⟨v, d, m, rfl, hd, hs, hm, k⟩ := h
    refine ⟨_, (pss_cons (ps_if (PW.pt (pw_or (pt_not (pt_val (pe_callB call_isi (by rfl) T.b_isinstance (by decide +kernel) (pa_cons (pv 0) (pa_cons (pe_bltn (v := .ty "tuple") (by rfl) T.b_tuple (by decide +kernel) rfl) pa_nil))))) (pw_or1 (pt_not (pt_chain op_le op_le pe_int (pe_callB call_len_seq (by rfl) T.b_len (by decide +kernel) (pa_cons (pv 0) pa_nil)) (pv 1)))))) (pss_one (ps_ret pe_bl)) pss_nil)
      (pss_cons (ps_for PassesOwn.never rfl (pi_tup (pv 0)) (pg_name (i := 2) sc_are_words.nd rfl (.inl rfl)) (pss_one (ps_if (pt_not (pt_val (pe_cal c_is_word (hr.mono (by omega)) rfl pass0 (pa_cons (pv 2) pa_nil)))) (pss_one (ps_ret pe_bl)) pss_nil)))
      (pss_one (ps_ret (pe_cmpR op_eq (pe_lenSetS (by rfl) T.b_len (by rfl) T.b_set (pv 0)) (pe_callB call_len_seq (by rfl) T.b_len (by decide +kernel) (pa_cons (pv 0) pa_nil)) (nomark _)))))), ?_⟩
    refine ⟨_, rfl, v, _, _, _, _, rfl, .ty _, ty_dp hd, kit_tuple d, _, rfl, ?_⟩
    cases hd with
    | @tup a xs ds hq ha =>
      refine ifF rfl ?_
      have hlen := ha.len
      refine chain_le _ (fun Q q => q) (fun Q q => ⟨_, rfl, a, xs, rfl, .inr hq, q⟩) (fun Q q => ⟨_, rfl, q⟩) ⟨_, rfl, ?_⟩
      by_cases c : (1 : Int) ≤ (xs.length : Int) ∧ (xs.length : Int) ≤ m
      · rw [decide_eq_true c]
        refine ifF rfl ?_
        have eL : decide (1 ≤ ds.length ∧ (ds.length : Int) ≤ m) = true := decide_eq_true (by omega)
        refine ⟨_, rfl, a, rfl, ⟨_, hq⟩, for_it walk_tup (fun i σ H' => H' = H ∧ (∃ y : Option V, σ = [some (.ref a), some (.int m), y]) ∧ (ds.take i).all isWord = true) ⟨rfl, ⟨none, rfl⟩, rfl⟩ (fun _ _ _ _ p => by rw [p.1]; exact hq) ?_ ?_⟩
        · rintro i x σ H1 H2 hi ⟨rfl, ⟨y, rfl⟩, hp⟩ ⟨rfl, hx⟩
          obtain ⟨d, hd1, hd2⟩ := ha.get hx
          have hsd := smalls_get (Bool.and_eq_true_iff.mp hs).2 hd1
          refine ⟨_, rfl, x, d, rfl, hd2, fun z e => small_str (by rw [← e]; exact hsd), _, rfl, ?_⟩
          by_cases mw : isWord d = true
          · rw [mw]
            refine ifF rfl ⟨rfl, ⟨_, rfl⟩, ?_⟩
            rw [TS.take_one hd1, List.all_append, hp]
            simp [mw]
          · rw [Bool.eq_false_iff.mpr mw]
            refine ifT rfl ?_
            have e : areWords m (.tuple ds) = false := by
              show (decide (1 ≤ ds.length ∧ (ds.length : Int) ≤ m) && (ds.all isWord && _)) = false
              rw [eL, Bool.true_and]
              refine Bool.eq_false_iff.mpr fun q => ?_
              exact mw (List.all_eq_true.mp (Bool.and_eq_true_iff.mp q).1 d (List.mem_of_getElem? hd1))
            rw [e] at k
            exact k
        · rintro σ H1 ⟨rfl, ⟨y, rfl⟩, hp⟩
          rw [List.take_of_length_le (by omega)] at hp
          obtain ⟨zs, rfl, rfl⟩ := strs_of hp ha
          rw [List.length_map] at hlen c
          refine ⟨_, rfl, a, zs, rfl, hq, by omega, _, rfl, a, _, rfl, .inr hq, rfl, ?_⟩
          have e : areWords m (.tuple (zs.map PyData.str)) = decide (V.int (TS.dist zs zs.length : Nat) = V.int ((zs.map V.str).length : Nat)) := by
            show (decide _ && ((zs.map PyData.str).all isWord && decide (((zs.map PyData.str).map strOf).Nodup))) = _
            rw [eL, hp, Bool.true_and, Bool.true_and, List.map_map]
            have e1 : zs.map (strOf ∘ PyData.str) = zs := by
              have : (strOf ∘ PyData.str) = id := by funext z; rfl
              rw [this, List.map_id]
            rw [e1, List.length_map]
            have f := TS.dist_full zs zs.length (Nat.le_refl _)
            rw [List.take_length] at f
            by_cases nd : zs.Nodup
            · rw [decide_eq_true nd, f.mpr nd]; simp
            · rw [decide_eq_false nd]
              refine (decide_eq_false fun q => nd (f.mp ?_)).symm
              have := V.int.inj q
              omega
          rw [e] at k
          exact k
      · rw [decide_eq_false c]
        refine ifT rfl ?_
        have e : areWords m (.tuple ds) = false := by
          show (decide (1 ≤ ds.length ∧ (ds.length : Int) ≤ m) && _) = false
          rw [decide_eq_false (by omega)]
          rfl
        rw [e] at k
        exact k
    | _ => exact ifT rfl k
def spBr (K : PySem.W.Frag) : Sp := fun vs H Q _ => ∃ (v : V) (d : PyData), vs = [v] ∧ Dp K H v d ∧ Q (.bl (isBranches d)) H
theorem sc_is_branches : FnScope ["value", "rows"] ["value"] (defScope s_is_branches) := ⟨rfl, rfl, rfl, by decide +kernel, rfl, by decide +kernel, by decide +kernel⟩
theorem ok_is_branches {f : Addr} {fd : FuncData} (F : Fun K "is_branches" "is_branches" s_is_branches f fd) (T : Txt mg) : FnOk P w K mg base CX0 1 f fd ["value"] (spBr K) := by
  refine F.ok sc_is_branches (fun vs H Q E h => ?_) (fun cdv A outer s H vs Q E hr h => ?_)
  · obtain ⟨v, d, rfl, _⟩ := h
    rfl
  · obtain ⟨v, d, rfl, hd, k⟩ := h
    refine ⟨_, (pss_cons (ps_if (PW.pt (pw_or (pt_not (pt_val (pe_callB call_isi (by rfl) T.b_isinstance (by decide +kernel) (pa_cons (pv 0) (pa_cons (pe_bltn (v := .ty "tuple") (by rfl) T.b_tuple (by decide +kernel) rfl) pa_nil))))) (pw_or1 (pt_not (pt_chain op_le op_le pe_int (pe_callB call_len_seq (by rfl) T.b_len (by decide +kernel) (pa_cons (pv 0) pa_nil)) pe_int))))) (pss_one (ps_ret pe_bl)) pss_nil)
      (pss_cons (ps_for PassesOwn.never rfl (pi_tup (pv 0)) (pg_name (i := 1) sc_is_branches.nd rfl (.inl rfl)) (pss_one (ps_if (pt_not (pt_val (pe_callB call_isi (by rfl) T.b_isinstance (by decide +kernel) (pa_cons (pv 1) (pa_cons (pe_bltn (v := .ty "list") (by rfl) T.b_list (by decide +kernel) rfl) pa_nil))))) (pss_one (ps_ret pe_bl)) pss_nil)))
      (pss_one (ps_ret pe_bl)))), ?_⟩
    refine ⟨_, rfl, v, _, _, _, _, rfl, .ty _, ty_dp hd, kit_tuple d, _, rfl, ?_⟩
    cases hd with
    | @tup a xs ds hq ha =>
      refine ifF rfl ?_
      have hlen := ha.len
      refine chain_le _ (fun Q q => q) (fun Q q => ⟨_, rfl, a, xs, rfl, .inr hq, q⟩) (fun Q q => q) ⟨_, rfl, ?_⟩
      by_cases c : (2 : Int) ≤ (xs.length : Int) ∧ (xs.length : Int) ≤ 3
      · rw [decide_eq_true c]
        refine ifF rfl ?_
        have eL : decide (2 ≤ ds.length ∧ ds.length ≤ 3) = true := decide_eq_true (by omega)
        refine ⟨_, rfl, a, rfl, ⟨_, hq⟩, for_it walk_tup (fun i σ H' => H' = H ∧ (∃ y : Option V, σ = [some (.ref a), y]) ∧ (ds.take i).all isList = true) ⟨rfl, ⟨none, rfl⟩, rfl⟩ (fun _ _ _ _ p => by rw [p.1]; exact hq) ?_ ?_⟩
        · rintro i x σ H1 H2 hi ⟨rfl, ⟨y, rfl⟩, hp⟩ ⟨rfl, hx⟩
          obtain ⟨d, hd1, hd2⟩ := ha.get hx
          refine ⟨_, rfl, x, _, _, _, _, rfl, .ty _, ty_dp hd2, kit_list d, _, rfl, ?_⟩
          by_cases mw : isList d = true
          · rw [mw]
            refine ifF rfl ⟨rfl, ⟨_, rfl⟩, ?_⟩
            rw [TS.take_one hd1, List.all_append, hp]
            simp [mw]
          · rw [Bool.eq_false_iff.mpr mw]
            refine ifT rfl ?_
            have e : isBranches (.tuple ds) = false := by
              show (decide (2 ≤ ds.length ∧ ds.length ≤ 3) && ds.all isList) = false
              rw [eL, Bool.true_and]
              refine Bool.eq_false_iff.mpr fun q => ?_
              exact mw (List.all_eq_true.mp q d (List.mem_of_getElem? hd1))
            rw [e] at k
            exact k
        · rintro σ H1 ⟨rfl, ⟨y, rfl⟩, hp⟩
          rw [List.take_of_length_le (by omega)] at hp
          have e : isBranches (.tuple ds) = true := by
            show (decide (2 ≤ ds.length ∧ ds.length ≤ 3) && ds.all isList) = true
            rw [eL, hp]
            rfl
          rw [e] at k
          exact k
      · rw [decide_eq_false c]
        refine ifT rfl ?_
        have e : isBranches (.tuple ds) = false := by
          show (decide (2 ≤ ds.length ∧ ds.length ≤ 3) && _) = false
          rw [decide_eq_false (by omega)]
          rfl
        rw [e] at k
        exact k
    | _ => exact ifT rfl k
end
end Op
namespace Op
open PySem L2 PyProof.Rows
/-! ### the mirror: one row -/
structure Chk where
  total : Int
  labels : List Str
  slots : List Str
  gates : List Str
  edits : List Str
/-- what a check knows: asks, signals, whether edit rows may be -/
structure Env0 where
  asks : List Str
  sigs : List Str
  we : Bool
def partFits (E : Env0) (code : Str) (d : PyData) : Bool :=
  if code = "a" then isWord d && decide (strOf d ∈ E.asks)
  else if code = "g" then isWord d && decide (strOf d ∈ E.sigs)
  else if code = "s" then isWord d && !decide (strOf d = "in")
  else if code = "m" ∨ code = "v" then areWords 3 d
  else if code = "b" then isList d
  else if code = "t" then isBranches d
  else isWord d
def idFits (c : Chk) (kind : Str) (parts : List PyData) : Bool :=
  if kind = "edit" then !decide (strOf (parts.headD .none) ∈ c.edits) && !decide (strOf (parts.headD .none) ∈ c.gates)
  else if kind = "gate" ∨ kind = "past" then !decide (strOf (parts.headD .none) ∈ c.edits)
  else true
def shapes : List (Str × Str) := [("ask", "al"), ("timer", "l"), ("await", "ls"), ("first", "ms"), ("drop", "l"), ("take", "gs"), ("note", "sv"), ("put", "sw"), ("if", "rwbb"), ("loop", "b"), ("leave", ""), ("part", "b"), ("both", "t"), ("gate", "ibb"), ("past", "ib"), ("edit", "ibb"), ("end", "r"), ("anew", "r")]
def putW (xs : List Str) (x : Str) : List Str := if x ∈ xs then xs else xs ++ [x]
/-! ### the object -/
structure RcA where
  C : Addr
  a : Addr
  dx : Addr
  ka : Addr
  ks : Addr
  l : Addr
  s : Addr
  g : Addr
  e : Addr
def dkT (xs : List Str) : List (Key × V) := xs.map fun x => (.inr x, .bl true)
theorem valV_dkT (x : Str) : ∀ xs : List Str, (valV (dkT xs) (.inr x)).isSome = decide (x ∈ xs)
  | [] => rfl
  | y :: r => by
    show (valV ((Sum.inr y, V.bl true) :: dkT r) (.inr x)).isSome = _
    by_cases e : y = x
    · rw [valV_pos (by rw [e])]; simp [e]
    · rw [valV_neg (fun q => e (Sum.inr.inj q)), valV_dkT x r]
      simp [Ne.symm e]
theorem dkT_put (xs : List Str) (x : Str) : putK (dkT xs) (.inr x) (.bl true) = dkT (putW xs x) := by
  unfold putW
  by_cases e : x ∈ xs
  · rw [if_pos e]
    unfold putK
    have h : ((dkT xs).any fun kv => decide (kv.1 = Sum.inr x)) = true := by rw [valV_any, valV_dkT]; exact decide_eq_true e
    rw [if_pos h]
    unfold dkT
    rw [List.map_map]
    refine List.map_congr_left fun y _ => ?_
    show (if (Sum.inr y : Key) = Sum.inr x then ((Sum.inr y : Key), V.bl true) else (Sum.inr y, V.bl true)) = _
    split <;> rfl
  · rw [if_neg e, putK_new _ (by
      have h := valV_dkT x xs
      rw [decide_eq_false e] at h
      cases q : valV (dkT xs) (.inr x) with
      | none => rfl
      | some v => rw [q] at h; cases h)]
    unfold dkT
    rw [List.map_append]
    rfl
theorem dkT_len (xs : List Str) : (dkT xs).length = xs.length := List.length_map _
def rcF (A : RcA) (E : Env0) (c : Chk) : List (Str × V) := [("known_asks", .ref A.ka), ("known_signals", .ref A.ks), ("with_edits", .bl E.we), ("total", .int c.total), ("label_words", .ref A.l), ("slot_words", .ref A.s), ("gate_words", .ref A.g), ("edit_words", .ref A.e)]
def Known (H : Hp) (p : Addr) (xs : List Str) : Prop := ∃ kvs, H p = some (.dK kvs) ∧ ∀ x, (valV kvs (.inr x)).isSome = decide (x ∈ xs)
structure RC (H : Hp) (A : RcA) (E : Env0) (c : Chk) : Prop where
  ob : H A.a = some (.ins A.C A.dx (rcF A E c))
  ka : Known H A.ka E.asks
  ks : Known H A.ks E.sigs
  dl : H A.l = some (.dK (dkT c.labels))
  ds : H A.s = some (.dK (dkT c.slots))
  dg : H A.g = some (.dK (dkT c.gates))
  de : H A.e = some (.dK (dkT c.edits))
  nd : [A.ka, A.l, A.s, A.g, A.e].Nodup
  nk : [A.ks, A.l, A.s, A.g, A.e].Nodup
/-- what the class must have -/
structure RcC (K : PySem.W.Frag) (C : Addr) : Prop where
  cls : Cls K C
  n1 : NoAttr K C "known_asks"
  n2 : NoAttr K C "known_signals"
  n3 : NoAttr K C "with_edits"
  n4 : NoAttr K C "total"
  n5 : NoAttr K C "label_words"
  n6 : NoAttr K C "slot_words"
  n7 : NoAttr K C "gate_words"
  n8 : NoAttr K C "edit_words"
mutual
def wt : PyData → Nat
  | .str x => 1 + x.length
  | .list xs => 1 + wts xs
  | .tuple xs => 1 + wts xs
  | _ => 1
def wts : List PyData → Nat
  | [] => 0
  | x :: r => wt x + wts r
end
theorem wt_pos (d : PyData) : 1 ≤ wt d := by cases d <;> unfold wt <;> omega
theorem wts_len : ∀ ds : List PyData, ds.length ≤ wts ds
  | [] => Nat.le_refl _
  | d :: r => by
    have := wts_len r
    have := wt_pos d
    show r.length + 1 ≤ wt d + wts r
    omega
theorem wts_mem {d : PyData} : ∀ {ds : List PyData}, d ∈ ds → wt d ≤ wts ds
  | x :: r, h => by
    show _ ≤ wt x + wts r
    rcases List.mem_cons.mp h with rfl | h
    · omega
    · have := wts_mem h
      omega
mutual
theorem small_of : ∀ d : PyData, wt d ≤ 100000 → small d = true
  | .str x, h => by
    unfold wt at h
    exact decide_eq_true (by omega)
  | .list xs, h => by
    unfold wt at h
    have := wts_len xs
    unfold small
    rw [decide_eq_true (by omega : xs.length ≤ 100000), smalls_of xs (by omega)]
    rfl
  | .tuple xs, h => by
    unfold wt at h
    have := wts_len xs
    unfold small
    rw [decide_eq_true (by omega : xs.length ≤ 100000), smalls_of xs (by omega)]
    rfl
  | .none, _ => by unfold small; rfl
  | .bool _, _ => by unfold small; rfl
  | .int _, _ => by unfold small; rfl
  | .dict _, _ => by unfold small; rfl
theorem smalls_of : ∀ ds : List PyData, wts ds ≤ 100000 → smalls ds = true
  | [], _ => by unfold smalls; rfl
  | d :: r, h => by
    unfold wts at h
    unfold smalls
    rw [small_of d (by omega), smalls_of r (by omega)]
    rfl
end
section
variable {P : Program} {w : World} {K : PySem.W.Frag} {mg : Str → Option Value} {base : Heap}
def spPF (K : PySem.W.Frag) : Sp := fun vs H Q _ => ∃ (A : RcA) (E : Env0) (c : Chk) (x : Str) (v : V) (d : PyData), vs = [.ref A.a, .str x, v] ∧ RC H A E c ∧ RcC K A.C ∧ Dp K H v d ∧ wt d ≤ 100000 ∧ Q (.bl (partFits E x d)) H
theorem dec_strV {x y : Str} : decide (V.str x = V.str y) = decide (x = y) := by
  rw [Bool.eq_iff_iff]
  simp
theorem mono_str {v : V} {d : PyData} {K} {H : Hp} (h : Dp K H v d) (hw : isWord d = true) : v = .str (strOf d) := by
  cases h with
  | str x => rfl
  | _ => cases hw
theorem dget_known {H : Hp} {p : Addr} {kvs : List (Key × V)} {x : Str} (h : H p = some (.dK kvs)) : DGet H p (.str x) (valV kvs (.inr x)) := DGet.k (k := .inr x) h
theorem sc_RowCheck_part_fits : FnScope ["self", "code", "part"] ["self", "code", "part"] (defScope s_RowCheck_part_fits) := ⟨rfl, rfl, rfl, by decide +kernel, rfl, by decide +kernel, by decide +kernel⟩
theorem ok_part_fits {f : Addr} {fd : FuncData} (F : Fun K "part_fits" "RowCheck.part_fits" s_RowCheck_part_fits f fd) (T : Txt mg) (c_is_word : Cal P w K mg base CX0 1 "is_word" ["value"] (spWord K)) (c_are_words : Cal P w K mg base CX0 2 "are_words" ["value", "most"] (spAreWords K)) (c_is_branches : Cal P w K mg base CX0 1 "is_branches" ["value"] (spBr K)) :
    FnOk P w K mg base CX0 3 f fd ["self", "code", "part"] (spPF K) := by
  refine F.ok sc_RowCheck_part_fits (fun vs H Q E h => ?_) (fun cdv A outer s H vs Q E hr h => ?_)
  · obtain ⟨A, E, c, x, v, d, rfl, _⟩ := h
    rfl
  · obtain ⟨R, E0, c, x, v, d, rfl, O, rc, hd, hw, k⟩ := h
    have hu := hu_of hr
    have hs := small_of d hw
    have hsx : ∀ x, d = .str x → x.length ≤ 100000 := fun z e => small_str (by rw [← e]; exact hs)
    obtain ⟨ka, hka, pka⟩ := O.ka
    obtain ⟨ks, hks, pks⟩ := O.ks
    unfold partFits at k
    refine ⟨_, (pss_cons (ps_if (pt_cmpR op_eq (pv 1) pe_str (nomark _)) (pss_one (ps_ret (pe_and (pe_cal c_is_word (hr.mono (by omega)) rfl pass0 (pa_cons (pv 2) pa_nil)) (pe_one (pe_cmp (pc_din hu (pv 2) (pe_fld (pv 0) rfl))))))) pss_nil)
      (pss_cons (ps_if (pt_cmpR op_eq (pv 1) pe_str (nomark _)) (pss_one (ps_ret (pe_and (pe_cal c_is_word (hr.mono (by omega)) rfl pass0 (pa_cons (pv 2) pa_nil)) (pe_one (pe_cmp (pc_din hu (pv 2) (pe_fld (pv 0) rfl))))))) pss_nil)
      (pss_cons (ps_if (pt_cmpR op_eq (pv 1) pe_str (nomark _)) (pss_one (ps_ret (pe_and (pe_cal c_is_word (hr.mono (by omega)) rfl pass0 (pa_cons (pv 2) pa_nil)) (pe_one (pe_cmpR op_ne (pv 2) pe_str (nomark _)))))) pss_nil)
      (pss_cons (ps_if (PW.pt (pw_or (pt_cmpR op_eq (pv 1) pe_str (nomark _)) (pw_or1 (pt_cmpR op_eq (pv 1) pe_str (nomark _))))) (pss_one (ps_ret (pe_cal c_are_words (hr.mono (by omega)) rfl pass0 (pa_cons (pv 2) (pa_cons pe_int pa_nil))))) pss_nil)
      (pss_cons (ps_if (pt_cmpR op_eq (pv 1) pe_str (nomark _)) (pss_one (ps_ret (pe_callB call_isi (by rfl) T.b_isinstance (by decide +kernel) (pa_cons (pv 2) (pa_cons (pe_bltn (v := .ty "list") (by rfl) T.b_list (by decide +kernel) rfl) pa_nil))))) pss_nil)
      (pss_cons (ps_if (pt_cmpR op_eq (pv 1) pe_str (nomark _)) (pss_one (ps_ret (pe_cal c_is_branches (hr.mono (by omega)) rfl pass0 (pa_cons (pv 2) pa_nil)))) pss_nil)
      (pss_one (ps_ret (pe_cal c_is_word (hr.mono (by omega)) rfl pass0 (pa_cons (pv 2) pa_nil)))))))))), ?_⟩
    refine ⟨_, rfl, rfl, _, rfl, ?_⟩
    rw [dec_strV]
    by_cases e1 : x = "a"
    · rw [if_pos e1] at k
      refine ifT (decide_eq_true e1) ⟨_, rfl, v, d, rfl, hd, hsx, _, rfl, ?_⟩
      by_cases q : isWord d = true
      · rw [q] at k
        refine ifT q ?_
        obtain rfl := mono_str hd q
        refine ⟨_, rfl, _, rfl, _, _, _, _, _, rfl, O.ob, rc.cls, rc.n1, rfl, _, _, rfl, dget_known hka, ?_⟩
        rw [pka]
        exact k
      · rw [Bool.eq_false_iff.mpr q] at k
        exact ifF (Bool.eq_false_iff.mpr q) k
    · rw [if_neg e1] at k
      refine ifF (decide_eq_false e1) ⟨_, rfl, rfl, _, rfl, ?_⟩
      rw [dec_strV]
      by_cases e2 : x = "g"
      · rw [if_pos e2] at k
        refine ifT (decide_eq_true e2) ⟨_, rfl, v, d, rfl, hd, hsx, _, rfl, ?_⟩
        by_cases q : isWord d = true
        · rw [q] at k
          refine ifT q ?_
          obtain rfl := mono_str hd q
          refine ⟨_, rfl, _, rfl, _, _, _, _, _, rfl, O.ob, rc.cls, rc.n2, rfl, _, _, rfl, dget_known hks, ?_⟩
          rw [pks]
          exact k
        · rw [Bool.eq_false_iff.mpr q] at k
          exact ifF (Bool.eq_false_iff.mpr q) k
      · rw [if_neg e2] at k
        refine ifF (decide_eq_false e2) ⟨_, rfl, rfl, _, rfl, ?_⟩
        rw [dec_strV]
        by_cases e3 : x = "s"
        · rw [if_pos e3] at k
          refine ifT (decide_eq_true e3) ⟨_, rfl, v, d, rfl, hd, hsx, _, rfl, ?_⟩
          by_cases q : isWord d = true
          · rw [q] at k
            refine ifT q ?_
            obtain rfl := mono_str hd q
            refine ⟨_, rfl, rfl, ?_⟩
            rw [dec_strV]
            exact k
          · rw [Bool.eq_false_iff.mpr q] at k
            exact ifF (Bool.eq_false_iff.mpr q) k
        · rw [if_neg e3] at k
          refine ifF (decide_eq_false e3) ⟨_, rfl, rfl, _, rfl, ?_⟩
          rw [dec_strV]
          by_cases e4 : x = "m" ∨ x = "v"
          · rw [if_pos e4] at k
            by_cases e5 : x = "m"
            · refine ifT (decide_eq_true e5) ?_
              refine ifT rfl ⟨_, rfl, v, d, 3, rfl, hd, hs, by decide, k⟩
            · refine ifF (decide_eq_false e5) ⟨_, rfl, rfl, _, rfl, ?_⟩
              rw [dec_strV]
              refine ifT (decide_eq_true (e4.resolve_left e5)) ⟨_, rfl, v, d, 3, rfl, hd, hs, by decide, k⟩
          · rw [if_neg e4] at k
            refine ifF (decide_eq_false fun h => e4 (.inl h)) ⟨_, rfl, rfl, _, rfl, ?_⟩
            rw [dec_strV]
            refine ifF (decide_eq_false fun h => e4 (.inr h)) ⟨_, rfl, rfl, _, rfl, ?_⟩
            rw [dec_strV]
            by_cases e6 : x = "b"
            · rw [if_pos e6] at k
              exact ifT (decide_eq_true e6) ⟨_, rfl, v, _, _, _, _, rfl, .ty _, ty_dp hd, kit_list d, k⟩
            · rw [if_neg e6] at k
              refine ifF (decide_eq_false e6) ⟨_, rfl, rfl, _, rfl, ?_⟩
              rw [dec_strV]
              by_cases e7 : x = "t"
              · rw [if_pos e7] at k
                exact ifT (decide_eq_true e7) ⟨_, rfl, v, d, rfl, hd, k⟩
              · rw [if_neg e7] at k
                exact ifF (decide_eq_false e7) ⟨_, rfl, v, d, rfl, hd, hsx, k⟩
end
end Op
namespace L2
open PySem PySem.Spec PyProof.Rows
/-! ### frames -/
def seqO : HO → Bool
  | .lst _ => true
  | .tup _ => true
  | .frz _ _ => true
  | _ => false
/-- lists and tuples stay -/
def Kp (H H' : Hp) : Prop := ∀ b o, H b = some o → seqO o = true → H' b = some o
/-- all but those of L stay -/
def Fr (L : List Addr) (H H' : Hp) : Prop := ∀ b o, H b = some o → b ∉ L → H' b = some o
theorem Same.kp {H H' : Hp} (s : Same H H') : Kp H H' := fun b o h _ => s b o h
theorem Same.fr {L : List Addr} {H H' : Hp} (s : Same H H') : Fr L H H' := fun b o h _ => s b o h
theorem Fr.refl {L : List Addr} {H : Hp} : Fr L H H := fun _ _ h _ => h
theorem Fr.trans {L : List Addr} {H H' H'' : Hp} (a : Fr L H H') (b : Fr L H' H'') : Fr L H H'' := fun c o h n => b c o (a c o h n) n
theorem Fr.upd {L : List Addr} {H H' : Hp} {a : Addr} {o : HO} (f : Fr L H H') (h : a ∈ L) : Fr L H (upd H' a o) := fun b u e n => by
  have q : b ≠ a := fun q => n (by rw [q]; exact h)
  rw [L2.upd_ne q]
  exact f b u e n
theorem Same.new {H : Hp} {a : Addr} {o : HO} (h : H a = none) : Same H (upd H a o) := fun b u e => by rw [upd_ne (ne_of_none e h)]; exact e
theorem Kp.trans {H H' H'' : Hp} (a : Kp H H') (b : Kp H' H'') : Kp H H'' := fun c o h n => b c o (a c o h n) n
theorem SqL.kp {K : PySem.W.Frag} {H H' : Hp} {a : Addr} {xs : List V} (h : SqL K H a xs) (s : Kp H H') : SqL K H' a xs := by
  rcases h with (h | ⟨o, h⟩) | h
  · exact .inl (.inl (s _ _ h rfl))
  · exact .inl (.inr ⟨o, s _ _ h rfl⟩)
  · exact .inr h
theorem SqT.kp {K : PySem.W.Frag} {H H' : Hp} {a : Addr} {xs : List V} (h : SqT K H a xs) (s : Kp H H') : SqT K H' a xs := by
  rcases h with (h | ⟨o, h⟩) | h
  · exact .inl (.inl (s _ _ h rfl))
  · exact .inl (.inr ⟨o, s _ _ h rfl⟩)
  · exact .inr h
mutual
theorem Dp.kp {K : PySem.W.Frag} {H H' : Hp} (s : Kp H H') : ∀ {v : V} {d : PyData}, Dp K H v d → Dp K H' v d
  | _, _, .non => .non
  | _, _, .bl b => .bl b
  | _, _, .int i => .int i
  | _, _, .str x => .str x
  | _, _, .lst h a => .lst (h.kp s) (DpAll.kp s a)
  | _, _, .tup h a => .tup (h.kp s) (DpAll.kp s a)
theorem DpAll.kp {K : PySem.W.Frag} {H H' : Hp} (s : Kp H H') : ∀ {vs : List V} {ds : List PyData}, DpAll K H vs ds → DpAll K H' vs ds
  | _, _, .nil => .nil
  | _, _, .cons h a => .cons (Dp.kp s h) (DpAll.kp s a)
end
theorem DpAll.get' {K : PySem.W.Frag} {H : Hp} : ∀ {vs : List V} {ds : List PyData} {i : Nat} {d : PyData}, DpAll K H vs ds → ds[i]? = some d → ∃ v, vs[i]? = some v ∧ Dp K H v d
  | _, _, i, _, .nil, h => by simp at h
  | _, _, 0, d, .cons (v := v) h a, e => by
    have e' := Option.some.inj e
    subst e'
    exact ⟨v, rfl, h⟩
  | _, _, i + 1, v, .cons h a, e => a.get' (i := i) e
end L2
namespace Op
open PySem L2 PyProof.Rows
def RcA.L (A : RcA) : List Addr := [A.a, A.l, A.s, A.g, A.e]
section
variable {H H' : Hp} {A : RcA} {E : Env0} {c : Chk}
theorem RC.kp (O : RC H A E c) (f : Fr A.L H H') : Kp H H' := fun b o h n => f b o h fun m => by
  have : b = A.a ∨ b = A.l ∨ b = A.s ∨ b = A.g ∨ b = A.e := by simpa [RcA.L] using m
  rcases this with rfl | rfl | rfl | rfl | rfl
  · rw [O.ob] at h; cases h; cases n
  · rw [O.dl] at h; cases h; cases n
  · rw [O.ds] at h; cases h; cases n
  · rw [O.dg] at h; cases h; cases n
  · rw [O.de] at h; cases h; cases n
theorem Known.mono {p : Addr} {xs : List Str} (h : Known H p xs) (s : ∀ o, H p = some o → H' p = some o) : Known H' p xs := let ⟨kvs, h1, h2⟩ := h; ⟨kvs, s _ h1, h2⟩
theorem RC.mono (O : RC H A E c) (s : Same H H') : RC H' A E c := ⟨s _ _ O.ob, O.ka.mono (s _), O.ks.mono (s _), s _ _ O.dl, s _ _ O.ds, s _ _ O.dg, s _ _ O.de, O.nd, O.nk⟩
theorem Known.ne_ins {p a C dx : Addr} {fs : List (Str × V)} {xs : List Str} (h : Known H p xs) (e : H a = some (.ins C dx fs)) : p ≠ a := fun q => by
  obtain ⟨kvs, h1, _⟩ := h
  rw [q, e] at h1
  cases h1
theorem RC.nes (O : RC H A E c) : A.a ≠ A.l ∧ A.a ≠ A.s ∧ A.a ≠ A.g ∧ A.a ≠ A.e ∧ A.a ≠ A.ka ∧ A.a ≠ A.ks :=
  ⟨ne_of O.ob O.dl nofun, ne_of O.ob O.ds nofun, ne_of O.ob O.dg nofun, ne_of O.ob O.de nofun, (O.ka.ne_ins O.ob).symm, (O.ks.ne_ins O.ob).symm⟩
theorem RC.nds (O : RC H A E c) : (A.ka ≠ A.l ∧ A.ka ≠ A.s ∧ A.ka ≠ A.g ∧ A.ka ≠ A.e) ∧ (A.ks ≠ A.l ∧ A.ks ≠ A.s ∧ A.ks ≠ A.g ∧ A.ks ≠ A.e) ∧ A.l ≠ A.s ∧ A.l ≠ A.g ∧ A.l ≠ A.e ∧ A.s ≠ A.g ∧ A.s ≠ A.e ∧ A.g ≠ A.e := by
  have h1 := O.nd
  have h2 := O.nk
  simp [List.nodup_cons] at h1 h2
  obtain ⟨⟨a1, a2, a3, a4⟩, ⟨b1, b2, b3⟩, ⟨c1, c2⟩, d1⟩ := h1
  obtain ⟨⟨e1, e2, e3, e4⟩, _⟩ := h2
  exact ⟨⟨a1, a2, a3, a4⟩, ⟨e1, e2, e3, e4⟩, b1, b2, b3, c1, c2, d1⟩
theorem RC.put_l (O : RC H A E c) (x : Str) : RC (upd H A.l (.dK (dkT (putW c.labels x)))) A E { c with labels := putW c.labels x } := by
  obtain ⟨a1, a2, a3, a4, a5, a6⟩ := O.nes
  obtain ⟨⟨k1, k2, k3, k4⟩, ⟨s1, s2, s3, s4⟩, b1, b2, b3, b4, b5, b6⟩ := O.nds
  exact ⟨by rw [upd_ne a1]; exact O.ob, O.ka.mono fun o h => by rw [upd_ne k1]; exact h, O.ks.mono fun o h => by rw [upd_ne s1]; exact h, upd_same, by rw [upd_ne b1.symm]; exact O.ds, by rw [upd_ne b2.symm]; exact O.dg, by rw [upd_ne b3.symm]; exact O.de, O.nd, O.nk⟩
theorem RC.put_s (O : RC H A E c) (x : Str) : RC (upd H A.s (.dK (dkT (putW c.slots x)))) A E { c with slots := putW c.slots x } := by
  obtain ⟨a1, a2, a3, a4, a5, a6⟩ := O.nes
  obtain ⟨⟨k1, k2, k3, k4⟩, ⟨s1, s2, s3, s4⟩, b1, b2, b3, b4, b5, b6⟩ := O.nds
  exact ⟨by rw [upd_ne a2]; exact O.ob, O.ka.mono fun o h => by rw [upd_ne k2]; exact h, O.ks.mono fun o h => by rw [upd_ne s2]; exact h, by rw [upd_ne b1]; exact O.dl, upd_same, by rw [upd_ne b4.symm]; exact O.dg, by rw [upd_ne b5.symm]; exact O.de, O.nd, O.nk⟩
theorem RC.put_g (O : RC H A E c) (x : Str) : RC (upd H A.g (.dK (dkT (putW c.gates x)))) A E { c with gates := putW c.gates x } := by
  obtain ⟨a1, a2, a3, a4, a5, a6⟩ := O.nes
  obtain ⟨⟨k1, k2, k3, k4⟩, ⟨s1, s2, s3, s4⟩, b1, b2, b3, b4, b5, b6⟩ := O.nds
  exact ⟨by rw [upd_ne a3]; exact O.ob, O.ka.mono fun o h => by rw [upd_ne k3]; exact h, O.ks.mono fun o h => by rw [upd_ne s3]; exact h, by rw [upd_ne b2]; exact O.dl, by rw [upd_ne b4]; exact O.ds, upd_same, by rw [upd_ne b6.symm]; exact O.de, O.nd, O.nk⟩
theorem RC.put_e (O : RC H A E c) (x : Str) : RC (upd H A.e (.dK (dkT (putW c.edits x)))) A E { c with edits := putW c.edits x } := by
  obtain ⟨a1, a2, a3, a4, a5, a6⟩ := O.nes
  obtain ⟨⟨k1, k2, k3, k4⟩, ⟨s1, s2, s3, s4⟩, b1, b2, b3, b4, b5, b6⟩ := O.nds
  exact ⟨by rw [upd_ne a4]; exact O.ob, O.ka.mono fun o h => by rw [upd_ne k4]; exact h, O.ks.mono fun o h => by rw [upd_ne s4]; exact h, by rw [upd_ne b3]; exact O.dl, by rw [upd_ne b5]; exact O.ds, by rw [upd_ne b6]; exact O.dg, upd_same, O.nd, O.nk⟩
theorem RC.tot (O : RC H A E c) (n : Int) : RC (upd H A.a (.ins A.C A.dx (rcF A E { c with total := n }))) A E { c with total := n } := by
  obtain ⟨a1, a2, a3, a4, a5, a6⟩ := O.nes
  exact ⟨upd_same, O.ka.mono fun o h => by rw [upd_ne a5.symm]; exact h, O.ks.mono fun o h => by rw [upd_ne a6.symm]; exact h, by rw [upd_ne a1.symm]; exact O.dl, by rw [upd_ne a2.symm]; exact O.ds, by rw [upd_ne a3.symm]; exact O.dg, by rw [upd_ne a4.symm]; exact O.de, O.nd, O.nk⟩
theorem dput_w {p : Addr} {xs : List Str} {x : Str} (h : H p = some (.dK (dkT xs))) (hl : xs.length < sizeLine) : DPut H p (.str x) (.bl true) (upd H p (.dK (dkT (putW xs x)))) := by
  rw [← dkT_put]
  exact DPut.k (k := .inr x) h (by rw [dkT_len]; exact hl)
theorem putW_len (xs : List Str) (x : Str) : (putW xs x).length ≤ xs.length + 1 := by
  unfold putW
  split
  · omega
  · simp
end
section
variable {P : Program} {w : World} {K : PySem.W.Frag} {mg : Str → Option Value} {base : Heap}
def spID (K : PySem.W.Frag) : Sp := fun vs H Q _ => ∃ (A : RcA) (E : Env0) (c : Chk) (t : Addr) (kind : Str) (parts : List PyData), vs = [.ref A.a, .ref t] ∧ RC H A E c ∧ RcC K A.C ∧ Dp K H (.ref t) (.tuple (.str kind :: parts)) ∧
  (kind = "edit" ∨ kind = "gate" ∨ kind = "past" → ∃ x r, parts = .str x :: r) ∧ ∀ H', Same H H' → Q (.bl (idFits c kind parts)) H'
theorem sz_lit {n : Nat} (h : n ≤ 100000) : n ≤ sizeLine := Evl.sz_of h
theorem inV2 (x a b : Str) : inV (.str x) [.str a, .str b] = decide (x = a ∨ x = b) := by
  show (eqV (.str a) (.str x) || (eqV (.str b) (.str x) || false)) = _
  have e : ∀ y : Str, eqV (.str y) (.str x) = decide (x = y) := fun y => by
    show (y == x) = _
    by_cases q : x = y
    · rw [decide_eq_true q, q]; simp
    · rw [decide_eq_false q]; simpa using Ne.symm q
  rw [e, e, Bool.or_false, Bool.eq_iff_iff]
  simp
theorem atI_zero {α : Type} (x : α) (r : List α) : atI (x :: r) 0 = some x := by
  unfold atI ixN
  rw [if_pos (Int.le_refl _), if_pos (by simp only [List.length_cons]; omega)]
  rfl
theorem atI_one {α : Type} (x y : α) (r : List α) : atI (x :: y :: r) 1 = some y := by
  unfold atI ixN
  rw [if_pos (by decide), if_pos (by simp only [List.length_cons]; omega)]
  rfl
theorem sc_RowCheck_id_fits : FnScope ["self", "row"] ["self", "row"] (defScope s_RowCheck_id_fits) := ⟨rfl, rfl, rfl, by decide +kernel, rfl, by decide +kernel, by decide +kernel⟩
theorem ok_id_fits {f : Addr} {fd : FuncData} (F : Fun K "id_fits" "RowCheck.id_fits" s_RowCheck_id_fits f fd) : FnOk P w K mg base CX0 1 f fd ["self", "row"] (spID K) := by
  refine F.ok sc_RowCheck_id_fits (fun vs H Q E h => ?_) (fun cdv A outer s H vs Q E hr h => ?_)
  · obtain ⟨A, E, c, t, kind, parts, rfl, _⟩ := h
    rfl
  · obtain ⟨R, E0, c, t, kind, parts, rfl, O, rc, hd, hp, k⟩ := h
    have hu := hu_of hr
    cases hd with
    | @tup _ xs _ hq ha =>
    cases ha with
    | @cons v0 _ vr _ h0 hr0 =>
    cases h0 with
    | str kind =>
    unfold idFits at k
    refine ⟨_, (pss_cons (ps_if (pt_cmpR op_eq (pe_ix ix_tup (pv 1) pe_int (fun _ _ => rfl)) pe_str (nomark _)) (pss_one (ps_ret (pe_and (pe_cmp (pc_dnotin hu (pe_ix ix_tup (pv 1) pe_int (fun _ _ => rfl)) (pe_fld (pv 0) rfl))) (pe_one (pe_cmp (pc_dnotin hu (pe_ix ix_tup (pv 1) pe_int (fun _ _ => rfl)) (pe_fld (pv 0) rfl))))))) pss_nil)
      (pss_cons (ps_if (pt_cmpR op_in_seq (pe_ix ix_tup (pv 1) pe_int (fun _ _ => rfl)) (pe_tup (pa_cons pe_str (pa_cons pe_str pa_nil))) (by rfl)) (pss_one (ps_ret (pe_cmp (pc_dnotin hu (pe_ix ix_tup (pv 1) pe_int (fun _ _ => rfl)) (pe_fld (pv 0) rfl))))) pss_nil)
      (pss_one (ps_ret pe_bl)))), ?_⟩
    refine ⟨_, rfl, t, _, 0, _, rfl, rfl, hq, atI_zero _ _, rfl, _, rfl, ?_⟩
    rw [dec_strV]
    by_cases e1 : kind = "edit"
    · obtain ⟨x, r, rfl⟩ := hp (.inl e1)
      cases hr0 with
      | @cons v1 _ vr _ h1 _ =>
      cases h1 with
      | str x =>
      rw [if_pos e1] at k
      refine ifT (decide_eq_true e1) ?_
      refine ⟨_, rfl, t, _, 1, _, rfl, rfl, hq, atI_one _ _ _, _, rfl, _, _, _, _, _, rfl, O.ob, rc.cls, rc.n8, rfl, _, _, rfl, dget_known O.de, _, rfl, ?_⟩
      rw [valV_dkT]
      by_cases q : x ∈ c.edits
      · rw [decide_eq_true q]
        refine ifF rfl ?_
        have := k H (Same.refl H)
        rw [show (PyData.str x :: r).headD PyData.none = .str x from rfl] at this
        rw [show strOf (.str x) = x from rfl, decide_eq_true q] at this
        exact this
      · rw [decide_eq_false q]
        refine ifT rfl ?_
        refine ⟨_, rfl, t, _, 1, _, rfl, rfl, hq, atI_one _ _ _, _, rfl, _, _, _, _, _, rfl, O.ob, rc.cls, rc.n7, rfl, _, _, rfl, dget_known O.dg, ?_⟩
        rw [valV_dkT]
        have := k H (Same.refl H)
        rw [show (PyData.str x :: r).headD PyData.none = .str x from rfl] at this
        rw [show strOf (.str x) = x from rfl, decide_eq_false q] at this
        exact this
    · rw [if_neg e1] at k
      refine ifF (decide_eq_false e1) ?_
      refine ⟨_, rfl, t, _, 0, _, rfl, rfl, hq, atI_zero _ _, sz_lit (by decide), fun p hp0 => ⟨p, _, rfl, .inr (.inl (.inl upd_same)), rfl, rfl, _, rfl, ?_⟩⟩
      rw [inV2]
      have sm : Same H (upd H p (.tup [.str "gate", .str "past"])) := Same.new hp0
      by_cases e2 : kind = "gate" ∨ kind = "past"
      · rw [if_pos e2] at k
        refine ifT (decide_eq_true e2) ?_
        obtain ⟨x, r, rfl⟩ := hp (.inr e2)
        cases hr0 with
        | @cons v1 _ vr _ h1 _ =>
        cases h1 with
        | str x =>
        refine ⟨_, rfl, t, _, 1, _, rfl, rfl, hq.mono sm, atI_one _ _ _, _, rfl, _, _, _, _, _, rfl, sm _ _ O.ob, rc.cls, rc.n8, rfl, _, _, rfl, dget_known (sm _ _ O.de), ?_⟩
        rw [valV_dkT]
        exact k _ sm
      · rw [if_neg e2] at k
        refine ifF (decide_eq_false e2) ?_
        exact k _ sm
end
end Op
namespace Op
open PySem L2 PyProof.Rows
def colPart (kind : Str) (c : Chk) (code : Str) (d : PyData) : Chk :=
  if code = "l" then { c with labels := putW c.labels (strOf d) }
  else if code = "m" then { c with labels := (match d with | .tuple ds => (ds.map strOf).foldl putW c.labels | _ => c.labels) }
  else if (code = "s" ∨ code = "r") ∧ ¬ strOf d = "in" then { c with slots := putW c.slots (strOf d) }
  else if code = "i" ∧ kind = "edit" then { c with edits := putW c.edits (strOf d) }
  else if code = "i" then { c with gates := putW c.gates (strOf d) }
  else c
def collect (c : Chk) (kind sh : Str) (parts : List PyData) : Chk := (sh.cps.toList.zip parts).foldl (fun c p => colPart kind c ⟨#[p.1]⟩ p.2) c
def colN (c : Chk) (kind sh : Str) (parts : List PyData) (i : Nat) : Chk := ((sh.cps.toList.zip parts).take i).foldl (fun c p => colPart kind c ⟨#[p.1]⟩ p.2) c
theorem colN_zero (c : Chk) (kind sh : Str) (parts : List PyData) : colN c kind sh parts 0 = c := rfl
theorem colN_all {c : Chk} {kind sh : Str} {parts : List PyData} (h : sh.cps.size = parts.length) : colN c kind sh parts parts.length = collect c kind sh parts := by
  unfold colN collect
  rw [List.take_of_length_le (by rw [List.length_zip, Array.length_toList]; omega)]
theorem colN_succ {c : Chk} {kind sh : Str} {parts : List PyData} {i ch : Nat} {d : PyData} (h1 : sh.cps[i]? = some ch) (h2 : parts[i]? = some d) : colN c kind sh parts (i + 1) = colPart kind (colN c kind sh parts i) ⟨#[ch]⟩ d := by
  unfold colN
  have h : (sh.cps.toList.zip parts)[i]? = some (ch, d) := by
    rw [List.getElem?_zip_eq_some]
    exact ⟨by rw [Array.getElem?_toList]; exact h1, h2⟩
  rw [TS.take_one h, List.foldl_append]
  rfl
/-- sizes of what was collected -/
def Cap (c : Chk) (n : Nat) : Prop := c.labels.length ≤ n ∧ c.slots.length ≤ n ∧ c.gates.length ≤ n ∧ c.edits.length ≤ n
theorem Cap.mono {c : Chk} {m n : Nat} (h : Cap c m) (e : m ≤ n) : Cap c n := ⟨by have := h.1; omega, by have := h.2.1; omega, by have := h.2.2.1; omega, by have := h.2.2.2; omega⟩
theorem foldW_len : ∀ (ys xs : List Str), (ys.foldl putW xs).length ≤ xs.length + ys.length
  | [], xs => Nat.le_refl _
  | y :: r, xs => by
    have := foldW_len r (putW xs y)
    have := putW_len xs y
    show (r.foldl putW (putW xs y)).length ≤ _
    rw [List.length_cons]
    omega
section
variable {E : Env0} {d : PyData}
theorem pf_word {x : Str} (h : partFits E x d = true) (n : ¬ (x = "m" ∨ x = "v") ∧ ¬ x = "b" ∧ ¬ x = "t") : isWord d = true := by
  unfold partFits at h
  rw [if_neg n.1, if_neg n.2.1, if_neg n.2.2] at h
  split at h
  · exact (Bool.and_eq_true_iff.mp h).1
  · split at h
    · exact (Bool.and_eq_true_iff.mp h).1
    · split at h
      · exact (Bool.and_eq_true_iff.mp h).1
      · exact h
theorem pf_m (h : partFits E "m" d = true) : areWords 3 d = true := h
theorem aw_tup {m : Int} (h : areWords m d = true) : ∃ zs : List Str, d = .tuple (zs.map PyData.str) ∧ (zs.length : Int) ≤ m ∧ (∀ z ∈ zs, isWordS z = true) ∧ zs.Nodup ∧ 1 ≤ zs.length := by
  cases d with
  | tuple ds =>
    obtain ⟨h1, h2⟩ := Bool.and_eq_true_iff.mp h
    obtain ⟨h3, h4⟩ := Bool.and_eq_true_iff.mp h2
    have h1 := of_decide_eq_true h1
    have h4 := of_decide_eq_true h4
    have key : ∀ ds : List PyData, ds.all isWord = true → ∃ zs : List Str, ds = zs.map PyData.str ∧ ∀ z ∈ zs, isWordS z = true := by
      intro ds
      induction ds with
      | nil => exact fun _ => ⟨[], rfl, fun _ h => by cases h⟩
      | cons d r ih =>
        intro h
        obtain ⟨a, b⟩ := Bool.and_eq_true_iff.mp h
        obtain ⟨zs, e, p⟩ := ih b
        cases d with
        | str x => exact ⟨x :: zs, by rw [e]; rfl, fun z hz => by
            rcases List.mem_cons.mp hz with rfl | hz
            · exact a
            · exact p z hz⟩
        | _ => cases a
    obtain ⟨zs, rfl, p⟩ := key ds h3
    have e1 : (zs.map PyData.str).map strOf = zs := by
      rw [List.map_map]
      have : (strOf ∘ PyData.str) = id := by funext z; rfl
      rw [this, List.map_id]
    rw [e1] at h4
    rw [List.length_map] at h1
    exact ⟨zs, rfl, h1.2, p, h4, h1.1⟩
  | _ => cases h
end
theorem map_strOf (zs : List Str) : (zs.map PyData.str).map strOf = zs := by
  rw [List.map_map]
  have : (strOf ∘ PyData.str) = id := by funext z; rfl
  rw [this, List.map_id]
/-- the names of the module that the check reads -/
structure TxtC (P : Program) (w : World) (K : PySem.W.Frag) (mg : Str → Option Value) (pS CI : Addr) : Prop extends Txt mg where
  g_SHAPES : mg "SHAPES" = some (.ref pS)
  w_SHAPES : WTab K w pS (shapes.map fun p => (p.1, .str p.2))
  g_MOST_ROWS : ∃ t, mg "MOST_ROWS" = some (.int 60 t)
  g_MOST_LABELS : ∃ t, mg "MOST_LABELS" = some (.int 6 t)
  g_MOST_SLOTS : ∃ t, mg "MOST_SLOTS" = some (.int 4 t)
  g_MOST_GATES : ∃ t, mg "MOST_GATES" = some (.int 8 t)
  g_MOST_EDITS : ∃ t, mg "MOST_EDITS" = some (.int 4 t)
  g_DEEPEST : ∃ t, mg "DEEPEST" = some (.int 5 t)
  g_InvalidProgram : mg "InvalidProgram" = some (.ref CI)
  k_InvalidProgram : PySem.W.keepIn K (.ref CI) = true
  mk_InvalidProgram : XMk P w K CI 2 [] (fun vs _ => [("path", vs.getD 1 .non), ("part", vs.getD 0 .non)])
  r_InvalidProgram : ∀ (M : Model) (h : Heap), K.In h → PySem.W.Looks M h (isSubtype (.ref CI) (.type "BaseException")) true ∧ PySem.W.Looks M h (typeOf (.ref CI)) (.type "type")
theorem shapes_look (x : Str) : (shapes.map fun p => (p.1, V.str p.2)).lookup x = (shapes.lookup x).map V.str := by
  generalize shapes = l
  induction l with
  | nil => rfl
  | cons p r ih =>
    obtain ⟨a, b⟩ := p
    simp only [List.map_cons, List.lookup_cons]
    cases x == a with
    | true => rfl
    | false => exact ih
theorem lt_sz {n : Nat} (h : n < 100000) : n < sizeLine := Nat.lt_of_lt_of_le h (sz_lit (Nat.le_refl _))
theorem cut1 (v : V) (r : List V) : cutV (v :: r) (some 1) none = r := by
  unfold cutV
  rw [HT.sIx_none, show (1 : Int) = ((1 : Nat) : Int) from rfl, HT.sIx_nat, List.length_cons, show min 1 (r.length + 1) = 1 by omega]
  show r.take (r.length + 1 - 1) = r
  rw [List.take_of_length_le (by omega)]
theorem cut1n (v : V) (r : List V) : ¬ (HT.sIx (v :: r).length 0 (some 1) = 0 ∧ HT.sIx (v :: r).length (v :: r).length none = (v :: r).length) := by
  rw [show (1 : Int) = ((1 : Nat) : Int) from rfl, HT.sIx_nat, List.length_cons]
  omega
section
variable {P : Program} {w : World} {K : PySem.W.Frag} {mg : Str → Option Value} {base : Heap} {pS CI : Addr}
def Fitted (E : Env0) (sh : Str) (parts : List PyData) : Prop := sh.cps.size = parts.length ∧ ∀ (i ch : Nat) (d : PyData), sh.cps[i]? = some ch → parts[i]? = some d → partFits E ⟨#[ch]⟩ d = true
def spCol (K : PySem.W.Frag) : Sp := fun vs H Q _ => ∃ (A : RcA) (E : Env0) (c : Chk) (t : Addr) (kind sh : Str) (parts : List PyData), vs = [.ref A.a, .ref t] ∧ RC H A E c ∧ RcC K A.C ∧ Dp K H (.ref t) (.tuple (.str kind :: parts)) ∧
  shapes.lookup kind = some sh ∧ Fitted E sh parts ∧ parts.length ≤ 100 ∧ Cap c 90000 ∧ ∀ H', Fr A.L H H' → RC H' A E (collect c kind sh parts) → Q .non H'
theorem sc_RowCheck_collect : FnScope ["self", "row", "code", "part", "label"] ["self", "row"] (defScope s_RowCheck_collect) := ⟨rfl, rfl, rfl, by decide +kernel, rfl, by decide +kernel, by decide +kernel⟩
theorem ok_collect {f : Addr} {fd : FuncData} (F : Fun K "collect" "RowCheck.collect" s_RowCheck_collect f fd) (T : TxtC P w K mg pS CI) : FnOk P w K mg base CX0 1 f fd ["self", "row"] (spCol K) := by
  refine F.ok sc_RowCheck_collect (fun vs H Q E h => ?_) (fun cdv A outer s H vs Q E hr h => ?_)
  · obtain ⟨A, E, c, t, kind, sh, parts, rfl, _⟩ := h
    rfl
  · obtain ⟨R, E0, c, t, kind, sh, parts, rfl, O, rc, hd, hsh, ⟨hlen, hfit⟩, hpl, hcap, k⟩ := h
    have hu := hu_of hr
    cases hd with
    | @tup _ xs _ hq ha =>
    cases ha with
    | @cons v0 vr d0 dr h0 hr0 =>
    cases h0 with
    | str kind =>
    have hvl := hr0.len
    refine ⟨_, (pss_one (ps_for PassesOwn.never rfl (pi_zipS (by rfl) T.b_zip (pa_cons (pe_ix ix_wtab (pe_gref rfl T.g_SHAPES) (pe_ix ix_tup (pv 1) pe_int (fun _ _ => rfl)) (fun _ _ => rfl)) (pa_cons (pe_slice sl_tupA (pv 1) (po_some pe_int) po_none) pa_nil))) (pg_tup rfl (pgs_cons (pg_name (i := 2) sc_RowCheck_collect.nd rfl (.inl rfl)) (pgs_cons (pg_name (i := 3) sc_RowCheck_collect.nd rfl (.inl rfl)) pgs_nil))) (pss_one (ps_if (pt_cmpR op_eq (pv 2) pe_str (nomark _)) (pss_one (ps_dput hu (pe_fld (pv 0) rfl) (pv 3) pe_bl rfl)) (pss_one (ps_if (pt_cmpR op_eq (pv 2) pe_str (nomark _)) (pss_one (ps_for PassesOwn.never rfl (pi_tup (pv 3)) (pg_name (i := 4) sc_RowCheck_collect.nd rfl (.inl rfl)) (pss_one (ps_dput hu (pe_fld (pv 0) rfl) (pv 4) pe_bl rfl)))) (pss_one (ps_if (PW.pt (pw_and (pt_cmpR op_in_seq (pv 2) (pe_tup (pa_cons pe_str (pa_cons pe_str pa_nil))) (by rfl)) (pw_and1 (pt_cmpR op_ne (pv 3) pe_str (nomark _))))) (pss_one (ps_dput hu (pe_fld (pv 0) rfl) (pv 3) pe_bl rfl)) (pss_one (ps_if (PW.pt (pw_and (pt_cmpR op_eq (pv 2) pe_str (nomark _)) (pw_and1 (pt_cmpR op_eq (pe_ix ix_tup (pv 1) pe_int (fun _ _ => rfl)) pe_str (nomark _))))) (pss_one (ps_dput hu (pe_fld (pv 0) rfl) (pv 3) pe_bl rfl)) (pss_one (ps_if (pt_cmpR op_eq (pv 2) pe_str (nomark _)) (pss_one (ps_dput hu (pe_fld (pv 0) rfl) (pv 3) pe_bl rfl)) pss_nil)))))))))))), ?_⟩
    refine ⟨_, rfl, t, _, 0, _, rfl, rfl, hq, atI_zero _ _, pS, kind, _, .str sh, rfl, rfl, T.w_SHAPES, by rw [shapes_look, hsh]; rfl, ?_⟩
    refine ⟨_, rfl, 1, rfl, t, _, rfl, hq, fun z => absurd z (cut1n _ _), fun _ p hp => ?_⟩
    rw [cut1]
    have sm : Same H (upd H p (.tup vr)) := Same.new hp
    refine ⟨sh, p, vr, rfl, .inl (.inl upd_same), ?_⟩
    refine for_zipS (by omega) (fun i σ H' => (∃ y2 y3 y4 : Option V, σ = [some (.ref R.a), some (.ref t), y2, y3, y4]) ∧ RC H' R E0 (colN c kind sh parts i) ∧ Fr R.L (upd H p (.tup vr)) H' ∧ Cap (colN c kind sh parts i) (90000 + 3 * i)) ⟨⟨_, _, _, rfl⟩, O.mono sm, Fr.refl, hcap⟩ (fun i σ H' q => SqT.kp (.inl (.inl upd_same)) ((O.mono sm).kp q.2.2.1)) ?_ ?_
    · rintro i ch y T0 σ H' h1 h2 ⟨⟨y2, y3, y4, rfl⟩, O1, fr1, cap1⟩ hT0
      obtain ⟨d, h3, hdy⟩ := hr0.get h2
      have hf := hfit i ch d h1 h3
      have hi : i < 100 := by
        have := (List.getElem?_eq_some_iff.mp h3).1
        omega
      have hdy1 : Dp K H' y d := hdy.kp (sm.kp.trans ((O.mono sm).kp fr1))
      refine ⟨T0, _, rfl, .inl (.inl upd_same), rfl, ?_⟩
      have sm1 : Same H' (upd H' T0 (.tup [.str ⟨#[ch]⟩, y])) := Same.new hT0
      have O2 := O1.mono sm1
      have fr2 : Fr R.L (upd H p (.tup vr)) (upd H' T0 (.tup [.str ⟨#[ch]⟩, y])) := fr1.trans sm1.fr
      have hdy2 : Dp K (upd H' T0 (.tup [.str ⟨#[ch]⟩, y])) y d := hdy1.kp sm1.kp
      rw [colN_succ h1 h3]
      revert O2 fr2 hdy2
      generalize upd H' T0 (.tup [.str ⟨#[ch]⟩, y]) = H2
      generalize colN c kind sh parts i = c1 at *
      intro O2 fr2 hdy2
      generalize (⟨#[ch]⟩ : Str) = x at *
      refine ⟨_, _, rfl, _, _, rfl, rfl, _, rfl, rfl, _, rfl, ?_⟩
      rw [dec_strV]
      have word : ¬ (x = "m" ∨ x = "v") ∧ ¬ x = "b" ∧ ¬ x = "t" → y = .str (strOf d) := fun n => mono_str hdy2 (pf_word hf n)
      have cl : c1.labels.length < sizeLine := Nat.lt_of_le_of_lt cap1.1 (lt_sz (by omega))
      have cs : c1.slots.length < sizeLine := Nat.lt_of_le_of_lt cap1.2.1 (lt_sz (by omega))
      have cg : c1.gates.length < sizeLine := Nat.lt_of_le_of_lt cap1.2.2.1 (lt_sz (by omega))
      have ce : c1.edits.length < sizeLine := Nat.lt_of_le_of_lt cap1.2.2.2 (lt_sz (by omega))
      have cap2 : Cap c1 (90000 + 3 * (i + 1)) := cap1.mono (by omega)
      unfold colPart
      by_cases e1 : x = "l"
      · obtain rfl := word (by rw [e1]; decide +kernel)
        rw [if_pos e1]
        refine ifT (decide_eq_true e1) ?_
        refine ⟨_, rfl, _, _, _, _, _, rfl, O2.ob, rc.cls, rc.n5, rfl, _, rfl, _, _, rfl, dput_w O2.dl cl, ⟨_, _, _, rfl⟩, O2.put_l _, fr2.upd (by simp [RcA.L]), ?_, cap2.2⟩
        have := putW_len c1.labels (strOf d)
        have := cap1.1
        show (putW c1.labels (strOf d)).length ≤ _
        omega
      · rw [if_neg e1]
        refine ifF (decide_eq_false e1) ⟨_, rfl, rfl, _, rfl, ?_⟩
        rw [dec_strV]
        by_cases e2 : x = "m"
        · rw [if_pos e2]
          refine ifT (decide_eq_true e2) ?_
          obtain ⟨zs, rfl, hz3, _⟩ := aw_tup (pf_m (by rw [← e2]; exact hf))
          cases hdy2 with
          | @tup q ws _ hws haw =>
          obtain ⟨zs', ez, rfl⟩ := strs_of (by
            have := pf_m (d := .tuple (zs.map PyData.str)) (by rw [← e2]; exact hf)
            exact (Bool.and_eq_true_iff.mp (Bool.and_eq_true_iff.mp this).2).1) haw
          obtain rfl : zs = zs' := by
            have := congrArg (List.map strOf) ez
            rw [map_strOf, map_strOf] at this
            exact this
          refine ⟨_, rfl, q, rfl, ⟨_, hws⟩, for_it walk_tup (fun j σ H3 => (∃ y4 : Option V, σ = [some (.ref R.a), some (.ref t), some (.str x), some (.ref q), y4]) ∧ RC H3 R E0 { c1 with labels := (zs.take j).foldl putW c1.labels } ∧ Fr R.L H2 H3) ⟨⟨_, rfl⟩, O2, Fr.refl⟩ (fun j σ H3 _ p => hws.kp (O2.kp p.2.2)) ?_ ?_⟩
          · rintro j v σ H3 H4 hj ⟨⟨y4', rfl⟩, O3, fr3⟩ ⟨rfl, hv⟩
            have hj' : j < zs.length := by rw [List.length_map] at hj; exact hj
            have hz : zs[j]? = some zs[j] := List.getElem?_eq_getElem hj'
            obtain rfl : v = .str zs[j] := by
              rw [List.getElem?_map, hz] at hv
              exact (Option.some.inj hv).symm
            have hl3 : ((zs.take j).foldl putW c1.labels).length < sizeLine := by
              have h1 := foldW_len (zs.take j) c1.labels
              have h2 : (zs.take j).length ≤ 3 := by rw [List.length_take]; omega
              have := cap1.1
              exact Nat.lt_of_le_of_lt h1 (lt_sz (by omega))
            refine ⟨_, rfl, _, _, _, _, _, rfl, O3.ob, rc.cls, rc.n5, rfl, _, rfl, _, _, rfl, dput_w O3.dl hl3, ⟨_, rfl⟩, ?_, fr3.upd (by simp [RcA.L])⟩
            have e := O3.put_l zs[j]
            rw [TS.take_one hz, List.foldl_append]
            exact e
          · rintro σ H3 ⟨⟨y4', rfl⟩, O3, fr3⟩
            rw [List.length_map, List.take_length] at O3
            refine ⟨⟨_, _, _, rfl⟩, ?_, fr2.trans fr3, ?_, cap2.2⟩
            · show RC H3 R E0 { c1 with labels := ((zs.map PyData.str).map strOf).foldl putW c1.labels }
              rw [map_strOf]
              exact O3
            · show (((zs.map PyData.str).map strOf).foldl putW c1.labels).length ≤ _
              rw [map_strOf]
              have := foldW_len zs c1.labels
              have := cap1.1
              omega
        · rw [if_neg e2]
          refine ifF (decide_eq_false e2) ?_
          refine ⟨_, rfl, sz_lit (by decide), fun p1 hp1 => ⟨p1, _, rfl, .inr (.inl (.inl upd_same)), rfl, rfl, _, rfl, ?_⟩⟩
          rw [inV2]
          have sm3 : Same H2 (upd H2 p1 (.tup [.str "s", .str "r"])) := Same.new hp1
          have O3 := O2.mono sm3
          have fr3 := fr2.trans (sm3.fr (L := R.L))
          have hq3 : SqT K (upd H2 p1 (.tup [.str "s", .str "r"])) t (.str kind :: vr) := hq.kp (sm.kp.trans ((O.mono sm).kp fr3))
          revert O3 fr3 hq3
          generalize upd H2 p1 (.tup [.str "s", .str "r"]) = H3
          intro O3 fr3 hq3
          by_cases e3 : x = "s" ∨ x = "r"
          · refine ifT (decide_eq_true e3) ?_
            obtain rfl := word (by rcases e3 with e | e <;> (rw [e]; decide +kernel))
            refine ⟨_, rfl, rfl, _, rfl, ?_⟩
            rw [dec_strV]
            by_cases e4 : strOf d = "in"
            · rw [if_neg (fun h => h.2 e4), if_neg (by rcases e3 with e | e <;> (rw [e]; intro h; exact absurd h.1 (by decide +kernel))), if_neg (by rcases e3 with e | e <;> (rw [e]; decide +kernel))]
              refine ifF (by rw [decide_eq_true e4]; rfl) ?_
              refine ⟨_, rfl, rfl, _, rfl, ?_⟩
              rw [dec_strV]
              refine ifF (decide_eq_false (by rcases e3 with e | e <;> (rw [e]; decide +kernel))) ?_
              refine ifF rfl ⟨_, rfl, rfl, _, rfl, ?_⟩
              rw [dec_strV]
              exact ifF (decide_eq_false (by rcases e3 with e | e <;> (rw [e]; decide +kernel))) ⟨⟨_, _, _, rfl⟩, O3, fr3, cap2⟩
            · rw [if_pos ⟨e3, e4⟩]
              refine ifT (by rw [decide_eq_false e4]; rfl) ?_
              refine ⟨_, rfl, _, _, _, _, _, rfl, O3.ob, rc.cls, rc.n6, rfl, _, rfl, _, _, rfl, dput_w O3.ds cs, ⟨_, _, _, rfl⟩, O3.put_s _, fr3.upd (by simp [RcA.L]), cap2.1, ?_, cap2.2.2⟩
              have := putW_len c1.slots (strOf d)
              have := cap1.2.1
              show (putW c1.slots (strOf d)).length ≤ _
              omega
          · rw [if_neg (fun h => e3 h.1)]
            refine ifF (decide_eq_false e3) (ifF rfl ⟨_, rfl, rfl, _, rfl, ?_⟩)
            rw [dec_strV]
            by_cases e5 : x = "i"
            · obtain rfl := word (by rw [e5]; decide +kernel)
              refine ifT (decide_eq_true e5) ⟨_, rfl, t, _, 0, _, rfl, rfl, hq3, atI_zero _ _, rfl, _, rfl, ?_⟩
              rw [dec_strV]
              by_cases e6 : kind = "edit"
              · rw [if_pos ⟨e5, e6⟩]
                refine ifT (decide_eq_true e6) ?_
                refine ⟨_, rfl, _, _, _, _, _, rfl, O3.ob, rc.cls, rc.n8, rfl, _, rfl, _, _, rfl, dput_w O3.de ce, ⟨_, _, _, rfl⟩, O3.put_e _, fr3.upd (by simp [RcA.L]), cap2.1, cap2.2.1, cap2.2.2.1, ?_⟩
                have := putW_len c1.edits (strOf d)
                have := cap1.2.2.2
                show (putW c1.edits (strOf d)).length ≤ _
                omega
              · rw [if_neg (fun h => e6 h.2), if_pos e5]
                refine ifF (decide_eq_false e6) ⟨_, rfl, rfl, _, rfl, ?_⟩
                rw [dec_strV]
                refine ifT (decide_eq_true e5) ?_
                refine ⟨_, rfl, _, _, _, _, _, rfl, O3.ob, rc.cls, rc.n7, rfl, _, rfl, _, _, rfl, dput_w O3.dg cg, ⟨_, _, _, rfl⟩, O3.put_g _, fr3.upd (by simp [RcA.L]), cap2.1, cap2.2.1, ?_, cap2.2.2.2⟩
                have := putW_len c1.gates (strOf d)
                have := cap1.2.2.1
                show (putW c1.gates (strOf d)).length ≤ _
                omega
            · rw [if_neg (fun h => e5 h.1), if_neg e5]
              refine ifF (decide_eq_false e5) (ifF rfl ⟨_, rfl, rfl, _, rfl, ?_⟩)
              rw [dec_strV]
              exact ifF (decide_eq_false e5) ⟨⟨_, _, _, rfl⟩, O3, fr3, cap2⟩
    · rintro σ H' ⟨_, O1, fr1, _⟩
      rw [hvl, colN_all hlen] at O1
      exact k _ (sm.fr.trans fr1) O1
end
end Op
namespace Op
open PySem L2 PyProof.Rows
theorem wt_tuple (xs : List PyData) : wt (.tuple xs) = 1 + wts xs := by rw [wt]
theorem wt_list (xs : List PyData) : wt (.list xs) = 1 + wts xs := by rw [wt]
theorem wts_cons (x : PyData) (r : List PyData) : wts (x :: r) = wt x + wts r := by rw [wts]
theorem wts_nil : wts [] = 0 := by rw [wts]
def fitAll (E : Env0) (sh : Str) (parts : List PyData) : Bool := (sh.cps.toList.zip parts).all fun p => partFits E ⟨#[p.1]⟩ p.2
/-- does a text have the sign -/
def hasC (c : Nat) (sh : Str) : Bool := decide (c ∈ sh.cps.toList)
def fitRow (E : Env0) (c : Chk) (kind : Str) (parts : List PyData) (depth : Int) (lp : Bool) (sh : Str) : Bool :=
  if kind = "edit" ∧ E.we = false then false
  else if kind = "leave" ∧ lp = false then false
  else if ¬ parts.length = sh.length then false
  else if (hasC 98 sh || hasC 116 sh) = true ∧ 5 ≤ depth then false
  else if fitAll E sh parts = true then idFits c kind parts else false
def fits (E : Env0) (c : Chk) (d : PyData) (depth : Int) (lp : Bool) : Bool :=
  match d with
  | .tuple (.str kind :: parts) => match shapes.lookup kind with
    | none => false
    | some sh => fitRow E c kind parts depth lp sh
  | _ => false
theorem fitAll_iff {E : Env0} {sh : Str} {parts : List PyData} (hl : sh.cps.size = parts.length) : fitAll E sh parts = true ↔ Fitted E sh parts := by
  unfold fitAll Fitted
  rw [List.all_eq_true]
  constructor
  · intro h
    refine ⟨hl, fun i ch d h1 h2 => h (ch, d) ?_⟩
    refine List.mem_of_getElem? (i := i) ?_
    rw [List.getElem?_zip_eq_some]
    exact ⟨by rw [Array.getElem?_toList]; exact h1, h2⟩
  · rintro ⟨_, h⟩ ⟨ch, d⟩ hm
    obtain ⟨i, hi⟩ := List.getElem?_of_mem hm
    rw [List.getElem?_zip_eq_some] at hi
    exact h i ch d (by rw [← Array.getElem?_toList]; exact hi.1) hi.2
theorem ids_word {E : Env0} {kind sh : Str} {parts : List PyData} (hs : shapes.lookup kind = some sh) (h : Fitted E sh parts) (hk : kind = "edit" ∨ kind = "gate" ∨ kind = "past") : ∃ x r, parts = .str x :: r := by
  have key : ∀ sh : Str, sh.cps[0]? = some 105 → Fitted E sh parts → ∃ x r, parts = .str x :: r := by
    intro sh h0 ⟨hl, hf⟩
    cases parts with
    | nil =>
      have := (Array.getElem?_eq_some_iff.mp h0).1
      rw [hl] at this
      cases this
    | cons d r =>
      have := pf_word (hf 0 105 d h0 rfl) (by decide +kernel)
      cases d with
      | str x => exact ⟨x, r, rfl⟩
      | _ => cases this
  rcases hk with rfl | rfl | rfl
  · obtain rfl : sh = "ibb" := (Option.some.inj (hs.symm.trans (by decide +kernel : shapes.lookup ("edit" : Str) = some "ibb")))
    exact key _ (by decide +kernel) h
  · obtain rfl : sh = "ibb" := (Option.some.inj (hs.symm.trans (by decide +kernel : shapes.lookup ("gate" : Str) = some "ibb")))
    exact key _ (by decide +kernel) h
  · obtain rfl : sh = "ib" := (Option.some.inj (hs.symm.trans (by decide +kernel : shapes.lookup ("past" : Str) = some "ib")))
    exact key _ (by decide +kernel) h
theorem andNo {p : Prop} [Decidable p] {A N : Prop} (h : p → N → A) (n : N) : if decide p = true then A else N := by
  by_cases q : p
  · rw [decide_eq_true q]; exact h q n
  · rw [decide_eq_false q]; exact n
theorem orNo {p : Prop} [Decidable p] {A B N : Prop} (ha : p → N → A) (hb : ¬ p → N → B) (n : N) : if decide p = true then A else B := by
  by_cases q : p
  · rw [decide_eq_true q]; exact ha q n
  · rw [decide_eq_false q]; exact hb q n
section
variable {P : Program} {w : World} {K : PySem.W.Frag} {mg : Str → Option Value} {base : Heap} {pS CI C : Addr}
def spFits (K : PySem.W.Frag) (C : Addr) : Sp := fun vs H Q _ => ∃ (A : RcA) (E : Env0) (c : Chk) (v : V) (d : PyData) (depth : Int) (lp : Bool), vs = [.ref A.a, v, .int depth, .bl lp] ∧ A.C = C ∧ RC H A E c ∧ Dp K H v d ∧ wt d ≤ 100000 ∧
  ∀ H', Same H H' → Q (.bl (fits E c d depth lp)) H'
theorem shapes_len : ∀ {kind sh : Str}, shapes.lookup kind = some sh → sh.length ≤ 4 := by
  have key : ∀ (l : List (Str × Str)) (kind sh : Str), l.all (fun p => decide (p.2.length ≤ 4)) = true → l.lookup kind = some sh → sh.length ≤ 4 := by
    intro l
    induction l with
    | nil => intro kind sh _ h; cases h
    | cons p r ih =>
      intro kind sh ha h
      obtain ⟨a, b⟩ := p
      obtain ⟨h1, h2⟩ := Bool.and_eq_true_iff.mp ha
      rw [List.lookup_cons] at h
      cases q : kind == a with
      | true =>
        rw [q] at h
        obtain rfl := Option.some.inj h
        exact of_decide_eq_true h1
      | false =>
        rw [q] at h
        exact ih kind sh h2 h
  intro kind sh h
  exact key shapes kind sh (by decide +kernel) h
theorem sc_RowCheck_fits : FnScope ["self", "row", "depth", "in_loop", "kind", "shape", "code", "part"] ["self", "row", "depth", "in_loop"] (defScope s_RowCheck_fits) := ⟨rfl, rfl, rfl, by decide +kernel, rfl, by decide +kernel, by decide +kernel⟩
theorem ok_fits {f : Addr} {fd : FuncData} (F : Fun K "fits" "RowCheck.fits" s_RowCheck_fits f fd) (T : TxtC P w K mg pS CI) (rc : RcC K C) (m_part_fits : Mcal P w K mg base CX0 3 C "part_fits" ["self", "code", "part"] (spPF K)) (m_id_fits : Mcal P w K mg base CX0 1 C "id_fits" ["self", "row"] (spID K)) :
    FnOk P w K mg base CX0 4 f fd ["self", "row", "depth", "in_loop"] (spFits K C) := by
  refine F.ok sc_RowCheck_fits (fun vs H Q E h => ?_) (fun cdv A outer s H vs Q E hr h => ?_)
  · obtain ⟨A, E, c, v, d, depth, lp, rfl, _⟩ := h
    rfl
  · obtain ⟨R, E0, c, v, d, depth, lp, rfl, hC, O, hd, hw, k⟩ := h
    have hu := hu_of hr
    have c_RowCheck := rc.cls
    refine ⟨_, (pss_cons (ps_if (PW.pt (pw_or (pt_not (pt_val (pe_callB call_isi (by rfl) T.b_isinstance (by decide +kernel) (pa_cons (pv 1) (pa_cons (pe_bltn (v := .ty "tuple") (by rfl) T.b_tuple (by decide +kernel) rfl) pa_nil))))) (pw_or (pt_cmpR op_eq (pe_callB call_len_seq (by rfl) T.b_len (by decide +kernel) (pa_cons (pv 1) pa_nil)) pe_int (nomark _)) (pw_or1 (pt_not (pt_val (pe_callB call_isi (by rfl) T.b_isinstance (by decide +kernel) (pa_cons (pe_ix ix_tup (pv 1) pe_int (fun _ _ => rfl)) (pa_cons (pe_bltn (v := .ty "str") (by rfl) T.b_str (by decide +kernel) rfl) pa_nil))))))))) (pss_one (ps_ret pe_bl)) pss_nil)
      (pss_cons (ps_set (i := 4) sc_RowCheck_fits.nd rfl (.inl rfl) (pe_ix ix_tup (pv 1) pe_int (fun _ _ => rfl)))
      (pss_cons (ps_if (PW.pt (pw_or (pt_cmpR op_notIn_wtab (pv 4) (pe_gref rfl T.g_SHAPES) (by rfl)) (pw_or1 (PW.pt (pw_and (pt_cmpR op_eq (pv 4) pe_str (nomark _)) (pw_and1 (pt_not (pt_val (pe_fld (pv 0) rfl))))))))) (pss_one (ps_ret pe_bl)) pss_nil)
      (pss_cons (ps_if (PW.pt (pw_and (pt_cmpR op_eq (pv 4) pe_str (nomark _)) (pw_and1 (pt_not (pt_val (pv 3)))))) (pss_one (ps_ret pe_bl)) pss_nil)
      (pss_cons (ps_set (i := 5) sc_RowCheck_fits.nd rfl (.inl rfl) (pe_ix ix_wtab (pe_gref rfl T.g_SHAPES) (pv 4) (fun _ _ => rfl)))
      (pss_cons (ps_if (pt_cmpR op_ne (pe_callB call_len_seq (by rfl) T.b_len (by decide +kernel) (pa_cons (pv 1) pa_nil)) (pe_op op_add pe_int (pe_callB call_len_str (by rfl) T.b_len (by decide +kernel) (pa_cons (pv 5) pa_nil))) (nomark _)) (pss_one (ps_ret pe_bl)) pss_nil)
      (pss_cons (ps_if (PW.pt (pw_and (PW.pt (pw_or (pt_cmpR op_in_sign pe_str (pv 5) (by rfl)) (pw_or1 (pt_cmpR op_in_sign pe_str (pv 5) (by rfl))))) (pw_and1 (pt_cmpR op_ge (pv 2) (pe_glob (v := .int (5)) rfl T.g_DEEPEST.choose_spec ⟨_, rfl⟩) (nomark _))))) (pss_one (ps_ret pe_bl)) pss_nil)
      (pss_cons (ps_for PassesOwn.never rfl (pi_zipS (by rfl) T.b_zip (pa_cons (pv 5) (pa_cons (pe_slice sl_tupA (pv 1) (po_some pe_int) po_none) pa_nil))) (pg_tup rfl (pgs_cons (pg_name (i := 6) sc_RowCheck_fits.nd rfl (.inl rfl)) (pgs_cons (pg_name (i := 7) sc_RowCheck_fits.nd rfl (.inl rfl)) pgs_nil))) (pss_one (ps_if (pt_not (pt_val (pe_mcal (pv 0) c_RowCheck m_part_fits (hr.mono (by omega)) pass0 (pa_cons (pv 6) (pa_cons (pv 7) pa_nil))))) (pss_one (ps_ret pe_bl)) pss_nil)))
      (pss_one (ps_ret (pe_mcal (pv 0) c_RowCheck m_id_fits (hr.mono (by omega)) pass0 (pa_cons (pv 1) pa_nil)))))))))))), ?_⟩
    refine ⟨_, rfl, v, _, _, _, _, rfl, .ty _, ty_dp hd, kit_tuple d, _, rfl, ?_⟩
    cases hd with
    | @tup t xs ds hq ha =>
      refine ifF rfl ⟨_, rfl, t, xs, rfl, .inr hq, rfl, _, rfl, ?_⟩
      cases ha with
      | nil => exact ifT rfl (ifT rfl (k _ (Same.refl _)))
      | @cons v0 vr d0 dr h0 hr0 =>
      refine ifF (decide_eq_false (by intro z; injection z with z; rw [List.length_cons] at z; omega)) ?_
      refine ⟨_, rfl, t, _, 0, _, rfl, rfl, hq, atI_zero _ _, v0, _, _, _, _, rfl, .ty _, ty_dp h0, kit_str d0, _, rfl, ?_⟩
      cases h0 with
      | str kind =>
        refine ifF rfl ?_
        refine ⟨_, rfl, t, _, 0, _, rfl, rfl, hq, atI_zero _ _, ?_⟩
        refine ⟨_, rfl, pS, kind, _, rfl, rfl, T.w_SHAPES, _, rfl, ?_⟩
        rw [shapes_look]
        have k : ∀ H', Same H H' → Q (.bl (match shapes.lookup kind with | none => false | some sh => fitRow E0 c kind dr depth lp sh)) H' := k
        cases hsh : shapes.lookup kind with
        | none =>
          rw [hsh] at k
          exact ifT rfl (ifT rfl (k _ (Same.refl _)))
        | some sh =>
        rw [hsh] at k
        have k : ∀ H', Same H H' → Q (.bl (fitRow E0 c kind dr depth lp sh)) H' := k
        unfold fitRow at k
        refine ifF rfl ⟨_, rfl, rfl, _, rfl, ?_⟩
        rw [dec_strV]
        by_cases e1 : kind = "edit" ∧ E0.we = false
        · rw [if_pos e1] at k
          refine ifT (decide_eq_true e1.1) ⟨_, rfl, _, _, _, _, _, rfl, O.ob, hC ▸ rc.cls, hC ▸ rc.n3, rfl, _, rfl, ?_⟩
          rw [e1.2]
          exact ifT rfl (k _ (Same.refl _))
        rw [if_neg e1] at k
        refine andNo (fun e n => ?_) (ifF rfl ?_)
        · refine ⟨_, rfl, _, _, _, _, _, rfl, O.ob, hC ▸ rc.cls, hC ▸ rc.n3, rfl, _, rfl, ?_⟩
          rw [show E0.we = true from (by cases q : E0.we with | true => rfl | false => exact absurd ⟨e, q⟩ e1)]
          exact n
        refine ⟨_, rfl, rfl, _, rfl, ?_⟩
        rw [dec_strV]
        by_cases e2 : kind = "leave" ∧ lp = false
        · rw [if_pos e2] at k
          refine ifT (decide_eq_true e2.1) ⟨_, rfl, _, rfl, ?_⟩
          rw [e2.2]
          exact ifT rfl (k _ (Same.refl _))
        rw [if_neg e2] at k
        refine andNo (fun e n => ?_) (ifF rfl ?_)
        · refine ⟨_, rfl, _, rfl, ?_⟩
          cases lp with
          | true => exact n
          | false => exact absurd ⟨e, rfl⟩ e2
        refine ⟨_, rfl, pS, kind, _, .str sh, rfl, rfl, T.w_SHAPES, by rw [shapes_look, hsh]; rfl, ?_⟩
        have hsl := shapes_len hsh
        have hvl := hr0.len
        refine ⟨_, rfl, t, _, rfl, .inr hq, _, rfl, sh, rfl, sz_lit (by omega), _, _, rfl, rfl, rfl, _, rfl, ?_⟩
        have el : decide (V.int ((V.str kind :: vr).length : Nat) = V.int (1 + (sh.length : Nat))) = decide (dr.length = sh.length) := by
          rw [Bool.eq_iff_iff, decide_eq_true_iff, decide_eq_true_iff, List.length_cons]
          constructor
          · intro z; injection z with z; omega
          · intro z; congr 1; omega
        rw [el]
        by_cases e3 : ¬ dr.length = sh.length
        · rw [if_pos e3] at k
          rw [decide_eq_false e3]
          exact ifT rfl (k _ (Same.refl _))
        rw [if_neg e3] at k
        have e3 : dr.length = sh.length := Decidable.byContradiction e3
        rw [decide_eq_true e3]
        refine ifF rfl ?_
        refine ⟨_, rfl, 98, sh, rfl, rfl, _, rfl, ?_⟩
        by_cases e4 : (hasC 98 sh || hasC 116 sh) = true ∧ 5 ≤ depth
        · rw [if_pos e4] at k
          by_cases q : 98 ∈ sh.cps.toList
          · refine ifT (decide_eq_true q) (ifT rfl ⟨_, rfl, _, _, rfl, rfl, _, rfl, ?_⟩)
            exact ifT (decide_eq_true e4.2) (k _ (Same.refl _))
          · refine ifF (decide_eq_false q) ⟨_, rfl, 116, sh, rfl, rfl, _, rfl, ?_⟩
            have e5 := e4.1
            unfold hasC at e5
            rw [decide_eq_false q, Bool.false_or] at e5
            refine ifT e5 ⟨_, rfl, _, _, rfl, rfl, _, rfl, ?_⟩
            exact ifT (decide_eq_true e4.2) (k _ (Same.refl _))
        rw [if_neg e4] at k
        apply orNo
        · intro e n
          refine ifT rfl ⟨_, rfl, _, _, rfl, rfl, _, rfl, ?_⟩
          have e5 : decide (5 ≤ depth) = false := decide_eq_false fun h => e4 ⟨by unfold hasC; rw [decide_eq_true e]; rfl, h⟩
          show ite (decide (5 ≤ depth) = true) _ _
          rw [e5]
          exact n
        · intro e n
          refine ⟨_, rfl, 116, sh, rfl, rfl, _, rfl, ?_⟩
          by_cases q : 116 ∈ sh.cps.toList
          · refine ifT (decide_eq_true q) ⟨_, rfl, _, _, rfl, rfl, _, rfl, ?_⟩
            have e5 : decide (5 ≤ depth) = false := decide_eq_false fun h => e4 ⟨by unfold hasC; rw [decide_eq_true q, Bool.or_true], h⟩
            show ite (decide (5 ≤ depth) = true) _ _
            rw [e5]
            exact n
          · exact ifF (decide_eq_false q) n
        refine ifF rfl ?_
        refine ⟨_, rfl, _, rfl, 1, rfl, t, _, rfl, hq, fun z => absurd z (cut1n _ _), fun _ p hp => ?_⟩
        rw [cut1]
        have sm : Same H (upd H p (.tup vr)) := Same.new hp
        refine ⟨sh, p, vr, rfl, .inl (.inl upd_same), ?_⟩
        have hlen : sh.cps.size = dr.length := e3.symm
        refine for_zipS (by omega) (fun i σ H' => (∃ y6 y7 : Option V, σ = [some (.ref R.a), some (.ref t), some (.int depth), some (.bl lp), some (.str kind), some (.str sh), y6, y7]) ∧ Same H H' ∧ SqT K H' p vr ∧ ((sh.cps.toList.zip dr).take i).all (fun p => partFits E0 ⟨#[p.1]⟩ p.2) = true) ⟨⟨_, _, rfl⟩, sm, .inl (.inl upd_same), rfl⟩ (fun i σ H' q => q.2.2.1) ?_ ?_
        · rintro i ch y T0 σ H' h1 h2 ⟨⟨y6, y7, rfl⟩, s1, hp1, hall⟩ hT0
          obtain ⟨d, h3, hdy⟩ := hr0.get h2
          have sm1 : Same H' (upd H' T0 (.tup [.str ⟨#[ch]⟩, y])) := Same.new hT0
          have hz : (sh.cps.toList.zip dr)[i]? = some (ch, d) := by
            rw [List.getElem?_zip_eq_some]
            exact ⟨by rw [Array.getElem?_toList]; exact h1, h3⟩
          refine ⟨T0, _, rfl, .inl (.inl upd_same), rfl, _, _, rfl, _, _, rfl, rfl, ?_⟩
          have s2 := s1.trans sm1
          have hp2 := hp1.mono sm1
          revert s2 hp2
          generalize upd H' T0 (.tup [.str ⟨#[ch]⟩, y]) = H2
          intro s2 hp2
          have O2 := O.mono s2
          have hwd : wt d ≤ 100000 := by
            have a1 := wts_mem (List.mem_of_getElem? h3)
            have a2 : wt (.tuple (.str kind :: dr)) = 1 + (wt (.str kind) + wts dr) := by rw [wt_tuple, wts_cons]
            omega
          subst hC
          refine ⟨_, rfl, _, _, _, rfl, O2.ob, rfl, _, rfl, _, rfl, R, E0, c, _, y, d, rfl, O2, rc, hdy.mono s2, hwd, _, rfl, ?_⟩
          by_cases q : partFits E0 ⟨#[ch]⟩ d = true
          · rw [q]
            refine ifF rfl ⟨⟨_, _, rfl⟩, s2, hp2, ?_⟩
            rw [TS.take_one hz, List.all_append, hall]
            simp [q]
          · rw [Bool.eq_false_iff.mpr q]
            refine ifT rfl ?_
            have e5 : fitAll E0 sh dr = false := by
              refine Bool.eq_false_iff.mpr fun z => q ?_
              exact List.all_eq_true.mp z (ch, d) (List.mem_of_getElem? hz)
            rw [e5] at k
            exact k _ s2
        · rintro σ H' ⟨⟨y6, y7, rfl⟩, s1, _, hall⟩
          rw [List.take_of_length_le (by rw [List.length_zip, Array.length_toList]; omega)] at hall
          have e5 : fitAll E0 sh dr = true := hall
          rw [if_pos e5] at k
          have O2 := O.mono s1
          subst hC
          refine ⟨_, rfl, _, _, _, rfl, O2.ob, rfl, _, rfl, R, E0, c, t, kind, dr, rfl, O2, rc, .tup (hq.mono s1) (.cons (.str kind) (DpAll.mono s1 hr0)), ids_word hsh ((fitAll_iff hlen).mp e5), fun H3 s3 => k _ (s1.trans s3)⟩
      | _ => exact ifT rfl (k _ (Same.refl _))
    | _ => exact ifT rfl (ifT rfl (k _ (Same.refl _)))
end
end Op
namespace L2
open PySem PySem.Spec PyProof.Rows
theorem DpAll.append {K : PySem.W.Frag} {H : Hp} : ∀ {vs ws : List V} {ds es : List PyData}, DpAll K H vs ds → DpAll K H ws es → DpAll K H (vs ++ ws) (ds ++ es)
  | _, _, _, _, .nil, h => h
  | _, _, _, _, .cons a b, h => .cons a (b.append h)
end L2
namespace Op
open PySem L2 PyProof.Rows
/-- the lists of rows within a row -/
def innerL (kind : Str) (parts : List PyData) : List PyData :=
  if kind = "both" then (match parts with | .tuple ds :: _ => ds | _ => []) else parts.filter isList
section
variable {P : Program} {w : World} {K : PySem.W.Frag} {mg : Str → Option Value} {base : Heap}
def spInner (K : PySem.W.Frag) : Sp := fun vs H Q _ => ∃ (t : Addr) (kind : Str) (parts : List PyData), vs = [.ref t] ∧ Dp K H (.ref t) (.tuple (.str kind :: parts)) ∧ parts.length ≤ 1000 ∧ (kind = "both" → ∃ ds r, parts = .tuple ds :: r) ∧
  ∀ p xs H', Same H H' → H p = none → H' p = some (.lst xs) → DpAll K H xs (innerL kind parts) → Q (.ref p) H'
/-- the same, the data read in a part G of the heap -/
def spInnerG (K : PySem.W.Frag) : Sp := fun vs H Q _ => ∃ (G : Hp) (t : Addr) (kind : Str) (parts : List PyData), vs = [.ref t] ∧ Same G H ∧ Dp K G (.ref t) (.tuple (.str kind :: parts)) ∧ parts.length ≤ 1000 ∧ (kind = "both" → ∃ ds r, parts = .tuple ds :: r) ∧
  ∀ p xs H', Same H H' → H p = none → H' p = some (.lst xs) → DpAll K G xs (innerL kind parts) → Q (.ref p) H'
theorem sc_inner_lists : FnScope ["row", "part"] ["row"] (defScope s_inner_lists) := ⟨rfl, rfl, rfl, by decide +kernel, rfl, by decide +kernel, by decide +kernel⟩
theorem ok_inner_listsG {f : Addr} {fd : FuncData} (F : Fun K "inner_lists" "inner_lists" s_inner_lists f fd) (T : Txt mg) : FnOk P w K mg base CX0 1 f fd ["row"] (spInnerG K) := by
  refine F.ok sc_inner_lists (fun vs H Q E h => ?_) (fun cdv A outer s H vs Q E hr h => ?_)
  · obtain ⟨G, t, kind, parts, rfl, _⟩ := h
    rfl
  · obtain ⟨G, t, kind, parts, rfl, hG, hd, hpl, hb, k⟩ := h
    cases hd with
    | @tup _ xs _ hq ha =>
    cases ha with
    | @cons v0 vr d0 dr h0 hr0 =>
    cases h0 with
    | str kind =>
    have hqG := hq
    replace hq := hq.mono hG
    have hvl := hr0.len
    unfold innerL at k
    refine ⟨_, (pss_cons (ps_if (pt_cmpR op_eq (pe_ix ix_tup (pv 0) pe_int (fun _ _ => rfl)) pe_str (nomark _)) (pss_one (ps_ret (pe_callTy call_list_of (by rfl) T.b_list (by decide +kernel) (pa_cons (pe_ix ix_tup (pv 0) pe_int (fun _ _ => rfl)) pa_nil)))) pss_nil)
      (pss_one (ps_ret (pe_lc (own := [("part", 1)]) (g := gName 1)  rfl sc_inner_lists.nd (pi_tup (pv 0)) (blkOk_by (own := [("part", 1)]) (N := ["row", "part"]) (sc := defScope s_inner_lists) (by decide +kernel)) (fun _ _ _ _ _ => (pg_name (i := 1) sc_inner_lists.nd rfl (.inl rfl))) (fun _ _ _ _ _ => (pts_one (pt_val (pe_callB (id := "isinstance") (r := rIsi K) call_isi (by rfl) T.b_isinstance (by decide +kernel) (pa_cons (pv 1) (pa_cons (pe_bltn (v := .ty "list") (by rfl) T.b_list (by decide +kernel) rfl) pa_nil)))))) (fun _ _ _ _ _ => (pv 1)))))), ?_⟩
    refine ⟨_, rfl, t, _, 0, _, rfl, rfl, hq, atI_zero _ _, rfl, _, rfl, ?_⟩
    rw [dec_strV]
    by_cases e1 : kind = "both"
    · rw [if_pos e1] at k
      obtain ⟨ds, r, rfl⟩ := hb e1
      cases hr0 with
      | @cons v1 vs1 d1 dr1 h1 hr1 =>
      cases h1 with
      | @tup q ws _ hqw haw =>
      refine ifT (decide_eq_true e1) ⟨_, rfl, t, _, 1, _, rfl, rfl, hq, atI_one _ _ _, q, ws, rfl, .inr (hqw.mono hG), fun l hl => ?_⟩
      exact k l ws _ (Same.new hl) hl upd_same haw
    · rw [if_neg e1] at k
      refine ifF (decide_eq_false e1) ⟨_, rfl, t, rfl, ⟨_, hq⟩, fun D hD => ?_⟩
      refine lc_it (walk_tup (xs := .str kind :: vr)) (fun i H' => ∃ acc, H' D = some (.lst acc) ∧ acc.length ≤ i ∧ DpAll K G acc (((.str kind :: parts).take i).filter isList) ∧ Same H H') ⟨[], upd_same, Nat.le_refl _, .nil, Same.new hD⟩ (fun i H' _ p => hq.mono (let ⟨_, _, _, _, s⟩ := p; s)) ?_ ?_
      · rintro i x H1 H2 hi ⟨acc, hacc, hal, hdp, sm⟩ ⟨rfl, hx⟩
        obtain ⟨d, hd1, hd2⟩ := DpAll.get (.cons (.str kind) hr0) hx
        refine ⟨rfl, _, rfl, x, _, _, _, _, rfl, .ty _, ty_dp ((hd2.mono hG).mono sm), kit_list d, _, rfl, ?_⟩
        have hi' : i < 2000 := by rw [List.length_cons] at hi; omega
        have e2 : ((.str kind :: parts).take (i + 1)).filter isList = ((.str kind :: parts).take i).filter isList ++ [d].filter isList := by
          rw [TS.take_one hd1, List.filter_append]
        by_cases q : isList d = true
        · rw [q]
          refine ifT rfl ⟨_, rfl, acc, hacc, lt_sz (by omega), acc ++ [x], upd_same, by rw [List.length_append]; show acc.length + 1 ≤ _; omega, ?_, fun b o hb => ?_⟩
          · rw [e2, List.filter_cons_of_pos q, List.filter_nil]
            exact hdp.append (.cons hd2 .nil)
          · rw [upd_ne (ne_of_none hb hD)]
            exact sm b o hb
        · rw [Bool.eq_false_iff.mpr q]
          refine ifF rfl ⟨acc, hacc, by omega, ?_, sm⟩
          rw [e2, List.filter_cons_of_neg (by rw [Bool.eq_false_iff.mpr q]; exact Bool.false_ne_true), List.filter_nil, List.append_nil]
          exact hdp
      · rintro H1 ⟨acc, hacc, _, hdp, sm⟩
        refine k D acc H1 sm hD hacc ?_
        rw [List.take_of_length_le (by rw [List.length_cons, List.length_cons]; omega)] at hdp
        exact hdp
theorem ok_inner_lists {f : Addr} {fd : FuncData} (F : Fun K "inner_lists" "inner_lists" s_inner_lists f fd) (T : Txt mg) : FnOk P w K mg base CX0 1 f fd ["row"] (spInner K) :=
  (ok_inner_listsG F T).imp fun vs H Q E h => by
    obtain ⟨t, kind, parts, rfl, hd, hpl, hb, k⟩ := h
    exact ⟨H, t, kind, parts, rfl, fun _ _ z => z, hd, hpl, hb, k⟩
end
end Op
namespace Op
open PySem L2 PyProof.Rows
/-! ### the mirror: the check of a list of rows -/
abbrev Out := Except (List Int) Chk
def listOf : PyData → List PyData
  | .list ds => ds
  | _ => []
def chkIn (rec : List PyData → List Int → Chk → Out) (pre : List Int) : List PyData → Nat → Chk → Out
  | [], _, c => .ok c
  | d :: r, j, c => match rec (listOf d) (pre ++ [(j : Int)]) c with
    | .error p => .error p
    | .ok c' => chkIn rec pre r (j + 1) c'
def inside (lp : Bool) (kind : Str) : Bool := if kind = "both" then false else lp || decide (kind = "loop")
def shapeOf (kind : Str) : Str := (shapes.lookup kind).getD ""
def chkRow (rec : Bool → List PyData → List Int → Chk → Out) (E : Env0) (depth : Int) (lp : Bool) (pre : List Int) (d : PyData) (i : Nat) (c : Chk) : Out :=
  match d with
  | .tuple (.str kind :: parts) => if fits E c d depth lp = true then chkIn (rec (inside lp kind)) (pre ++ [(i : Int)]) (innerL kind parts) 0 (collect { c with total := c.total + 1 } kind (shapeOf kind) parts) else .error (pre ++ [(i : Int)])
  | _ => .error (pre ++ [(i : Int)])
def chkRows (row : PyData → Nat → Chk → Out) : List PyData → Nat → Chk → Out
  | [], _, c => .ok c
  | d :: r, i, c => match row d i c with
    | .error p => .error p
    | .ok c' => chkRows row r (i + 1) c'
def chkL (E : Env0) : Nat → Bool → List PyData → List Int → Chk → Out
  | 0, _, _, _, c => .ok c
  | n + 1, lp, ds, pre, c => chkRows (chkRow (chkL E n) E (5 - (n : Int)) lp pre) ds 0 c
/-! ### sizes -/
theorem colPart_cap {E : Env0} {kind : Str} {c : Chk} {x : Str} {d : PyData} {n : Nat} (hf : partFits E x d = true) (h : Cap c n) : Cap (colPart kind c x d) (n + 3) := by
  obtain ⟨h1, h2, h3, h4⟩ := h
  unfold colPart
  split
  · have := putW_len c.labels (strOf d)
    exact ⟨by show (putW c.labels (strOf d)).length ≤ _; omega, by show c.slots.length ≤ _; omega, by show c.gates.length ≤ _; omega, by show c.edits.length ≤ _; omega⟩
  · split
    · rename_i e
      obtain ⟨zs, rfl, hz, _⟩ := aw_tup (pf_m (by rw [← e]; exact hf))
      refine ⟨?_, by show c.slots.length ≤ _; omega, by show c.gates.length ≤ _; omega, by show c.edits.length ≤ _; omega⟩
      show (((zs.map PyData.str).map strOf).foldl putW c.labels).length ≤ _
      rw [map_strOf]
      have := foldW_len zs c.labels
      omega
    · split
      · have := putW_len c.slots (strOf d)
        exact ⟨by show c.labels.length ≤ _; omega, by show (putW c.slots (strOf d)).length ≤ _; omega, by show c.gates.length ≤ _; omega, by show c.edits.length ≤ _; omega⟩
      · split
        · have := putW_len c.edits (strOf d)
          exact ⟨by show c.labels.length ≤ _; omega, by show c.slots.length ≤ _; omega, by show c.gates.length ≤ _; omega, by show (putW c.edits (strOf d)).length ≤ _; omega⟩
        · split
          · have := putW_len c.gates (strOf d)
            exact ⟨by show c.labels.length ≤ _; omega, by show c.slots.length ≤ _; omega, by show (putW c.gates (strOf d)).length ≤ _; omega, by show c.edits.length ≤ _; omega⟩
          · exact ⟨by omega, by omega, by omega, by omega⟩
theorem colPart_total {kind : Str} {c : Chk} {x : Str} {d : PyData} : (colPart kind c x d).total = c.total := by
  unfold colPart
  repeat' split
  all_goals rfl
theorem collect_cap {E : Env0} {kind sh : Str} {c : Chk} {parts : List PyData} {n : Nat} (hf : Fitted E sh parts) (h : Cap c n) : Cap (collect c kind sh parts) (n + 3 * parts.length) := by
  have key : ∀ i, i ≤ parts.length → Cap (colN c kind sh parts i) (n + 3 * i) := by
    intro i
    induction i with
    | zero => intro _; exact h
    | succ i ih =>
      intro hi
      have h2 : parts[i]? = some parts[i] := List.getElem?_eq_getElem hi
      have hs : i < sh.cps.size := by rw [hf.1]; exact hi
      have h1 : sh.cps[i]? = some sh.cps[i] := Array.getElem?_eq_getElem hs
      rw [colN_succ h1 h2]
      exact (colPart_cap (hf.2 i _ _ h1 h2) (ih (by omega))).mono (by omega)
  rw [← colN_all hf.1]
  exact key _ (Nat.le_refl _)
def wIn : List PyData → Nat
  | [] => 0
  | d :: r => wts (listOf d) + wIn r
theorem wts_listOf (d : PyData) : wts (listOf d) + 1 ≤ wt d := by
  cases d with
  | list ds => rw [wt_list]; show wts ds + 1 ≤ _; omega
  | _ => exact (by have := wt_pos; rw [show listOf _ = [] from rfl, wts_nil]; exact wt_pos _)
theorem wIn_le : ∀ ds : List PyData, wIn ds ≤ wts ds
  | [] => by rw [wts_nil]; exact Nat.le_refl _
  | d :: r => by
    have := wIn_le r
    have := wts_listOf d
    rw [wts_cons]
    show wts (listOf d) + wIn r ≤ _
    omega
theorem wIn_filter : ∀ ds : List PyData, ds.length + wIn (ds.filter isList) ≤ wts ds
  | [] => by rw [wts_nil]; exact Nat.le_refl _
  | d :: r => by
    have h1 := wIn_filter r
    have h2 := wts_listOf d
    rw [wts_cons, List.length_cons]
    by_cases q : isList d = true
    · rw [List.filter_cons_of_pos q]
      show _ + (wts (listOf d) + wIn (r.filter isList)) ≤ _
      omega
    · rw [List.filter_cons_of_neg q]
      omega
theorem wIn_inner (kind : Str) (parts : List PyData) : parts.length + wIn (innerL kind parts) ≤ wts parts := by
  unfold innerL
  split
  · cases parts with
    | nil => rw [wts_nil]; exact Nat.le_refl _
    | cons d r =>
      have h1 := wts_len r
      have h0 := wt_pos d
      rw [wts_cons, List.length_cons]
      cases d with
      | tuple ds =>
        have := wIn_le ds
        rw [wt_tuple]
        show _ + wIn ds ≤ _
        omega
      | _ =>
        show r.length + 1 + 0 ≤ _
        omega
  · exact wIn_filter parts
def CapF (f : List PyData → List Int → Chk → Out) : Prop := ∀ ds pre c c' m, f ds pre c = .ok c' → Cap c m → Cap c' (m + 3 * wts ds)
theorem chkIn_cap {f : List PyData → List Int → Chk → Out} (hf : CapF f) {pre : List Int} : ∀ (l : List PyData) (j : Nat) (c c' : Chk) (m : Nat), chkIn f pre l j c = .ok c' → Cap c m → Cap c' (m + 3 * wIn l)
  | [], j, c, c', m, h, k => by
    obtain rfl := Except.ok.inj h
    exact k
  | d :: r, j, c, c', m, h, k => by
    unfold chkIn at h
    cases q : f (listOf d) (pre ++ [(j : Int)]) c with
    | error p => rw [q] at h; cases h
    | ok c1 =>
      rw [q] at h
      have h1 := hf _ _ _ _ _ q k
      have h2 := chkIn_cap hf r (j + 1) c1 c' _ h h1
      exact h2.mono (by show _ ≤ m + 3 * (wts (listOf d) + wIn r); omega)
theorem fits_shape {E : Env0} {c : Chk} {kind : Str} {parts : List PyData} {depth : Int} {lp : Bool} (h : fits E c (.tuple (.str kind :: parts)) depth lp = true) : shapes.lookup kind = some (shapeOf kind) ∧ Fitted E (shapeOf kind) parts ∧ ((hasC 98 (shapeOf kind) || hasC 116 (shapeOf kind)) = true → depth < 5) := by
  have h : (match shapes.lookup kind with | none => false | some sh => fitRow E c kind parts depth lp sh) = true := h
  cases q : shapes.lookup kind with
  | none => rw [q] at h; cases h
  | some sh =>
    rw [q] at h
    have e : shapeOf kind = sh := by unfold shapeOf; rw [q]; rfl
    rw [e]
    have h : fitRow E c kind parts depth lp sh = true := h
    unfold fitRow at h
    split at h
    · cases h
    · split at h
      · cases h
      · split at h
        · cases h
        · rename_i e3
          have e3 : parts.length = sh.length := Decidable.byContradiction e3
          split at h
          · cases h
          · rename_i e4
            split at h
            · rename_i e5
              exact ⟨rfl, (fitAll_iff e3.symm).mp e5, fun z => Decidable.byContradiction fun w => e4 ⟨z, by omega⟩⟩
            · cases h
theorem chkRow_cap {rec : Bool → List PyData → List Int → Chk → Out} (hr : ∀ lp, CapF (rec lp)) {E : Env0} {depth : Int} {lp : Bool} {pre : List Int} {d : PyData} {i : Nat} {c c' : Chk} {m : Nat} (h : chkRow rec E depth lp pre d i c = .ok c') (k : Cap c m) : Cap c' (m + 3 * wt d) := by
  unfold chkRow at h
  split at h
  · rename_i kind parts
    split at h
    · rename_i hf
      obtain ⟨_, hF, _⟩ := fits_shape hf
      have h1 := collect_cap (kind := kind) (c := { c with total := c.total + 1 }) hF k
      have h2 := chkIn_cap (hr _) _ _ _ _ _ h h1
      have h3 := wIn_inner kind parts
      refine h2.mono ?_
      rw [wt_tuple, wts_cons]
      omega
    · cases h
  · cases h
theorem chkRows_cap {row : PyData → Nat → Chk → Out} (hr : ∀ d i c c' m, row d i c = .ok c' → Cap c m → Cap c' (m + 3 * wt d)) : ∀ (l : List PyData) (j : Nat) (c c' : Chk) (m : Nat), chkRows row l j c = .ok c' → Cap c m → Cap c' (m + 3 * wts l)
  | [], j, c, c', m, h, k => by
    obtain rfl := Except.ok.inj h
    exact k.mono (by omega)
  | d :: r, j, c, c', m, h, k => by
    unfold chkRows at h
    cases q : row d j c with
    | error p => rw [q] at h; cases h
    | ok c1 =>
      rw [q] at h
      have h1 := hr _ _ _ _ _ q k
      have h2 := chkRows_cap hr r (j + 1) c1 c' _ h h1
      exact h2.mono (by rw [wts_cons]; omega)
theorem chkL_cap (E : Env0) : ∀ (n : Nat) (lp : Bool), CapF (chkL E n lp)
  | 0, lp => fun ds pre c c' m h k => by
    obtain rfl := Except.ok.inj h
    exact k.mono (by omega)
  | n + 1, lp => fun ds pre c c' m h k => chkRows_cap (fun d i c c' m h k => chkRow_cap (chkL_cap E n) h k) ds 0 c c' m h k
/-- at the deepest level no row has lists -/
theorem inner_deep {E : Env0} {c : Chk} {kind : Str} {parts : List PyData} {depth : Int} {lp : Bool} (h : fits E c (.tuple (.str kind :: parts)) depth lp = true) (hd : 5 ≤ depth) : innerL kind parts = [] := by
  obtain ⟨hs, ⟨hl, hF⟩, hb⟩ := fits_shape h
  have nb : (hasC 98 (shapeOf kind) || hasC 116 (shapeOf kind)) = false := Bool.eq_false_iff.mpr fun z => by
    have := hb z
    omega
  unfold innerL
  split
  · rename_i e
    subst e
    exact absurd nb (by decide +kernel)
  · refine List.filter_eq_nil_iff.mpr fun d hm hd' => ?_
    obtain ⟨i, hi⟩ := List.getElem?_of_mem hm
    have hi' := (List.getElem?_eq_some_iff.mp hi).1
    have h1 : (shapeOf kind).cps[i]? = some ((shapeOf kind).cps[i]'(by omega)) := Array.getElem?_eq_getElem _
    have hf := hF i _ d h1 hi
    have hm' : (shapeOf kind).cps[i]'(by omega) ∈ (shapeOf kind).cps.toList := List.mem_of_getElem? (i := i) (by rw [Array.getElem?_toList]; exact h1)
    revert hf hm' 
    generalize (shapeOf kind).cps[i]'(by omega) = ch
    intro hf hm'
    have n1 : ch ≠ 98 := fun z => by
      unfold hasC at nb
      rw [← z, decide_eq_true hm'] at nb
      cases nb
    have n2 : ch ≠ 116 := fun z => by
      unfold hasC at nb
      rw [← z, decide_eq_true hm', Bool.or_true] at nb
      cases nb
    have sb : ¬ (⟨#[ch]⟩ : Str) = "b" := fun z => n1 (by
      have z : (⟨#[ch]⟩ : Str) = ⟨#[98]⟩ := z
      simpa using z)
    have st : ¬ (⟨#[ch]⟩ : Str) = "t" := fun z => n2 (by
      have z : (⟨#[ch]⟩ : Str) = ⟨#[116]⟩ := z
      simpa using z)
    by_cases em : (⟨#[ch]⟩ : Str) = "m" ∨ (⟨#[ch]⟩ : Str) = "v"
    · unfold partFits at hf
      rw [if_neg (by rcases em with e | e <;> (rw [e]; decide +kernel)), if_neg (by rcases em with e | e <;> (rw [e]; decide +kernel)), if_neg (by rcases em with e | e <;> (rw [e]; decide +kernel)), if_pos em] at hf
      cases d with
      | tuple _ => cases hd'
      | _ => cases hf
    · have := pf_word hf ⟨em, sb, st⟩
      cases d with
      | str _ => cases hd'
      | _ => cases this
theorem both_tuple {E : Env0} {c : Chk} {kind : Str} {parts : List PyData} {depth : Int} {lp : Bool} (h : fits E c (.tuple (.str kind :: parts)) depth lp = true) (hk : kind = "both") : ∃ ds r, parts = .tuple ds :: r ∧ ∀ d ∈ ds, isList d = true := by
  obtain ⟨hs, ⟨hl, hF⟩, hb⟩ := fits_shape h
  subst hk
  cases parts with
  | nil => exact absurd hl (by decide +kernel)
  | cons d r =>
    have hf := hF 0 116 d (by decide +kernel) rfl
    have hf : isBranches d = true := hf
    cases d with
    | tuple ds => exact ⟨ds, r, rfl, fun d hd => List.all_eq_true.mp (Bool.and_eq_true_iff.mp hf).2 d hd⟩
    | _ => cases hf
theorem inner_lists_all {E : Env0} {c : Chk} {kind : Str} {parts : List PyData} {depth : Int} {lp : Bool} (h : fits E c (.tuple (.str kind :: parts)) depth lp = true) : ∀ d ∈ innerL kind parts, isList d = true := by
  intro d hd
  unfold innerL at hd
  split at hd
  · rename_i e
    obtain ⟨ds, r, rfl, p⟩ := both_tuple h e
    exact p d hd
  · exact (List.mem_filter.mp hd).2
end Op
namespace L2
open PySem PySem.Spec PyProof.Rows
theorem cat_any {K : PySem.W.Frag} {H : Hp} {a b : Addr} {xs ys : List V} {Q : VK} (ha : SqT K H a xs) (hb : SqT K H b ys) (hz : xs.length + ys.length ≤ sizeLine) (k : ∀ t H', Same H H' → SqT K H' t (xs ++ ys) → Q (.ref t) H') : rCatA K (.ref a) (.ref b) H Q := by
  refine ⟨a, b, xs, ys, rfl, rfl, ha, hb, hz, fun e => ?_, fun _ e => ?_, fun _ _ p hp => k p _ (Same.new hp) (.inl (.inl upd_same))⟩
  · subst e
    exact k b H (Same.refl _) hb
  · subst e
    exact k a H (Same.refl _) (by rw [List.append_nil]; exact ha)
end L2
namespace Op
open PySem L2 PyProof.Rows
theorem putF_total (A : RcA) (E : Env0) (c : Chk) (n : Int) : putF "total" (.int n) (rcF A E c) = rcF A E { c with total := n } := rfl
theorem chkRow_no {rec : Bool → List PyData → List Int → Chk → Out} {E : Env0} {depth : Int} {lp : Bool} {pre : List Int} {d : PyData} {i : Nat} {c : Chk} (h : fits E c d depth lp = false) : chkRow rec E depth lp pre d i c = .error (pre ++ [(i : Int)]) := by
  unfold chkRow
  split
  · rw [if_neg (by rw [h]; exact Bool.false_ne_true)]
  · rfl
theorem fits_tuple {E : Env0} {depth : Int} {lp : Bool} {d : PyData} {c : Chk} (h : fits E c d depth lp = true) : ∃ kind parts, d = .tuple (.str kind :: parts) := by
  unfold fits at h
  split at h
  · exact ⟨_, _, rfl⟩
  · cases h
theorem sz1 (x : V) : [x].length ≤ sizeLine := sz_lit (by show 1 ≤ 100000; decide)
theorem sz2 (x y : V) : [x, y].length ≤ sizeLine := sz_lit (by show 2 ≤ 100000; decide)
def contR (f : Chk → Out) : Out → Out
  | .error p => .error p
  | .ok c => f c
theorem chkRows_cons (row : PyData → Nat → Chk → Out) (d : PyData) (r : List PyData) (i : Nat) (c : Chk) : chkRows row (d :: r) i c = contR (chkRows row r (i + 1)) (row d i c) := by
  rw [chkRows]
  cases row d i c <;> rfl
theorem chkIn_cons (f : List PyData → List Int → Chk → Out) (pre : List Int) (d : PyData) (r : List PyData) (j : Nat) (c : Chk) : chkIn f pre (d :: r) j c = contR (chkIn f pre r (j + 1)) (f (listOf d) (pre ++ [(j : Int)]) c) := by
  rw [chkIn]
  cases f (listOf d) (pre ++ [(j : Int)]) c <;> rfl
theorem chkRow_yes {rec : Bool → List PyData → List Int → Chk → Out} {E : Env0} {depth : Int} {lp : Bool} {pre : List Int} {kind : Str} {parts : List PyData} {i : Nat} {c : Chk} (h : fits E c (.tuple (.str kind :: parts)) depth lp = true) :
    chkRow rec E depth lp pre (.tuple (.str kind :: parts)) i c = chkIn (rec (inside lp kind)) (pre ++ [(i : Int)]) (innerL kind parts) 0 (collect { c with total := c.total + 1 } kind (shapeOf kind) parts) := if_pos h
theorem map_snoc (pre : List Int) (i : Int) : pre.map V.int ++ [V.int i] = (pre ++ [i]).map V.int := by rw [List.map_append]; rfl
theorem map_snoc2 (pre : List Int) (i j : Int) : pre.map V.int ++ [V.int i, V.int j] = (pre ++ [i] ++ [j]).map V.int := by rw [List.map_append, List.map_append, List.append_assoc]; rfl
section
variable {P : Program} {w : World} {K : PySem.W.Frag} {mg : Str → Option Value} {base : Heap} {pS CI C : Addr}
/-- InvalidProgram(part, path) stands in the dict d -/
def XProg (K : PySem.W.Frag) (H : Hp) (d : Addr) (part : Str) (path : List Int) : Prop := ∃ t, H d = some (.xd [("path", .ref t), ("part", .str part)]) ∧ SqT K H t (path.map V.int)
def spCL (K : PySem.W.Frag) (C CI : Addr) : Nat → Sp
  | 0 => fun _ _ _ _ => False
  | n + 1 => fun vs H Q X => ∃ (A : RcA) (E : Env0) (c : Chk) (rws pr : Addr) (ds : List PyData) (pre : List Int) (lp : Bool) (m : Nat), vs = [.ref A.a, .ref rws, .ref pr, .int (5 - (n : Int)), .bl lp] ∧ A.C = C ∧ RC H A E c ∧ Dp K H (.ref rws) (.list ds) ∧ SqT K H pr (pre.map V.int) ∧ pre.length + 2 * n ≤ 100 ∧ Cap c m ∧ m + 3 * wts ds ≤ 90000 ∧
    (∀ c', chkL E (n + 1) lp ds pre c = .ok c' → ∀ H', Fr A.L H H' → RC H' A E c' → Q .non H') ∧ (∀ p, chkL E (n + 1) lp ds pre c = .error p → ∀ H' d, Fr A.L H H' → XProg K H' d "rows" p → X (.ref CI) (some d) H')
theorem sc_RowCheck_check_list : FnScope ["self", "rows", "prefix", "depth", "in_loop", "index", "row", "inside", "number", "inner"] ["self", "rows", "prefix", "depth", "in_loop"] (defScope s_RowCheck_check_list) := ⟨rfl, rfl, rfl, by decide +kernel, rfl, by decide +kernel, by decide +kernel⟩
theorem ok_check_list {f : Addr} {fd : FuncData} (F : Fun K "check_list" "RowCheck.check_list" s_RowCheck_check_list f fd) (T : TxtC P w K mg pS CI) (rc : RcC K C) (hm : Meth K C "check_list" f) (hb : Binds K fd ["self", "rows", "prefix", "depth", "in_loop"] []) (m_fits : Mcal P w K mg base CX0 4 C "fits" ["self", "row", "depth", "in_loop"] (spFits K C)) (m_collect : Mcal P w K mg base CX0 1 C "collect" ["self", "row"] (spCol K)) (c_inner_lists : Cal P w K mg base CX0 1 "inner_lists" ["row"] (spInner K)) :
    ∀ n : Nat, FnOk P w K mg base (L2.CX P w) (5 + n + 1) f fd ["self", "rows", "prefix", "depth", "in_loop"] (spCL K C CI n)
  | 0 => F.okX sc_RowCheck_check_list (fun vs H Q E h => h.elim) (fun cdv A outer s H vs Q E hr h => h.elim)
  | n + 1 => by
    have m_check_list : Mcal P w K mg base (L2.CX P w) (5 + n + 1) C "check_list" ["self", "rows", "prefix", "depth", "in_loop"] (spCL K C CI n) := ⟨f, fd, hm, hb, ok_check_list F T rc hm hb m_fits m_collect c_inner_lists n⟩
    refine F.okX sc_RowCheck_check_list (fun vs H Q E h => ?_) (fun cdv A outer s H vs Q E hr h => ?_)
    · obtain ⟨A, E, c, rws, pr, ds, pre, lp, m, rfl, _⟩ := h
      rfl
    · obtain ⟨R, E0, c, rws, pr, ds, pre, lp, m, rfl, hC, O, hd, hpr, hpl, hcap, hw, k1, k2⟩ := h
      have hu := hu_of hr
      have c_RowCheck := rc.cls
      subst hC
      refine ⟨_, (pss_one (ps_for (passes_of rfl) rfl (pi_enum (by rfl) T.b_enumerate (pa_cons (pv 1) pa_nil)) (pg_tup rfl (pgs_cons (pg_name (i := 5) sc_RowCheck_check_list.nd rfl (.inl rfl)) (pgs_cons (pg_name (i := 6) sc_RowCheck_check_list.nd rfl (.inl rfl)) pgs_nil))) (pss_cons (ps_if (pt_not (pt_val (pe_mcal (pv 0) c_RowCheck m_fits (hr.mono (by omega)) pass0 (pa_cons (pv 6) (pa_cons (pv 3) (pa_cons (pv 4) pa_nil)))))) (pss_one (ps_raise rfl (takes_of rfl rfl rfl rfl) (pmk_x T.mk_InvalidProgram hr rfl T.g_InvalidProgram T.k_InvalidProgram T.r_InvalidProgram (pa_cons pe_str (pa_cons (pe_op op_catA (pv 2) (pe_tup (pa_cons (pv 5) pa_nil))) pa_nil))))) pss_nil)
      (pss_cons (ps_fldaug (pv 0) pe_int in_add)
      (pss_cons (ps_expr (pe_mcal (pv 0) c_RowCheck m_collect (hr.mono (by omega)) pass0 (pa_cons (pv 6) pa_nil)))
      (Evl.pss_cut (ps_set (i := 7) sc_RowCheck_check_list.nd rfl (.inl rfl) (pe_or (pv 4) (pe_one (pe_cmpR op_eq (pe_ix ix_tup (pv 6) pe_int (fun _ _ => rfl)) pe_str (nomark _)))))
      (Evl.pss_cut (ps_if (pt_cmpR op_eq (pe_ix ix_tup (pv 6) pe_int (fun _ _ => rfl)) pe_str (nomark _)) (pss_one (ps_set (i := 7) sc_RowCheck_check_list.nd rfl (.inl rfl) pe_bl)) pss_nil)
      (pss_one (ps_for (passes_of rfl) rfl (pi_enum (by rfl) T.b_enumerate (pa_cons (pe_cal c_inner_lists (hr.mono (by omega)) rfl pass0 (pa_cons (pv 6) pa_nil)) pa_nil)) (pg_tup rfl (pgs_cons (pg_name (i := 8) sc_RowCheck_check_list.nd rfl (.inl rfl)) (pgs_cons (pg_name (i := 9) sc_RowCheck_check_list.nd rfl (.inl rfl)) pgs_nil))) (pss_one (ps_expr (pe_mcal (pv 0) c_RowCheck m_check_list (hr.mono (by omega)) (passes_call (takes_of rfl rfl rfl rfl) (fun _ _ _ _ h => h)) (pa_cons (pv 9) (pa_cons (pe_op op_catA (pv 2) (pe_tup (pa_cons (pv 5) (pa_cons (pv 8) pa_nil)))) (pa_cons (pe_op op_add (pv 3) pe_int) (pa_cons (pv 7) pa_nil)))))))))))))))), ?_⟩
      cases hd with
      | @lst _ xs _ hq ha =>
      have hxl := ha.len
      refine ⟨_, rfl, rws, xs, rfl, hq, ?_⟩
      refine for_it walk_enum (fun i σ H' => (∃ y5 y6 y7 y8 y9 : Option V, σ = [some (.ref R.a), some (.ref rws), some (.ref pr), some (.int (5 - (n : Int))), some (.bl lp), y5, y6, y7, y8, y9]) ∧ ∃ ci mi, RC H' R E0 ci ∧ Fr R.L H H' ∧ Cap ci mi ∧ mi + 3 * wts (ds.drop i) ≤ 90000 ∧ chkL E0 (n + 1) lp ds pre c = chkRows (chkRow (chkL E0 n) E0 (5 - (n : Int)) lp pre) (ds.drop i) i ci) ⟨⟨_, _, _, _, _, rfl⟩, c, m, O, Fr.refl, hcap, hw, rfl⟩ (fun i σ H' _ p => by
        obtain ⟨_, ci, mi, O1, fr, _⟩ := p
        exact hq.kp (O.kp fr)) ?_ ?_
      · rintro i v σ H1 H2 hi ⟨⟨y5, y6, y7, y8, y9, rfl⟩, ci, mi, O1, fr1, cap1, hw1, hres⟩ ⟨T0, x0, y, rfl, hT0, rfl, hx0, hy⟩
        obtain rfl : x0 = .int (i : Nat) := (Option.some.inj hx0).symm
        obtain ⟨d, hd1, hdy⟩ := ha.get hy
        have hdrop : ds.drop i = d :: ds.drop (i + 1) := by
          obtain ⟨h1, h2⟩ := List.getElem?_eq_some_iff.mp hd1
          rw [List.drop_eq_getElem_cons h1, h2]
        rw [hdrop] at hw1 hres
        rw [wts_cons] at hw1
        refine ⟨T0, _, rfl, .inl (.inl upd_same), rfl, _, _, rfl, _, _, rfl, rfl, ?_⟩
        have sm2 : Same H1 (upd H1 T0 (.tup [.int (i : Nat), y])) := Same.new hT0
        have O2 := O1.mono sm2
        have fr2 : Fr R.L H (upd H1 T0 (.tup [.int (i : Nat), y])) := fr1.trans sm2.fr
        revert O2 fr2
        generalize upd H1 T0 (.tup [.int (i : Nat), y]) = H2
        intro O2 fr2
        have hdy2 : Dp K H2 y d := hdy.kp (O.kp fr2)
        have hwd : wt d ≤ 100000 := by omega
        refine ⟨_, rfl, _, _, _, rfl, O2.ob, rfl, _, rfl, _, rfl, _, rfl, R, E0, ci, y, d, _, lp, rfl, rfl, O2, hdy2, hwd, fun H3 s3 => ⟨_, rfl, ?_⟩⟩
        have O3 := O2.mono s3
        have fr3 : Fr R.L H H3 := fr2.trans s3.fr
        by_cases hf : ¬ fits E0 ci d (5 - (n : Int)) lp = true
        · have hf := Bool.eq_false_iff.mpr hf
          rw [hf]
          refine ifT rfl ?_
          have hp3 : SqT K H3 pr (pre.map V.int) := hpr.kp (O.kp fr3)
          refine ⟨_, rfl, _, rfl, sz1 _, fun p hp => cat_any (hp3.mono (Same.new hp)) (.inl (.inl upd_same)) (sz_lit (by rw [List.length_map]; show _ + 1 ≤ _; omega)) fun t H4 s4 ht => ⟨rfl, fun dd hdd => ?_⟩⟩
          have e : chkL E0 (n + 1) lp ds pre c = .error (pre ++ [(i : Int)]) := by
            rw [hres]
            unfold chkRows
            rw [chkRow_no hf]
          refine k2 _ e _ dd (fr3.trans ((Same.new hp).fr.trans (s4.fr.trans (Same.new hdd).fr))) ⟨t, upd_same, ?_⟩
          rw [← map_snoc]
          exact ht.mono (Same.new hdd)
        have hf : fits E0 ci d (5 - (n : Int)) lp = true := Decidable.byContradiction hf
        rw [hf]
        refine ifF rfl ?_
        obtain ⟨kind, parts, rfl⟩ := fits_tuple hf
        obtain ⟨hsh, hFit, _⟩ := fits_shape hf
        have hsl := shapes_len hsh
        have hpl4 : parts.length ≤ 4 := by rw [← hFit.1]; exact hsl
        cases hdy with
        | @tup t ys _ hqt hat =>
        have hdt : Dp K H3 (.ref t) (.tuple (.str kind :: parts)) := hdy2.mono s3
        refine ⟨_, rfl, _, _, _, _, _, rfl, O3.ob, rc.cls, rc.n4, rfl, _, _, rfl, rfl, _, _, O3.ob, (by show 8 < 1000; decide), ?_⟩
        have O4 := O3.tot (ci.total + 1)
        have fr4 : Fr R.L H3 (upd H3 R.a (.ins R.C R.dx (rcF R E0 { ci with total := ci.total + 1 }))) := Fr.refl.upd (by simp [RcA.L])
        refine ⟨_, rfl, _, _, _, rfl, O4.ob, rfl, _, rfl, R, E0, { ci with total := ci.total + 1 }, t, kind, _, parts, rfl, O4, rc, hdt.kp (O3.kp fr4), hsh, hFit, by omega, cap1.mono (by omega), fun H5 fr5 O5 => ?_⟩
        have fr45 := fr4.trans fr5
        have frH := fr3.trans fr45
        have hdt5 : Dp K H5 (.ref t) (.tuple (.str kind :: parts)) := hdt.kp (O3.kp fr45)
        clear fr5 O4 fr4
        have hq5 : ∃ vr, SqT K H5 t (.str kind :: vr) := by
          cases hdt5 with
          | @tup _ _ _ h1 h2 =>
          cases h2 with
          | @cons _ vr _ _ h3 h4 =>
          cases h3 with
          | str _ => exact ⟨vr, h1⟩
        obtain ⟨vr, hq5⟩ := hq5
        refine ⟨fun σ H' => (∃ y8' y9' : Option V, σ = [some (.ref R.a), some (.ref rws), some (.ref pr), some (.int (5 - (n : Int))), some (.bl lp), some (.int (i : Nat)), some (.ref t), some (.bl (lp || decide (kind = "loop"))), y8', y9']) ∧ H' = H5, ?_, ?_⟩
        · refine ⟨_, rfl, _, rfl, ?_⟩
          cases lp with
          | true => exact ifT rfl ⟨⟨_, _, rfl⟩, rfl⟩
          | false =>
            refine ifF rfl ⟨_, rfl, t, _, 0, _, rfl, rfl, hq5, atI_zero _ _, rfl, ?_⟩
            rw [dec_strV]
            exact ⟨⟨_, _, rfl⟩, rfl⟩
        rintro σ H' ⟨⟨y8', y9', rfl⟩, rfl⟩
        refine ⟨fun σ H'' => (∃ y8' y9' : Option V, σ = [some (.ref R.a), some (.ref rws), some (.ref pr), some (.int (5 - (n : Int))), some (.bl lp), some (.int (i : Nat)), some (.ref t), some (.bl (inside lp kind)), y8', y9']) ∧ H'' = H', ?_, ?_⟩
        · refine ⟨_, rfl, t, _, 0, _, rfl, rfl, hq5, atI_zero _ _, rfl, _, rfl, ?_⟩
          rw [dec_strV]
          unfold inside
          by_cases e : kind = "both"
          · rw [if_pos e]
            exact ifT (decide_eq_true e) ⟨⟨_, _, rfl⟩, rfl⟩
          · rw [if_neg e]
            exact ifF (decide_eq_false e) ⟨⟨_, _, rfl⟩, rfl⟩
        rintro σ H'' ⟨⟨y8', y9', rfl⟩, rfl⟩
        refine ⟨_, rfl, t, kind, parts, rfl, hdt5, by omega, fun e => ?_, fun p xs' H6 s6 _ hp6 hdp6 => ?_⟩
        · obtain ⟨ds', r', e', _⟩ := both_tuple hf e
          exact ⟨ds', r', e'⟩
        refine ⟨p, xs', rfl, .inl (.inl hp6), ?_⟩
        have hO6 := O5.mono s6
        have fr6 : Fr R.L H H6 := frH.trans s6.fr
        have hal := inner_lists_all hf
        have hlen6 := hdp6.len
        have hwi := wIn_inner kind parts
        have hres' : chkL E0 (n + 1) lp ds pre c = contR (chkRows (chkRow (chkL E0 n) E0 (5 - (n : Int)) lp pre) (ds.drop (i + 1)) (i + 1)) (chkIn (chkL E0 n (inside lp kind)) (pre ++ [(i : Int)]) (innerL kind parts) 0 (collect { ci with total := ci.total + 1 } kind (shapeOf kind) parts)) := by
          rw [hres, chkRows_cons]
          congr 1
          exact chkRow_yes hf
        refine for_it walk_enum (fun j σ H' => (∃ y8' y9' : Option V, σ = [some (.ref R.a), some (.ref rws), some (.ref pr), some (.int (5 - (n : Int))), some (.bl lp), some (.int (i : Nat)), some (.ref t), some (.bl (inside lp kind)), y8', y9']) ∧ ∃ cj mj, RC H' R E0 cj ∧ Fr R.L H6 H' ∧ Cap cj mj ∧ mj + 3 * wIn ((innerL kind parts).drop j) + 3 * wts (ds.drop (i + 1)) ≤ 90000 ∧ chkL E0 (n + 1) lp ds pre c = contR (chkRows (chkRow (chkL E0 n) E0 (5 - (n : Int)) lp pre) (ds.drop (i + 1)) (i + 1)) (chkIn (chkL E0 n (inside lp kind)) (pre ++ [(i : Int)]) ((innerL kind parts).drop j) j cj)) ⟨⟨_, _, rfl⟩, _, mi + 3 * parts.length, hO6, Fr.refl, collect_cap hFit cap1, ?_, hres'⟩ (fun j σ H' _ q => by
          obtain ⟨_, cj, mj, O7, fr7, _⟩ := q
          exact SqL.kp (.inl (.inl hp6)) (hO6.kp fr7)) ?_ ?_
        · rw [wt_tuple, wts_cons] at hw1
          rw [List.drop_zero]
          omega
        · rintro j v σ H7 H8 hj ⟨⟨y8', y9', rfl⟩, cj, mj, O7, fr7, cap7, hw7, hres7⟩ ⟨T1, x1, y1, rfl, hT1, rfl, hx1, hy1⟩
          obtain rfl : x1 = .int (j : Nat) := (Option.some.inj hx1).symm
          obtain ⟨d1, hd1', hdy1⟩ := hdp6.get hy1
          have hdrop1 : (innerL kind parts).drop j = d1 :: (innerL kind parts).drop (j + 1) := by
            obtain ⟨h1, h2⟩ := List.getElem?_eq_some_iff.mp hd1'
            rw [List.drop_eq_getElem_cons h1, h2]
          rw [hdrop1] at hw7 hres7
          have hw7 : mj + 3 * (wts (listOf d1) + wIn ((innerL kind parts).drop (j + 1))) + 3 * wts (ds.drop (i + 1)) ≤ 90000 := hw7
          obtain ⟨dl, rfl⟩ : ∃ dl, d1 = .list dl := by
            have := hal d1 (List.mem_of_getElem? hd1')
            cases d1 with
            | list dl => exact ⟨dl, rfl⟩
            | _ => cases this
          refine ⟨T1, _, rfl, .inl (.inl upd_same), rfl, _, _, rfl, _, _, rfl, rfl, ?_⟩
          have sm8 : Same H7 (upd H7 T1 (.tup [.int (j : Nat), y1])) := Same.new hT1
          have O8 := O7.mono sm8
          have fr8 : Fr R.L H6 (upd H7 T1 (.tup [.int (j : Nat), y1])) := fr7.trans sm8.fr
          revert O8 fr8
          generalize upd H7 T1 (.tup [.int (j : Nat), y1]) = H8
          intro O8 fr8
          have frA : Fr R.L H H8 := fr6.trans fr8
          have hdl : Dp K H8 y1 (.list dl) := (hdy1.mono s6).kp (hO6.kp fr8)
          cases n with
          | zero =>
            have := inner_deep hf (by show (5 : Int) ≤ 5 - (0 : Nat); omega)
            rw [this] at hd1'
            simp at hd1'
          | succ n' =>
          have hp8 : SqT K H8 pr (pre.map V.int) := hpr.kp (O.kp frA)
          obtain ⟨q1, rfl⟩ : ∃ q1, y1 = .ref q1 := by
            cases hdl with
            | lst _ _ => exact ⟨_, rfl⟩
          refine ⟨_, rfl, _, _, _, rfl, O8.ob, rfl, _, rfl, _, rfl, _, rfl, _, rfl, sz2 _ _, fun p9 hp9 => cat_any (hp8.mono (Same.new hp9)) (.inl (.inl upd_same)) (sz_lit (by rw [List.length_map]; show _ + 2 ≤ _; omega)) fun t9 H9 s9 ht9 => ⟨_, rfl, _, _, rfl, rfl, _, rfl, ?_⟩⟩
          have s89 : Same H8 H9 := (Same.new hp9).trans s9
          rw [map_snoc2] at ht9
          refine ⟨R, E0, cj, q1, t9, dl, pre ++ [(i : Int)] ++ [(j : Int)], inside lp kind, mj, ?_, rfl, O8.mono s89, hdl.mono s89, ht9, ?_, cap7, ?_, fun c' hc' H' fr' O' => ?_, fun p' hp' H' d' fr' hx' => ?_⟩
          · show [V.ref R.a, V.ref q1, V.ref t9, V.int (5 - ((n' + 1 : Nat) : Int) + 1), V.bl (inside lp kind)] = _
            rw [show (5 - ((n' + 1 : Nat) : Int) + 1) = 5 - (n' : Int) by omega]
          · rw [List.length_append, List.length_append]
            show pre.length + 1 + 1 + 2 * n' ≤ 100
            omega
          · have : wts (listOf (.list dl)) = wts dl := rfl
            omega
          · refine ⟨⟨_, _, rfl⟩, c', mj + 3 * wts dl, O', fr8.trans (s89.fr.trans fr'), chkL_cap E0 _ _ _ _ _ _ _ hc' cap7, ?_, ?_⟩
            · have : wts (listOf (.list dl)) = wts dl := rfl
              omega
            · rw [hres7]
              rw [chkIn_cons, show listOf (.list dl) = dl from rfl, hc']
              rfl
          · refine k2 p' ?_ H' d' (frA.trans (s89.fr.trans fr')) hx'
            rw [hres7]
            rw [chkIn_cons, show listOf (.list dl) = dl from rfl, hp']
            rfl
        · rintro σ H7 ⟨⟨y8', y9', rfl⟩, cj, mj, O7, fr7, cap7, hw7, hres7⟩
          rw [List.drop_of_length_le (l := innerL kind parts) (by omega)] at hres7
          exact ⟨⟨_, _, _, _, _, rfl⟩, cj, mj, O7, fr6.trans fr7, cap7, by omega, hres7⟩
      · rintro σ H' ⟨_, ci, mi, O1, fr, _, _, e⟩
        rw [List.drop_of_length_le (by omega)] at e
        exact k1 ci e H' fr O1
end
end Op
namespace Op
open PySem L2 PyProof.Rows
/-! ### the mirror: sizes, the whole check -/
def sizes (c : Chk) : Option Str :=
  if 60 < c.total then some "size"
  else if 6 < c.labels.length then some "labels"
  else if 4 < c.slots.length then some "slots"
  else if 8 < c.gates.length + c.edits.length then some "gates"
  else if 4 < c.edits.length then some "edits"
  else none
def chk0 : Chk := ⟨0, [], [], [], []⟩
def checkAll (E : Env0) (d : PyData) : Except (Str × List Int) Chk :=
  match d with
  | .list ds => match chkL E 5 false ds [] chk0 with
    | .error p => .error ("rows", p)
    | .ok c => match sizes c with
      | some s => .error (s, [])
      | none => .ok c
  | _ => .error ("rows", [])
section
variable {P : Program} {w : World} {K : PySem.W.Frag} {mg : Str → Option Value} {base : Heap} {pS CI C : Addr}
def spSizes (K : PySem.W.Frag) (C CI : Addr) : Sp := fun vs H Q X => ∃ (A : RcA) (E : Env0) (c : Chk), vs = [.ref A.a] ∧ A.C = C ∧ RC H A E c ∧ (sizes c = none → Q .non H) ∧ ∀ part, sizes c = some part → ∀ H' d, Same H H' → XProg K H' d part [] → X (.ref CI) (some d) H'
theorem sc_RowCheck_check_sizes : FnScope ["self"] ["self"] (defScope s_RowCheck_check_sizes) := ⟨rfl, rfl, rfl, by decide +kernel, rfl, by decide +kernel, by decide +kernel⟩
theorem ok_check_sizes {f : Addr} {fd : FuncData} (F : Fun K "check_sizes" "RowCheck.check_sizes" s_RowCheck_check_sizes f fd) (T : TxtC P w K mg pS CI) (rc : RcC K C) : FnOk P w K mg base (L2.CX P w) 1 f fd ["self"] (spSizes K C CI) := by
  refine F.okX sc_RowCheck_check_sizes (fun vs H Q E h => ?_) (fun cdv A outer s H vs Q E hr h => ?_)
  · obtain ⟨A, E, c, rfl, _⟩ := h
    rfl
  · obtain ⟨R, E0, c, rfl, hC, O, k1, k2⟩ := h
    subst hC
    unfold sizes at k1 k2
    refine ⟨_, (pss_cons (ps_if (pt_cmpR op_gt (pe_fld (pv 0) rfl) (pe_glob (v := .int (60)) rfl T.g_MOST_ROWS.choose_spec ⟨_, rfl⟩) (nomark _)) (pss_one (ps_raise rfl (takes_of rfl rfl rfl rfl) (pmk_x T.mk_InvalidProgram hr rfl T.g_InvalidProgram T.k_InvalidProgram T.r_InvalidProgram (pa_cons pe_str (pa_cons (pe_tup pa_nil) pa_nil))))) pss_nil)
      (pss_cons (ps_if (pt_cmpR op_gt (pe_callB call_lenD (by rfl) T.b_len (by decide +kernel) (pa_cons (pe_fld (pv 0) rfl) pa_nil)) (pe_glob (v := .int (6)) rfl T.g_MOST_LABELS.choose_spec ⟨_, rfl⟩) (nomark _)) (pss_one (ps_raise rfl (takes_of rfl rfl rfl rfl) (pmk_x T.mk_InvalidProgram hr rfl T.g_InvalidProgram T.k_InvalidProgram T.r_InvalidProgram (pa_cons pe_str (pa_cons (pe_tup pa_nil) pa_nil))))) pss_nil)
      (pss_cons (ps_if (pt_cmpR op_gt (pe_callB call_lenD (by rfl) T.b_len (by decide +kernel) (pa_cons (pe_fld (pv 0) rfl) pa_nil)) (pe_glob (v := .int (4)) rfl T.g_MOST_SLOTS.choose_spec ⟨_, rfl⟩) (nomark _)) (pss_one (ps_raise rfl (takes_of rfl rfl rfl rfl) (pmk_x T.mk_InvalidProgram hr rfl T.g_InvalidProgram T.k_InvalidProgram T.r_InvalidProgram (pa_cons pe_str (pa_cons (pe_tup pa_nil) pa_nil))))) pss_nil)
      (pss_cons (ps_if (pt_cmpR op_gt (pe_op op_add (pe_callB call_lenD (by rfl) T.b_len (by decide +kernel) (pa_cons (pe_fld (pv 0) rfl) pa_nil)) (pe_callB call_lenD (by rfl) T.b_len (by decide +kernel) (pa_cons (pe_fld (pv 0) rfl) pa_nil))) (pe_glob (v := .int (8)) rfl T.g_MOST_GATES.choose_spec ⟨_, rfl⟩) (nomark _)) (pss_one (ps_raise rfl (takes_of rfl rfl rfl rfl) (pmk_x T.mk_InvalidProgram hr rfl T.g_InvalidProgram T.k_InvalidProgram T.r_InvalidProgram (pa_cons pe_str (pa_cons (pe_tup pa_nil) pa_nil))))) pss_nil)
      (pss_one (ps_if (pt_cmpR op_gt (pe_callB call_lenD (by rfl) T.b_len (by decide +kernel) (pa_cons (pe_fld (pv 0) rfl) pa_nil)) (pe_glob (v := .int (4)) rfl T.g_MOST_EDITS.choose_spec ⟨_, rfl⟩) (nomark _)) (pss_one (ps_raise rfl (takes_of rfl rfl rfl rfl) (pmk_x T.mk_InvalidProgram hr rfl T.g_InvalidProgram T.k_InvalidProgram T.r_InvalidProgram (pa_cons pe_str (pa_cons (pe_tup pa_nil) pa_nil))))) pss_nil)))))), ?_⟩
    have fin : ∀ part : Str, (∀ H' d, Same H H' → XProg K H' d part [] → E (.ref CI) (some d) H') → ∀ p, H p = none → ∀ d, upd H p (.tup []) d = none → E (.ref CI) (some d) (upd (upd H p (.tup [])) d (.xd [("path", .ref p), ("part", .str part)])) := by
      intro part k p hp d hd
      refine k _ d ((Same.new hp).trans (Same.new hd)) ⟨p, upd_same, ?_⟩
      exact SqT.mono (.inl (.inl upd_same)) (Same.new hd)
    refine ⟨_, rfl, _, _, _, _, _, rfl, O.ob, rc.cls, rc.n4, rfl, _, _, rfl, rfl, _, rfl, ?_⟩
    by_cases e1 : 60 < c.total
    · rw [if_pos e1] at k2
      exact ifT (decide_eq_true e1) ⟨sz_lit (by decide), fun p hp => ⟨rfl, fun d hd => fin _ (k2 _ rfl) p hp d hd⟩⟩
    rw [if_neg e1] at k1 k2
    refine ifF (decide_eq_false e1) ⟨_, rfl, _, _, _, _, _, rfl, O.ob, rc.cls, rc.n5, rfl, _, _, rfl, O.dl, _, _, rfl, rfl, _, rfl, ?_⟩
    rw [dkT_len]
    by_cases e2 : 6 < c.labels.length
    · rw [if_pos e2] at k2
      exact ifT (decide_eq_true (show (6 : Int) < (c.labels.length : Int) by omega)) ⟨sz_lit (by decide), fun p hp => ⟨rfl, fun d hd => fin _ (k2 _ rfl) p hp d hd⟩⟩
    rw [if_neg e2] at k1 k2
    refine ifF (decide_eq_false (show ¬ (6 : Int) < (c.labels.length : Int) by omega)) ⟨_, rfl, _, _, _, _, _, rfl, O.ob, rc.cls, rc.n6, rfl, _, _, rfl, O.ds, _, _, rfl, rfl, _, rfl, ?_⟩
    rw [dkT_len]
    by_cases e3 : 4 < c.slots.length
    · rw [if_pos e3] at k2
      exact ifT (decide_eq_true (show (4 : Int) < (c.slots.length : Int) by omega)) ⟨sz_lit (by decide), fun p hp => ⟨rfl, fun d hd => fin _ (k2 _ rfl) p hp d hd⟩⟩
    rw [if_neg e3] at k1 k2
    refine ifF (decide_eq_false (show ¬ (4 : Int) < (c.slots.length : Int) by omega)) ⟨_, rfl, _, _, _, _, _, rfl, O.ob, rc.cls, rc.n7, rfl, _, _, rfl, O.dg, _, rfl, _, _, _, _, _, rfl, O.ob, rc.cls, rc.n8, rfl, _, _, rfl, O.de, _, _, rfl, rfl, _, _, rfl, rfl, _, rfl, ?_⟩
    rw [dkT_len, dkT_len]
    by_cases e4 : 8 < c.gates.length + c.edits.length
    · rw [if_pos e4] at k2
      exact ifT (decide_eq_true (show (8 : Int) < (c.gates.length : Int) + (c.edits.length : Int) by omega)) ⟨sz_lit (by decide), fun p hp => ⟨rfl, fun d hd => fin _ (k2 _ rfl) p hp d hd⟩⟩
    rw [if_neg e4] at k1 k2
    refine ifF (decide_eq_false (show ¬ (8 : Int) < (c.gates.length : Int) + (c.edits.length : Int) by omega)) ⟨_, rfl, _, _, _, _, _, rfl, O.ob, rc.cls, rc.n8, rfl, _, _, rfl, O.de, _, _, rfl, rfl, _, rfl, ?_⟩
    rw [dkT_len]
    by_cases e5 : 4 < c.edits.length
    · rw [if_pos e5] at k2
      exact ifT (decide_eq_true (show (4 : Int) < (c.edits.length : Int) by omega)) ⟨sz_lit (by decide), fun p hp => ⟨rfl, fun d hd => fin _ (k2 _ rfl) p hp d hd⟩⟩
    rw [if_neg e5] at k1 k2
    exact ifF (decide_eq_false (show ¬ (4 : Int) < (c.edits.length : Int) by omega)) (k1 rfl)
end
end Op
namespace Op
open PySem L2 PyProof.Rows
/-- what may be passed as the rows: data, or an empty dict -/
def RwV (K : PySem.W.Frag) (H : Hp) (v : V) (d : PyData) : Prop := Dp K H v d ∨ d = .dict [] ∧ ∃ p, v = .ref p ∧ H p = some (.dK [])
theorem RwV.lst {K : PySem.W.Frag} {H : Hp} {v : V} {ds : List PyData} (h : RwV K H v (.list ds)) : Dp K H v (.list ds) := by
  rcases h with h | ⟨h, _⟩
  · exact h
  · cases h
section
variable {P : Program} {w : World} {K : PySem.W.Frag} {mg : Str → Option Value} {base : Heap} {pS CI C : Addr}
def spCheck (K : PySem.W.Frag) (C CI : Addr) : Sp := fun vs H Q X => ∃ (A : RcA) (E : Env0) (v : V) (d : PyData), vs = [.ref A.a, v] ∧ A.C = C ∧ RC H A E chk0 ∧ RwV K H v d ∧ wt d ≤ 30000 ∧
  (∀ c, checkAll E d = .ok c → ∀ H', Fr A.L H H' → RC H' A E c → Q .non H') ∧ ∀ part path, checkAll E d = .error (part, path) → ∀ H' dd, Fr A.L H H' → XProg K H' dd part path → X (.ref CI) (some dd) H'
theorem sc_RowCheck_check : FnScope ["self", "rows"] ["self", "rows"] (defScope s_RowCheck_check) := ⟨rfl, rfl, rfl, by decide +kernel, rfl, by decide +kernel, by decide +kernel⟩
theorem ok_check {f : Addr} {fd : FuncData} (F : Fun K "check" "RowCheck.check" s_RowCheck_check f fd) (T : TxtC P w K mg pS CI) (rc : RcC K C) (m_check_list : Mcal P w K mg base (L2.CX P w) 11 C "check_list" ["self", "rows", "prefix", "depth", "in_loop"] (spCL K C CI 5)) (m_check_sizes : Mcal P w K mg base (L2.CX P w) 1 C "check_sizes" ["self"] (spSizes K C CI)) :
    FnOk P w K mg base (L2.CX P w) 12 f fd ["self", "rows"] (spCheck K C CI) := by
  refine F.okX sc_RowCheck_check (fun vs H Q E h => ?_) (fun cdv A outer s H vs Q E hr h => ?_)
  · obtain ⟨A, E, v, d, rfl, _⟩ := h
    rfl
  · obtain ⟨R, E0, v, d, rfl, hC, O, hd, hw, k1, k2⟩ := h
    have c_RowCheck := rc.cls
    subst hC
    refine ⟨_, (pss_cons (ps_if (pt_not (pt_val (pe_callB call_isi (by rfl) T.b_isinstance (by decide +kernel) (pa_cons (pv 1) (pa_cons (pe_bltn (v := .ty "list") (by rfl) T.b_list (by decide +kernel) rfl) pa_nil))))) (pss_one (ps_raise rfl (takes_of rfl rfl rfl rfl) (pmk_x T.mk_InvalidProgram hr rfl T.g_InvalidProgram T.k_InvalidProgram T.r_InvalidProgram (pa_cons pe_str (pa_cons (pe_tup pa_nil) pa_nil))))) pss_nil)
      (pss_cons (ps_expr (pe_mcal (pv 0) c_RowCheck m_check_list (hr.mono (by omega)) (passes_call (takes_of rfl rfl rfl rfl) (fun _ _ _ _ h => h)) (pa_cons (pv 1) (pa_cons (pe_tup pa_nil) (pa_cons pe_int (pa_cons pe_bl pa_nil))))))
      (pss_one (ps_expr (pe_mcal0 (pv 0) c_RowCheck m_check_sizes (hr.mono (by omega)) (passes_call (takes_of rfl rfl rfl rfl) (fun _ _ _ _ h => h))))))), ?_⟩
    have fin : (∀ H' dd, Fr R.L H H' → XProg K H' dd "rows" [] → E (.ref CI) (some dd) H') → ∀ p, H p = none → ∀ d, upd H p (.tup []) d = none → E (.ref CI) (some d) (upd (upd H p (.tup [])) d (.xd [("path", .ref p), ("part", .str "rows")])) := by
      intro k p hp d hd
      refine k _ d ((Same.new hp).trans (Same.new hd)).fr ⟨p, upd_same, ?_⟩
      exact SqT.mono (.inl (.inl upd_same)) (Same.new hd)
    rcases hd with hd | ⟨rfl, p, rfl, hp⟩
    rotate_left
    · refine ⟨_, rfl, .ref p, _, _, _, _, rfl, .ty _, TyX.base (.dK hp), kit_ty (show kitB "dict" "list" = some false by decide +kernel), _, rfl, ?_⟩
      exact ifT rfl ⟨sz_lit (by decide), fun p hp => ⟨rfl, fun d hd => fin (k2 _ _ rfl) p hp d hd⟩⟩
    refine ⟨_, rfl, v, _, _, _, _, rfl, .ty _, ty_dp hd, kit_list d, _, rfl, ?_⟩
    cases hd with
    | @lst q xs ds hq ha =>
      have hw' : 1 + wts ds ≤ 30000 := by rw [wt_list] at hw; exact hw
      refine ifF rfl ⟨_, rfl, _, _, _, rfl, O.ob, rfl, _, rfl, sz_lit (by decide), fun p hp => ?_⟩
      have s1 : Same H (upd H p (.tup [])) := Same.new hp
      refine ⟨R, E0, chk0, q, p, ds, [], false, 0, rfl, rfl, O.mono s1, (Dp.lst hq ha).mono s1, .inl (.inl upd_same), by decide, ⟨Nat.le_refl _, Nat.le_refl _, Nat.le_refl _, Nat.le_refl _⟩, by omega, fun c' hc' H' fr' O' => ?_, fun p' hp' H' d' fr' hx' => ?_⟩
      · refine ⟨_, rfl, _, _, _, rfl, O'.ob, rfl, R, E0, c', rfl, rfl, O', fun hs => ?_, fun part hs H'' d'' s'' hx'' => ?_⟩
        · refine k1 c' ?_ H' (s1.fr.trans fr') O'
          unfold checkAll
          simp only [hc', hs]
        · refine k2 part [] ?_ H'' d'' (s1.fr.trans (fr'.trans s''.fr)) hx''
          unfold checkAll
          simp only [hc', hs]
      · refine k2 "rows" p' ?_ H' d' (s1.fr.trans fr') hx'
        unfold checkAll
        simp only [hp']
    | _ => exact ifT rfl ⟨sz_lit (by decide), fun p hp => ⟨rfl, fun d hd => fin (k2 _ _ rfl) p hp d hd⟩⟩
/-! ### the making of it -/
theorem init_step {H : Hp} {x p C dx : Addr} {fs : List (Str × V)} {f : Str} (h : H x = some (.ins C dx fs)) (hp : H p = none) :
    upd (upd H p (.dK [])) x (.ins C dx (putF f (.ref p) fs)) x = some (.ins C dx (putF f (.ref p) fs)) ∧ upd (upd H p (.dK [])) x (.ins C dx (putF f (.ref p) fs)) p = some (.dK []) ∧ (∀ b o, H b = some o → b ≠ x → upd (upd H p (.dK [])) x (.ins C dx (putF f (.ref p) fs)) b = some o) ∧ ∀ b o, H b = some o → p ≠ b := by
  have hpx : p ≠ x := fun e => by rw [e, h] at hp; cases hp
  refine ⟨upd_same, by rw [upd_ne hpx, upd_same], fun b o hb hbx => ?_, fun b o hb e => ?_⟩
  · rw [upd_ne hbx, upd_ne (ne_of_none hb hp)]
    exact hb
  · rw [e, hb] at hp
    cases hp
def spRcInit (K : PySem.W.Frag) (C : Addr) : Sp := fun vs H Q _ => ∃ (x dx ka ks : Addr) (E : Env0), vs = [.ref x, .ref ka, .ref ks, .bl E.we] ∧ H x = some (.ins C dx []) ∧ Known H ka E.asks ∧ Known H ks E.sigs ∧
  ∀ H' A, A.a = x → A.C = C → (∀ b ∈ [A.l, A.s, A.g, A.e], H b = none) → RC H' A E chk0 → (∀ b o, H b = some o → b ≠ x → H' b = some o) → Q .non H'
theorem sc_RowCheck___init__ : FnScope ["self", "asks", "signals", "with_edits"] ["self", "asks", "signals", "with_edits"] (defScope s_RowCheck___init__) := ⟨rfl, rfl, rfl, by decide +kernel, rfl, by decide +kernel, by decide +kernel⟩
theorem ok_rcinit {f : Addr} {fd : FuncData} (F : Fun K "__init__" "RowCheck.__init__" s_RowCheck___init__ f fd) (rc : RcC K C) : FnOk P w K mg base CX0 1 f fd ["self", "asks", "signals", "with_edits"] (spRcInit K C) := by
  refine F.ok sc_RowCheck___init__ (fun vs H Q E h => ?_) (fun cdv A outer s H vs Q E hr h => ?_)
  · obtain ⟨x, dx, ka, ks, E, rfl, _⟩ := h
    rfl
  · obtain ⟨x, dx, ka, ks, E0, rfl, hx, hka, hks, k⟩ := h
    have nka : ka ≠ x := hka.ne_ins hx
    have nks : ks ≠ x := hks.ne_ins hx
    refine ⟨_, (pss_cons (ps_fld (pv 0) (pv 1) rfl)
      (pss_cons (ps_fld (pv 0) (pv 2) rfl)
      (pss_cons (ps_fld (pv 0) (pv 3) rfl)
      (pss_cons (ps_fld (pv 0) pe_int rfl)
      (pss_cons (ps_fld (pv 0) pe_dnewK rfl)
      (pss_cons (ps_fld (pv 0) pe_dnewK rfl)
      (pss_cons (ps_fld (pv 0) pe_dnewK rfl)
      (pss_one (ps_fld (pv 0) pe_dnewK rfl))))))))), ?_⟩
    refine ⟨_, rfl, _, rfl, x, C, dx, _, rfl, hx, rc.cls, rc.n1, (by show 0 < 1000; decide), ?_⟩
    refine ⟨_, rfl, _, rfl, x, C, dx, _, rfl, upd_same, rc.cls, rc.n2, (by show 1 < 1000; decide), ?_⟩
    refine ⟨_, rfl, _, rfl, x, C, dx, _, rfl, upd_same, rc.cls, rc.n3, (by show 2 < 1000; decide), ?_⟩
    refine ⟨_, rfl, x, C, dx, _, rfl, upd_same, rc.cls, rc.n4, (by show 3 < 1000; decide), ?_⟩
    rw [upd_upd, upd_upd, upd_upd]
    have g0 : ∀ b o, H b = some o → b ≠ x → upd H x (.ins C dx (putF "total" (.int 0) (putF "with_edits" (.bl E0.we) (putF "known_signals" (.ref ks) (putF "known_asks" (.ref ka) []))))) b = some o := fun b o hb hbx => by rw [upd_ne hbx]; exact hb
    have x0 : upd H x (.ins C dx (putF "total" (.int 0) (putF "with_edits" (.bl E0.we) (putF "known_signals" (.ref ks) (putF "known_asks" (.ref ka) []))))) x = some (.ins C dx (putF "total" (.int 0) (putF "with_edits" (.bl E0.we) (putF "known_signals" (.ref ks) (putF "known_asks" (.ref ka) []))))) := upd_same
    have n0 : ∀ b, upd H x (.ins C dx (putF "total" (.int 0) (putF "with_edits" (.bl E0.we) (putF "known_signals" (.ref ks) (putF "known_asks" (.ref ka) []))))) b = none → H b = none := fun b hb => by
      cases q : H b with
      | none => rfl
      | some o =>
        by_cases e : b = x
        · rw [e, x0] at hb; cases hb
        · rw [g0 b o q e] at hb; cases hb
    revert g0 x0 n0
    generalize upd H x (.ins C dx (putF "total" (.int 0) (putF "with_edits" (.bl E0.we) (putF "known_signals" (.ref ks) (putF "known_asks" (.ref ka) []))))) = H0
    intro g0 x0 n0
    refine fun p1 hp1 => ⟨_, rfl, x, C, dx, _, rfl, Same.new hp1 _ _ x0, rc.cls, rc.n5, (by show 4 < 1000; decide), ?_⟩
    obtain ⟨x1, q1, g1, m1⟩ := init_step (f := "label_words") x0 hp1
    revert x1 q1 g1
    generalize upd (upd H0 p1 (.dK [])) x (.ins C dx (putF "label_words" (.ref p1) _)) = H1
    intro x1 q1 g1
    refine fun p2 hp2 => ⟨_, rfl, x, C, dx, _, rfl, Same.new hp2 _ _ x1, rc.cls, rc.n6, (by show 5 < 1000; decide), ?_⟩
    obtain ⟨x2, q2, g2, m2⟩ := init_step (f := "slot_words") x1 hp2
    revert x2 q2 g2
    generalize upd (upd H1 p2 (.dK [])) x (.ins C dx (putF "slot_words" (.ref p2) _)) = H2
    intro x2 q2 g2
    refine fun p3 hp3 => ⟨_, rfl, x, C, dx, _, rfl, Same.new hp3 _ _ x2, rc.cls, rc.n7, (by show 6 < 1000; decide), ?_⟩
    obtain ⟨x3, q3, g3, m3⟩ := init_step (f := "gate_words") x2 hp3
    revert x3 q3 g3
    generalize upd (upd H2 p3 (.dK [])) x (.ins C dx (putF "gate_words" (.ref p3) _)) = H3
    intro x3 q3 g3
    refine fun p4 hp4 => ⟨_, rfl, x, C, dx, _, rfl, Same.new hp4 _ _ x3, rc.cls, rc.n8, (by show 7 < 1000; decide), ?_⟩
    obtain ⟨x4, q4, g4, m4⟩ := init_step (f := "edit_words") x3 hp4
    revert x4 q4 g4
    generalize upd (upd H3 p4 (.dK [])) x (.ins C dx (putF "edit_words" (.ref p4) _)) = H4
    intro x4 q4 g4
    have p1x : p1 ≠ x := m1 x _ x0
    have p2x : p2 ≠ x := m2 x _ x1
    have p3x : p3 ≠ x := m3 x _ x2
    have p4x : p4 ≠ x := m4 x _ x3
    have gg : ∀ b o, H b = some o → b ≠ x → H4 b = some o := fun b o hb hbx => g4 b o (g3 b o (g2 b o (g1 b o (g0 b o hb hbx) hbx) hbx) hbx) hbx
    have a1 : H1 p1 = some (.dK []) := q1
    have a2 : H2 p1 = some (.dK []) := g2 _ _ a1 p1x
    have a3 : H3 p1 = some (.dK []) := g3 _ _ a2 p1x
    have b2 : H2 p2 = some (.dK []) := q2
    have b3 : H3 p2 = some (.dK []) := g3 _ _ b2 p2x
    have c3 : H3 p3 = some (.dK []) := q3
    have e12 : p1 ≠ p2 := (m2 _ _ a1).symm
    have e13 : p1 ≠ p3 := (m3 _ _ a2).symm
    have e14 : p1 ≠ p4 := (m4 _ _ a3).symm
    have e23 : p2 ≠ p3 := (m3 _ _ b2).symm
    have e24 : p2 ≠ p4 := (m4 _ _ b3).symm
    have e34 : p3 ≠ p4 := (m4 _ _ c3).symm
    have up1 : ∀ b o, H b = some o → b ≠ x → H1 b = some o := fun b o hb hbx => g1 b o (g0 b o hb hbx) hbx
    have up2 : ∀ b o, H b = some o → b ≠ x → H2 b = some o := fun b o hb hbx => g2 b o (up1 b o hb hbx) hbx
    have up3 : ∀ b o, H b = some o → b ≠ x → H3 b = some o := fun b o hb hbx => g3 b o (up2 b o hb hbx) hbx
    have old : ∀ b o, H b = some o → b ≠ x → b ≠ p1 ∧ b ≠ p2 ∧ b ≠ p3 ∧ b ≠ p4 := fun b o hb hbx =>
      ⟨(m1 _ _ (g0 b o hb hbx)).symm, (m2 _ _ (up1 b o hb hbx)).symm, (m3 _ _ (up2 b o hb hbx)).symm, (m4 _ _ (up3 b o hb hbx)).symm⟩
    have oka := let ⟨kvs, h, _⟩ := hka; old _ _ h nka
    have oks := let ⟨kvs, h, _⟩ := hks; old _ _ h nks
    refine k H4 ⟨C, x, dx, ka, ks, p1, p2, p3, p4⟩ rfl rfl ?_ ⟨x4, hka.mono fun o h => gg _ o h nka, hks.mono fun o h => gg _ o h nks, g4 _ _ a3 p1x, g4 _ _ b3 p2x, g4 _ _ c3 p3x, q4, ?_, ?_⟩ gg
    · intro b hb
      cases q : H b with
      | none => rfl
      | some o =>
        exfalso
        have hb : b = p1 ∨ b = p2 ∨ b = p3 ∨ b = p4 := by simpa using hb
        by_cases hbx : b = x
        · rcases hb with e | e | e | e
          · exact p1x (e.symm.trans hbx)
          · exact p2x (e.symm.trans hbx)
          · exact p3x (e.symm.trans hbx)
          · exact p4x (e.symm.trans hbx)
        · obtain ⟨o1, o2, o3, o4⟩ := old b o q hbx
          rcases hb with e | e | e | e
          · exact o1 e
          · exact o2 e
          · exact o3 e
          · exact o4 e
    · simp [List.nodup_cons, oka, e12, e13, e14, e23, e24, e34]
    · simp [List.nodup_cons, oks, e12, e13, e14, e23, e24, e34]
end
end Op
namespace Op
open PySem L2 PyProof.Rows
/-! ### an argument that may be None, a dict with text keys, or something else -/
inductive ArgD where
  | none
  | dict (kvs : List (Str × PyData))
  | other (d : PyData)
def KvsR (K : PySem.W.Frag) (H : Hp) : List (Key × V) → List (Str × PyData) → Prop
  | [], [] => True
  | (k, v) :: r, (x, d) :: t => k = .inr x ∧ Dp K H v d ∧ KvsR K H r t
  | _, _ => False
def ArgV (K : PySem.W.Frag) (H : Hp) (v : V) : ArgD → Prop
  | .none => v = .non
  | .dict kvs => ∃ p vs, v = .ref p ∧ H p = some (.dK vs) ∧ KvsR K H vs kvs ∧ (kvs.map (·.1)).Nodup
  | .other d => Dp K H v d ∧ d ≠ .none
def argSmall : ArgD → Prop
  | .dict kvs => kvs.length ≤ 60 ∧ ∀ p ∈ kvs, p.1.length ≤ 100000 ∧ wt p.2 ≤ 100000
  | _ => True
def argL : V → List Addr
  | .ref p => [p]
  | _ => []
/-- only a dict is touched -/
def argF : ArgD → V → List Addr
  | .dict _, v => argL v
  | _, _ => []
section
variable {K : PySem.W.Frag} {H H' : Hp}
theorem KvsR.kp (s : Kp H H') : ∀ {vs : List (Key × V)} {kvs : List (Str × PyData)}, KvsR K H vs kvs → KvsR K H' vs kvs
  | [], [], _ => trivial
  | (k, v) :: r, (x, d) :: t, ⟨h1, h2, h3⟩ => ⟨h1, h2.kp s, KvsR.kp s h3⟩
theorem KvsR.len : ∀ {vs : List (Key × V)} {kvs : List (Str × PyData)}, KvsR K H vs kvs → vs.length = kvs.length
  | [], [], _ => rfl
  | (k, v) :: r, (x, d) :: t, ⟨h1, h2, h3⟩ => congrArg Nat.succ (KvsR.len h3)
theorem KvsR.keys : ∀ {vs : List (Key × V)} {kvs : List (Str × PyData)}, KvsR K H vs kvs → vs.map (·.1) = (kvs.map (·.1)).map Sum.inr
  | [], [], _ => rfl
  | (k, v) :: r, (x, d) :: t, ⟨h1, h2, h3⟩ => by
    rw [List.map_cons, List.map_cons, List.map_cons, KvsR.keys h3, h1]
theorem KvsR.get : ∀ {vs : List (Key × V)} {kvs : List (Str × PyData)} {i : Nat} {k : Key} {v : V}, KvsR K H vs kvs → vs[i]? = some (k, v) → ∃ x d, kvs[i]? = some (x, d) ∧ k = .inr x ∧ Dp K H v d
  | [], [], i, k, v, _, h => by simp at h
  | (k, v) :: r, (x, d) :: t, 0, k', v', ⟨h1, h2, h3⟩, e => by
    obtain ⟨rfl, rfl⟩ := Prod.mk.inj (Option.some.inj e)
    exact ⟨x, d, rfl, h1, h2⟩
  | (k, v) :: r, (x, d) :: t, i + 1, k', v', ⟨h1, h2, h3⟩, e => KvsR.get (i := i) h3 e
def lk (kvs : List (Str × PyData)) (y : Str) : PyData := (kvs.lookup y).getD .none
theorem KvsR.val : ∀ {vs : List (Key × V)} {kvs : List (Str × PyData)} (y : Str), KvsR K H vs kvs → y ∈ kvs.map (·.1) → ∃ v, valV vs (.inr y) = some v ∧ Dp K H v (lk kvs y)
  | [], [], y, _, h => by simp at h
  | (k, v) :: r, (x, d) :: t, y, ⟨h1, h2, h3⟩, h => by
    by_cases e : y = x
    · subst e
      refine ⟨v, by rw [h1]; exact valV_pos rfl, ?_⟩
      unfold lk
      rw [List.lookup_cons, beq_self_eq_true]
      exact h2
    · have hm : y ∈ t.map (·.1) := by
        rw [List.map_cons] at h
        exact (List.mem_cons.mp h).resolve_left e
      obtain ⟨w, g1, g2⟩ := KvsR.val y h3 hm
      refine ⟨w, by rw [h1, valV_neg (fun q => e (Sum.inr.inj q).symm)]; exact g1, ?_⟩
      unfold lk at g2 ⊢
      rw [List.lookup_cons, show (y == x) = false by simpa using e]
      exact g2
theorem lk_self : ∀ {kvs : List (Str × PyData)}, (kvs.map (·.1)).Nodup → (kvs.map (·.1)).map (fun y => (y, lk kvs y)) = kvs := by
  intro kvs
  induction kvs with
  | nil => intro _; rfl
  | cons p r ih =>
    obtain ⟨x, d⟩ := p
    intro h
    rw [List.map_cons, List.nodup_cons] at h
    rw [List.map_cons, List.map_cons]
    have e1 : lk ((x, d) :: r) x = d := by
      unfold lk
      rw [List.lookup_cons, beq_self_eq_true]
      rfl
    rw [e1]
    have e2 : (r.map (·.1)).map (fun y => (y, lk ((x, d) :: r) y)) = (r.map (·.1)).map (fun y => (y, lk r y)) := List.map_congr_left fun y hy => by
      have : (y == x) = false := by simpa using fun e : y = x => h.1 (e ▸ hy)
      unfold lk
      rw [List.lookup_cons, this]
    rw [e2, ih h.2]
end
def okTab (ok : PyData → Bool) (most : Nat) : ArgD → Option (List (Str × PyData))
  | .none => some []
  | .other _ => none
  | .dict kvs => if kvs.length ≤ most ∧ (kvs.all fun p => isWordS p.1 && ok p.2) = true then some kvs else none
section
variable {P : Program} {w : World} {K : PySem.W.Frag} {mg : Str → Option Value} {base : Heap} {pS CI : Addr}
def spTab (K : PySem.W.Frag) (CI : Addr) (part : Str) (ok : PyData → Bool) (most : Nat) : Sp := fun vs H Q X => ∃ v a, vs = [v] ∧ ArgV K H v a ∧ argSmall a ∧
  (∀ kvs, okTab ok most a = some kvs → ∀ p' H' ws kvs', Same H H' → H p' = none → H' p' = some (.dK ws) → kvs'.Perm kvs → sortedS (kvs'.map (·.1)) = true → KvsR K H' ws kvs' → Q (.ref p') H') ∧
  (okTab ok most a = none → ∀ H' d, Fr (argF a v) H H' → XProg K H' d part [] → X (.ref CI) (some d) H')
theorem nodup_take {ys : List Str} {i : Nat} {y : Str} (h : ys.Nodup) (e : ys[i]? = some y) : y ∉ ys.take i := fun m => by
  obtain ⟨j, hj⟩ := List.getElem?_of_mem m
  have hji : j < i := by
    have := (List.getElem?_eq_some_iff.mp hj).1
    rw [List.length_take] at this
    omega
  rw [List.getElem?_take, if_pos hji] at hj
  obtain ⟨h1, e1⟩ := List.getElem?_eq_some_iff.mp hj
  obtain ⟨h2, e2⟩ := List.getElem?_eq_some_iff.mp e
  exact (List.pairwise_iff_getElem.mp h) j i h1 h2 hji (e1.trans e2.symm)
theorem tyV_dK {H : Hp} {p : Addr} {kvs : List (Key × V)} (h : H p = some (.dK kvs)) : tyV K "dict" (.ref p) H := .inr (.inr (.inl ⟨rfl, .inl ⟨kvs, h⟩⟩))
theorem kit_dictK {H : Hp} {p : Addr} {kvs : List (Key × V)} (h : H p = some (.dK kvs)) : TyX K H (.ref p) (.type "dict") := .base (.dK h)
theorem sc_checked_asks : FnScope ["value", "name", "words"] ["value"] (defScope s_checked_asks) := ⟨rfl, rfl, rfl, by decide +kernel, rfl, by decide +kernel, by decide +kernel⟩
theorem ok_checked_asks {f : Addr} {fd : FuncData} (F : Fun K "checked_asks" "checked_asks" s_checked_asks f fd) (T : TxtC P w K mg pS CI) (c_is_word : Cal P w K mg base CX0 1 "is_word" ["value"] (spWord K)) (c_are_words : Cal P w K mg base CX0 2 "are_words" ["value", "most"] (spAreWords K)) :
    FnOk P w K mg base (L2.CX P w) 3 f fd ["value"] (spTab K CI "asks" (areWords 4) 6) := by
  refine F.okX sc_checked_asks (fun vs H Q E h => ?_) (fun cdv A outer s H vs Q E hr h => ?_)
  · obtain ⟨v, a, rfl, _⟩ := h
    rfl
  · obtain ⟨v, a, rfl, hv, hsm, k1, k2⟩ := h
    have hu := hu_of hr
    refine ⟨_, (pss_cons (ps_if (pt_cmpR op_isN (pv 0) pe_non (nomark _)) (pss_one (ps_ret pe_dnewK)) pss_nil)
      (pss_cons (ps_if (PW.pt (pw_or (pt_not (pt_val (pe_callB call_isi (by rfl) T.b_isinstance (by decide +kernel) (pa_cons (pv 0) (pa_cons (pe_bltn (v := .ty "dict") (by rfl) T.b_dict (by decide +kernel) rfl) pa_nil))))) (pw_or1 (pt_cmpR op_gt (pe_callB call_lenD (by rfl) T.b_len (by decide +kernel) (pa_cons (pv 0) pa_nil)) pe_int (nomark _))))) (pss_one (ps_raise rfl (takes_of rfl rfl rfl rfl) (pmk_x T.mk_InvalidProgram hr rfl T.g_InvalidProgram T.k_InvalidProgram T.r_InvalidProgram (pa_cons pe_str (pa_cons (pe_tup pa_nil) pa_nil))))) pss_nil)
      (pss_cons (ps_lock (ps_for (passes_of rfl) rfl (pi_items (pv 0)) (pg_tup rfl (pgs_cons (pg_name (i := 1) sc_checked_asks.nd rfl (.inl rfl)) (pgs_cons (pg_name (i := 2) sc_checked_asks.nd rfl (.inl rfl)) pgs_nil))) (pss_one (ps_if (PW.pt (pw_or (pt_not (pt_val (pe_cal c_is_word (hr.mono (by omega)) rfl pass0 (pa_cons (pv 1) pa_nil)))) (pw_or1 (pt_not (pt_val (pe_cal c_are_words (hr.mono (by omega)) rfl pass0 (pa_cons (pv 2) (pa_cons pe_int pa_nil)))))))) (pss_one (ps_raise rfl (takes_of rfl rfl rfl rfl) (pmk_x T.mk_InvalidProgram hr rfl T.g_InvalidProgram T.k_InvalidProgram T.r_InvalidProgram (pa_cons pe_str (pa_cons (pe_tup pa_nil) pa_nil))))) pss_nil))))
      (pss_one (ps_ret (pe_dc (own := [("name", 1)]) (g := gName 1) (tt := tYes) rfl sc_checked_asks.nd (pi_list (pe_callB (call_sortedKV rfl) (by rfl) T.b_sorted (by decide +kernel) (pa_cons (pe_bm0 PySem.F.plainAttrs_dict PySem.F.slot_dict_keys PySem.F.type_dict_keys mt_keysV (pv 0)) pa_nil))) (blkOk_by (own := [("name", 1)]) (N := ["value", "name", "words"]) (sc := defScope s_checked_asks) (by decide +kernel)) (fun _ _ _ _ _ => (pg_name (i := 1) sc_checked_asks.nd rfl (.inl rfl))) (fun _ _ _ _ _ => pts_nil) (fun _ _ _ _ _ => (pv 1)) (fun _ _ _ _ _ => (pe_dget hu (pv 0) (pv 1) (fun _ _ => rfl))))))))), ?_⟩
    have fin : (∀ H' dd, Fr (argF a v) H H' → XProg K H' dd "asks" [] → E (.ref CI) (some dd) H') → ∀ H1, Fr (argF a v) H H1 → ∀ p, H1 p = none → ∀ d, upd H1 p (.tup []) d = none → E (.ref CI) (some d) (upd (upd H1 p (.tup [])) d (.xd [("path", .ref p), ("part", .str "asks")])) := by
      intro k H1 f1 p hp d hd
      refine k _ d (f1.trans ((Same.new hp).trans (Same.new hd)).fr) ⟨p, upd_same, ?_⟩
      exact SqT.mono (.inl (.inl upd_same)) (Same.new hd)
    cases a with
    | none =>
      obtain rfl := hv
      refine ⟨_, rfl, rfl, _, rfl, ifT rfl fun p hp => ?_⟩
      exact k1 [] rfl p _ [] [] (Same.new hp) hp upd_same .nil rfl trivial
    | other d =>
      obtain ⟨hd, hn⟩ := hv
      have hvn : decide (v = .non) = false := decide_eq_false fun e => by
        subst e
        cases hd
        exact hn rfl
      refine ⟨_, rfl, rfl, _, rfl, ?_⟩
      rw [hvn]
      refine ifF rfl ⟨_, rfl, v, _, _, _, _, rfl, .ty _, ty_dp hd, kit_dict d, _, rfl, ?_⟩
      have fin' : ∀ p, H p = none → ∀ d, upd H p (.tup []) d = none → E (.ref CI) (some d) (upd (upd H p (.tup [])) d (.xd [("path", .ref p), ("part", .str "asks")])) := fin (k2 rfl) H Fr.refl
      cases hd <;> exact ifT rfl (ifT rfl ⟨sz_lit (by decide), fun p hp => ⟨rfl, fun d hd => fin' p hp d hd⟩⟩)
    | dict kvs =>
      obtain ⟨p, vs, rfl, hp, hkv, hnd⟩ := hv
      obtain ⟨hl60, hsmall⟩ := hsm
      have hlen := hkv.len
      refine ⟨_, rfl, rfl, _, rfl, ifF rfl ?_⟩
      refine ⟨_, rfl, .ref p, _, _, _, _, rfl, .ty _, kit_dictK hp, kit_ty (show kitB "dict" "dict" = some true by decide +kernel), _, rfl, ifF rfl ?_⟩
      refine ⟨_, rfl, p, vs, rfl, hp, _, _, rfl, rfl, _, rfl, ?_⟩
      by_cases e1 : 6 < vs.length
      · refine ifT (decide_eq_true (show (6 : Int) < (vs.length : Int) by omega)) ?_
        have : okTab (areWords 4) 6 (.dict kvs) = none := if_neg fun h => by omega
        exact ⟨sz_lit (by decide), fun q hq => ⟨rfl, fun d hd => fin (k2 this) H Fr.refl q hq d hd⟩⟩
      refine ifF (decide_eq_false (show ¬ (6 : Int) < (vs.length : Int) by omega)) ?_
      refine ⟨p, _, hp, trivial, fun od => ?_⟩
      have kp1 : Kp H (upd H p (.frz od (.dK vs))) := fun b o hb ho => by
        have : b ≠ p := fun e => by rw [e, hp] at hb; cases hb; cases ho
        rw [upd_ne this]
        exact hb
      have fr1 : Fr (argF (.dict kvs) (.ref p)) H (upd H p (.frz od (.dK vs))) := Fr.refl.upd (by simp [argF, argL])
      refine ⟨_, rfl, p, od, vs, rfl, upd_same, ?_⟩
      refine for_it walk_items (fun i σ H' => (∃ y1 y2 : Option V, σ = [some (.ref p), y1, y2]) ∧ Same (upd H p (.frz od (.dK vs))) H' ∧ ((kvs.take i).all fun q => isWordS q.1 && areWords 4 q.2) = true) ⟨⟨_, _, rfl⟩, Same.refl _, rfl⟩ (fun i σ H' _ q => q.2.1 _ _ upd_same) ?_ ?_
      · rintro i v σ H1 H2 hi ⟨⟨y1, y2, rfl⟩, s1, hall⟩ ⟨T0, x, y, rfl, hT0, rfl, hx, hy⟩
        have hvi : vs[i]? = some vs[i] := List.getElem?_eq_getElem hi
        have hx : Option.map (fun kv => kV kv.1) vs[i]? = some x := hx
        have hy : Option.map Prod.snd vs[i]? = some y := hy
        rw [hvi] at hx hy
        obtain ⟨xk, d, hki, hk, hdy⟩ := hkv.get (k := vs[i].1) (v := vs[i].2) hvi
        obtain rfl : x = .str xk := by
          rw [← Option.some.inj hx]
          show kV vs[i].1 = _
          rw [hk]
          rfl
        obtain rfl : y = vs[i].2 := (Option.some.inj hy).symm
        obtain ⟨hs1, hs2⟩ := hsmall (xk, d) (List.mem_of_getElem? hki)
        have sm2 : Same H1 (upd H1 T0 (.tup [.str xk, vs[i].2])) := Same.new hT0
        refine ⟨T0, _, rfl, .inl (.inl upd_same), rfl, _, _, rfl, _, _, rfl, rfl, ?_⟩
        have s2 := s1.trans sm2
        revert s2
        generalize upd H1 T0 (.tup [.str xk, vs[i].2]) = H2
        intro s2
        have hdy2 : Dp K H2 vs[i].2 d := hdy.kp (kp1.trans s2.kp)
        refine ⟨_, rfl, .str xk, .str xk, rfl, .str xk, fun z e => by cases e; exact hs1, _, rfl, ?_⟩
        have bad : (isWordS xk && areWords 4 d) = false → okTab (areWords 4) 6 (.dict kvs) = none := fun hb => if_neg fun h => by
          have := List.all_eq_true.mp h.2 (xk, d) (List.mem_of_getElem? hki)
          rw [hb] at this
          cases this
        have up : ∀ q, H2 q = none → ∀ d, upd H2 q (.tup []) d = none → okTab (areWords 4) 6 (.dict kvs) = none → E (.ref CI) (some d) (upd (upd H2 q (.tup [])) d (.xd [("path", .ref q), ("part", .str "asks")])) := fun q hq d hd hn => fin (k2 hn) H2 (fr1.trans s2.fr) q hq d hd
        by_cases w1 : isWordS xk = true
        · rw [show isWord (.str xk) = true from w1]
          refine ifF rfl ⟨_, rfl, vs[i].2, d, 4, rfl, hdy2, small_of d hs2, by decide, _, rfl, ?_⟩
          by_cases w2 : areWords 4 d = true
          · rw [w2]
            refine ifF rfl ⟨⟨_, _, rfl⟩, s2, ?_⟩
            rw [TS.take_one hki, List.all_append, hall]
            simp [w1, w2]
          · rw [Bool.eq_false_iff.mpr w2]
            refine ifT rfl ⟨sz_lit (by decide), fun q hq => ⟨rfl, fun d hd => up q hq d hd (bad ?_)⟩⟩
            rw [Bool.eq_false_iff.mpr w2, Bool.and_false]
        · rw [show isWord (.str xk) = false from Bool.eq_false_iff.mpr w1]
          refine ifT rfl (ifT rfl ⟨sz_lit (by decide), fun q hq => ⟨rfl, fun d hd => up q hq d hd (bad ?_)⟩⟩)
          rw [Bool.eq_false_iff.mpr w1, Bool.false_and]
      · rintro σ H1 ⟨⟨y1, y2, rfl⟩, s1, hall⟩
        rw [List.take_of_length_le (by omega)] at hall
        refine ⟨s1 _ _ upd_same, ?_⟩
        have good : okTab (areWords 4) 6 (.dict kvs) = some kvs := if_pos ⟨by omega, hall⟩
        have sA : Same H (upd H1 p (.dK vs)) := fun b o hb => by
          by_cases e : b = p
          · subst e
            rw [hp] at hb
            rw [upd_same]
            exact hb
          · rw [upd_ne e]
            refine s1 b o ?_
            rw [upd_ne e]
            exact hb
        have hpA : upd H1 p (.dK vs) p = some (.dK vs) := upd_same
        revert sA hpA
        generalize upd H1 p (.dK vs) = H2
        intro sA hpA
        refine ⟨_, rfl, tyV_dK hpA, p, vs, rfl, rfl, .inl hpA, fun q hq => ?_⟩
        have sB : Same H2 (upd H2 q (keysO q p)) := Same.new hq
        refine ⟨q, p, vs, kvs.map (·.1), rfl, upd_same, .inl (sB _ _ hpA), hkv.keys, by rw [List.length_map]; omega, fun ys l hperm hsort hl => ?_⟩
        have sC := sB.trans (Same.new (o := .lst (ys.map V.str)) hl)
        have hlC : upd (upd H2 q (keysO q p)) l (.lst (ys.map V.str)) l = some (.lst (ys.map V.str)) := upd_same
        revert sC hlC
        generalize upd (upd H2 q (keysO q p)) l (.lst (ys.map V.str)) = H3
        intro sC hlC
        refine ⟨l, rfl, ⟨_, .inl (.inl hlC)⟩, fun D hD => ?_⟩
        have hnd' : ys.Nodup := hperm.nodup_iff.mpr hnd
        have hyl : ys.length = kvs.length := by rw [hperm.length_eq, List.length_map]
        have hDS : Same H3 (upd H3 D (.dK [])) := Same.new hD
        refine dc_it (walk_list (xs := ys.map V.str)) (fun i H' => H' D = some (.dK ((ys.take i).map fun y => (Sum.inr y, (valV vs (.inr y)).getD .non))) ∧ Same H3 H') ⟨upd_same, hDS⟩ (fun i H' _ q => .inl (.inl (q.2 _ _ hlC))) ?_ ?_
        · rintro i x H5 H4 hi ⟨hD4, s4⟩ ⟨rfl, hx⟩
          have hi' : i < ys.length := by rw [List.length_map] at hi; exact hi
          have hyi : ys[i]? = some ys[i] := List.getElem?_eq_getElem hi'
          obtain rfl : x = .str ys[i] := by
            rw [List.getElem?_map, hyi] at hx
            exact (Option.some.inj hx).symm
          obtain ⟨v, hv1, hv2⟩ := hkv.val ys[i] (hperm.mem_iff.mp (List.mem_of_getElem? hyi))
          have hp4 : H4 p = some (.dK vs) := s4 _ _ (sC _ _ hpA)
          refine ⟨rfl, ?_⟩
          refine ⟨_, rfl, _, rfl, _, rfl, p, v, rfl, by rw [← hv1]; exact dget_known hp4, _, .inr ys[i], rfl, hD4, lt_sz (by rw [List.length_map, List.length_take]; omega), ?_, fun b o hb => ?_⟩
          · rw [upd_same, putK_new]
            · rw [TS.take_one hyi, List.map_append, List.map_cons, List.map_nil, hv1]
              rfl
            · have : ∀ l : List Str, ys[i] ∉ l → valV (l.map fun y => ((Sum.inr y : Key), (valV vs (.inr y)).getD .non)) (.inr ys[i]) = none := by
                intro l
                induction l with
                | nil => intro _; rfl
                | cons z r ih =>
                  intro hz
                  rw [List.mem_cons, not_or] at hz
                  rw [List.map_cons, valV_neg (fun e => hz.1 (Sum.inr.inj e).symm)]
                  exact ih hz.2
              exact this _ (nodup_take hnd' hyi)
          · have : b ≠ D := fun e => by rw [e, hD] at hb; cases hb
            rw [upd_ne this]
            exact s4 b o hb
        · rintro H4 ⟨hD4, s4⟩
          rw [List.length_map, List.take_length] at hD4
          have sall : Same H H4 := sA.trans (sC.trans s4)
          refine k1 kvs good D H4 _ (ys.map fun y => (y, lk kvs y)) sall ?_ hD4 ?_ ?_ ?_
          · exact (sA.trans sC).free hD
          · have := hperm.map (fun y => (y, lk kvs y))
            rw [lk_self hnd] at this
            exact this
          · rw [List.map_map]
            have : ((fun x : Str × PyData => x.1) ∘ fun y => (y, lk kvs y)) = id := by funext y; rfl
            rw [this, List.map_id]
            exact hsort
          · have : ∀ l : List Str, (∀ y ∈ l, y ∈ kvs.map (·.1)) → KvsR K H4 (l.map fun y => ((Sum.inr y : Key), (valV vs (.inr y)).getD .non)) (l.map fun y => (y, lk kvs y)) := by
              intro l
              induction l with
              | nil => intro _; exact trivial
              | cons z r ih =>
                intro hz
                obtain ⟨v, hv1, hv2⟩ := hkv.val z (hz z List.mem_cons_self)
                refine ⟨rfl, ?_, ih fun y hy => hz y (List.mem_cons_of_mem _ hy)⟩
                show Dp K H4 ((valV vs (.inr z)).getD .non) _
                rw [hv1]
                exact hv2.mono sall
            exact this ys fun y hy => hperm.mem_iff.mp hy
end
end Op
namespace Op
open PySem L2 PyProof.Rows
def isBox : PyData → Bool
  | .tuple [.int n, d] => decide (1 ≤ n ∧ n ≤ 3) && areWords 3 d
  | _ => false
section
variable {P : Program} {w : World} {K : PySem.W.Frag} {mg : Str → Option Value} {base : Heap} {pS CI : Addr}
theorem small_tup {ds : List PyData} (h : small (.tuple ds) = true) : smalls ds = true := by
  unfold small at h
  exact (Bool.and_eq_true_iff.mp h).2
def spInt (K : PySem.W.Frag) : Sp := fun vs H Q _ => ∃ (v : V) (d : PyData), vs = [v] ∧ Dp K H v d ∧ Q (.bl (isInt d)) H
theorem sc_is_integer : FnScope ["value"] ["value"] (defScope s_is_integer) := ⟨rfl, rfl, rfl, by decide +kernel, rfl, by decide +kernel, by decide +kernel⟩
theorem ok_is_integer {f : Addr} {fd : FuncData} (F : Fun K "is_integer" "is_integer" s_is_integer f fd) (T : Txt mg) : FnOk P w K mg base CX0 1 f fd ["value"] (spInt K) := by
  refine F.ok sc_is_integer (fun vs H Q E h => ?_) (fun cdv A outer s H vs Q E hr h => ?_)
  · obtain ⟨v, d, rfl, _⟩ := h
    rfl
  · obtain ⟨v, d, rfl, hd, k⟩ := h
    refine ⟨_, (pss_one (ps_ret (pe_and (pe_callB call_isi (by rfl) T.b_isinstance (by decide +kernel) (pa_cons (pv 0) (pa_cons (pe_bltn (v := .ty "int") (by rfl) T.b_int (by decide +kernel) rfl) pa_nil))) (pe_one (pe_not (pe_callB call_isi (by rfl) T.b_isinstance (by decide +kernel) (pa_cons (pv 0) (pa_cons (pe_bltn (v := .ty "bool") (by rfl) T.b_bool (by decide +kernel) rfl) pa_nil)))))))), ?_⟩
    refine ⟨_, rfl, v, _, _, _, _, rfl, .ty _, ty_dp hd, kit_int d, _, rfl, ?_⟩
    cases hd with
    | int i => exact ifT rfl ⟨_, rfl, .int i, _, _, _, _, rfl, .ty _, ty_dp (.int i), kit_bool (.int i), _, rfl, k⟩
    | bl b => exact ifT rfl ⟨_, rfl, .bl b, _, _, _, _, rfl, .ty _, ty_dp (.bl b), kit_bool (.bool b), _, rfl, k⟩
    | _ => exact ifF rfl k
def spBox (K : PySem.W.Frag) : Sp := fun vs H Q _ => ∃ (v : V) (d : PyData), vs = [v] ∧ Dp K H v d ∧ small d = true ∧ Q (.bl (isBox d)) H
theorem sc_is_box : FnScope ["value"] ["value"] (defScope s_is_box) := ⟨rfl, rfl, rfl, by decide +kernel, rfl, by decide +kernel, by decide +kernel⟩
theorem ok_is_box {f : Addr} {fd : FuncData} (F : Fun K "is_box" "is_box" s_is_box f fd) (T : Txt mg) (c_is_integer : Cal P w K mg base CX0 1 "is_integer" ["value"] (spInt K)) (c_are_words : Cal P w K mg base CX0 2 "are_words" ["value", "most"] (spAreWords K)) : FnOk P w K mg base CX0 3 f fd ["value"] (spBox K) := by
  refine F.ok sc_is_box (fun vs H Q E h => ?_) (fun cdv A outer s H vs Q E hr h => ?_)
  · obtain ⟨v, d, rfl, _⟩ := h
    rfl
  · obtain ⟨v, d, rfl, hd, hs, k⟩ := h
    refine ⟨_, (pss_cons (ps_if (PW.pt (pw_or (pt_not (pt_val (pe_callB call_isi (by rfl) T.b_isinstance (by decide +kernel) (pa_cons (pv 0) (pa_cons (pe_bltn (v := .ty "tuple") (by rfl) T.b_tuple (by decide +kernel) rfl) pa_nil))))) (pw_or (pt_cmpR op_ne (pe_callB call_len_seq (by rfl) T.b_len (by decide +kernel) (pa_cons (pv 0) pa_nil)) pe_int (nomark _)) (pw_or1 (pt_not (pt_val (pe_cal c_is_integer (hr.mono (by omega)) rfl pass0 (pa_cons (pe_ix ix_tup (pv 0) pe_int (fun _ _ => rfl)) pa_nil)))))))) (pss_one (ps_ret pe_bl)) pss_nil)
      (pss_one (ps_ret (pe_and (pe_chain op_le op_le pe_int (pe_ix ix_tup (pv 0) pe_int (fun _ _ => rfl)) pe_int) (pe_one (pe_cal c_are_words (hr.mono (by omega)) rfl pass0 (pa_cons (pe_ix ix_tup (pv 0) pe_int (fun _ _ => rfl)) (pa_cons pe_int pa_nil)))))))), ?_⟩
    refine ⟨_, rfl, v, _, _, _, _, rfl, .ty _, ty_dp hd, kit_tuple d, _, rfl, ?_⟩
    cases hd with
    | @tup a xs ds hq ha =>
      refine ifF rfl ⟨_, rfl, a, xs, rfl, .inr hq, rfl, _, rfl, ?_⟩
      have hlen := ha.len
      by_cases c : xs.length = 2
      · rw [c]
        refine ifF rfl ?_
        match xs, ds, ha, c, hlen, hq, hs, k with
        | [x, y], [d0, d1], .cons h0 (.cons h1 .nil), _, _, hq, hs, k =>
          refine ⟨_, rfl, a, _, 0, _, rfl, rfl, hq, atI_zero _ _, x, d0, rfl, h0, _, rfl, ?_⟩
          by_cases ci : isInt d0 = true
          · rw [ci]
            refine ifF rfl ?_
            cases h0 with
            | int n =>
              have hs1 : small d1 = true := smalls_get (ds := [.int n, d1]) (i := 1) (small_tup hs) rfl
              have e : isBox (.tuple [.int n, d1]) = (decide (1 ≤ n ∧ n ≤ 3) && areWords 3 d1) := rfl
              rw [e] at k
              refine ⟨_, rfl, a, _, 0, _, rfl, rfl, hq, atI_zero _ _, _, _, rfl, rfl, _, rfl, ?_⟩
              by_cases c1 : 1 ≤ n
              · refine ifT (decide_eq_true c1) ⟨_, _, rfl, rfl, _, rfl, ?_⟩
                by_cases c2 : n ≤ 3
                · rw [decide_eq_true (⟨c1, c2⟩ : 1 ≤ n ∧ n ≤ 3)] at k
                  exact ifT (decide_eq_true c2) ⟨_, rfl, a, _, 1, _, rfl, rfl, hq, atI_one _ _ _, y, d1, 3, rfl, h1, hs1, by decide, k⟩
                · rw [decide_eq_false (fun h => c2 h.2 : ¬ (1 ≤ n ∧ n ≤ 3))] at k
                  exact ifF (decide_eq_false c2) k
              · rw [decide_eq_false (fun h => c1 h.1 : ¬ (1 ≤ n ∧ n ≤ 3))] at k
                exact ifF (decide_eq_false c1) ⟨_, rfl, ifF rfl k⟩
            | _ => cases ci
          · rw [Bool.eq_false_iff.mpr ci]
            refine ifT rfl ?_
            have : isBox (.tuple [d0, d1]) = false := by cases d0 <;> first | rfl | exact absurd rfl ci
            rw [this] at k
            exact k
      · refine ifT (by rw [decide_eq_false (by intro z; injection z with z; omega)]; rfl) (ifT rfl ?_)
        · have : isBox (.tuple ds) = false := by
            match ds, hlen with
            | [], _ => rfl
            | [x], _ => cases x <;> rfl
            | [_, _], h => exact absurd h c
            | x :: _ :: _ :: _, _ => cases x <;> rfl
          rw [this] at k
          exact k
    | _ => exact ifT rfl (ifT rfl k)
theorem sc_checked_signals : FnScope ["value", "name", "box"] ["value"] (defScope s_checked_signals) := ⟨rfl, rfl, rfl, by decide +kernel, rfl, by decide +kernel, by decide +kernel⟩
theorem ok_checked_signals {f : Addr} {fd : FuncData} (F : Fun K "checked_signals" "checked_signals" s_checked_signals f fd) (T : TxtC P w K mg pS CI) (c_is_word : Cal P w K mg base CX0 1 "is_word" ["value"] (spWord K)) (c_is_box : Cal P w K mg base CX0 3 "is_box" ["value"] (spBox K)) :
    FnOk P w K mg base (L2.CX P w) 4 f fd ["value"] (spTab K CI "signals" isBox 3) := by
  refine F.okX sc_checked_signals (fun vs H Q E h => ?_) (fun cdv A outer s H vs Q E hr h => ?_)
  · obtain ⟨v, a, rfl, _⟩ := h
    rfl
  · obtain ⟨v, a, rfl, hv, hsm, k1, k2⟩ := h
    have hu := hu_of hr
    refine ⟨_, (pss_cons (ps_if (pt_cmpR op_isN (pv 0) pe_non (nomark _)) (pss_one (ps_ret pe_dnewK)) pss_nil)
      (pss_cons (ps_if (PW.pt (pw_or (pt_not (pt_val (pe_callB call_isi (by rfl) T.b_isinstance (by decide +kernel) (pa_cons (pv 0) (pa_cons (pe_bltn (v := .ty "dict") (by rfl) T.b_dict (by decide +kernel) rfl) pa_nil))))) (pw_or1 (pt_cmpR op_gt (pe_callB call_lenD (by rfl) T.b_len (by decide +kernel) (pa_cons (pv 0) pa_nil)) pe_int (nomark _))))) (pss_one (ps_raise rfl (takes_of rfl rfl rfl rfl) (pmk_x T.mk_InvalidProgram hr rfl T.g_InvalidProgram T.k_InvalidProgram T.r_InvalidProgram (pa_cons pe_str (pa_cons (pe_tup pa_nil) pa_nil))))) pss_nil)
      (pss_cons (ps_lock (ps_for (passes_of rfl) rfl (pi_items (pv 0)) (pg_tup rfl (pgs_cons (pg_name (i := 1) sc_checked_signals.nd rfl (.inl rfl)) (pgs_cons (pg_name (i := 2) sc_checked_signals.nd rfl (.inl rfl)) pgs_nil))) (pss_one (ps_if (PW.pt (pw_or (pt_not (pt_val (pe_cal c_is_word (hr.mono (by omega)) rfl pass0 (pa_cons (pv 1) pa_nil)))) (pw_or1 (pt_not (pt_val (pe_cal c_is_box (hr.mono (by omega)) rfl pass0 (pa_cons (pv 2) pa_nil))))))) (pss_one (ps_raise rfl (takes_of rfl rfl rfl rfl) (pmk_x T.mk_InvalidProgram hr rfl T.g_InvalidProgram T.k_InvalidProgram T.r_InvalidProgram (pa_cons pe_str (pa_cons (pe_tup pa_nil) pa_nil))))) pss_nil))))
      (pss_one (ps_ret (pe_dc (own := [("name", 1)]) (g := gName 1) (tt := tYes) rfl sc_checked_signals.nd (pi_list (pe_callB (call_sortedKV rfl) (by rfl) T.b_sorted (by decide +kernel) (pa_cons (pe_bm0 PySem.F.plainAttrs_dict PySem.F.slot_dict_keys PySem.F.type_dict_keys mt_keysV (pv 0)) pa_nil))) (blkOk_by (own := [("name", 1)]) (N := ["value", "name", "box"]) (sc := defScope s_checked_signals) (by decide +kernel)) (fun _ _ _ _ _ => (pg_name (i := 1) sc_checked_signals.nd rfl (.inl rfl))) (fun _ _ _ _ _ => pts_nil) (fun _ _ _ _ _ => (pv 1)) (fun _ _ _ _ _ => (pe_dget hu (pv 0) (pv 1) (fun _ _ => rfl))))))))), ?_⟩
    have fin : (∀ H' dd, Fr (argF a v) H H' → XProg K H' dd "signals" [] → E (.ref CI) (some dd) H') → ∀ H1, Fr (argF a v) H H1 → ∀ p, H1 p = none → ∀ d, upd H1 p (.tup []) d = none → E (.ref CI) (some d) (upd (upd H1 p (.tup [])) d (.xd [("path", .ref p), ("part", .str "signals")])) := by
      intro k H1 f1 p hp d hd
      refine k _ d (f1.trans ((Same.new hp).trans (Same.new hd)).fr) ⟨p, upd_same, ?_⟩
      exact SqT.mono (.inl (.inl upd_same)) (Same.new hd)
    cases a with
    | none =>
      obtain rfl := hv
      refine ⟨_, rfl, rfl, _, rfl, ifT rfl fun p hp => ?_⟩
      exact k1 [] rfl p _ [] [] (Same.new hp) hp upd_same .nil rfl trivial
    | other d =>
      obtain ⟨hd, hn⟩ := hv
      have hvn : decide (v = .non) = false := decide_eq_false fun e => by
        subst e
        cases hd
        exact hn rfl
      refine ⟨_, rfl, rfl, _, rfl, ?_⟩
      rw [hvn]
      refine ifF rfl ⟨_, rfl, v, _, _, _, _, rfl, .ty _, ty_dp hd, kit_dict d, _, rfl, ?_⟩
      have fin' : ∀ p, H p = none → ∀ d, upd H p (.tup []) d = none → E (.ref CI) (some d) (upd (upd H p (.tup [])) d (.xd [("path", .ref p), ("part", .str "signals")])) := fin (k2 rfl) H Fr.refl
      cases hd <;> exact ifT rfl (ifT rfl ⟨sz_lit (by decide), fun p hp => ⟨rfl, fun d hd => fin' p hp d hd⟩⟩)
    | dict kvs =>
      obtain ⟨p, vs, rfl, hp, hkv, hnd⟩ := hv
      obtain ⟨hl60, hsmall⟩ := hsm
      have hlen := hkv.len
      refine ⟨_, rfl, rfl, _, rfl, ifF rfl ?_⟩
      refine ⟨_, rfl, .ref p, _, _, _, _, rfl, .ty _, kit_dictK hp, kit_ty (show kitB "dict" "dict" = some true by decide +kernel), _, rfl, ifF rfl ?_⟩
      refine ⟨_, rfl, p, vs, rfl, hp, _, _, rfl, rfl, _, rfl, ?_⟩
      by_cases e1 : 3 < vs.length
      · refine ifT (decide_eq_true (show (3 : Int) < (vs.length : Int) by omega)) ?_
        have : okTab isBox 3 (.dict kvs) = none := if_neg fun h => by omega
        exact ⟨sz_lit (by decide), fun q hq => ⟨rfl, fun d hd => fin (k2 this) H Fr.refl q hq d hd⟩⟩
      refine ifF (decide_eq_false (show ¬ (3 : Int) < (vs.length : Int) by omega)) ?_
      refine ⟨p, _, hp, trivial, fun od => ?_⟩
      have kp1 : Kp H (upd H p (.frz od (.dK vs))) := fun b o hb ho => by
        have : b ≠ p := fun e => by rw [e, hp] at hb; cases hb; cases ho
        rw [upd_ne this]
        exact hb
      have fr1 : Fr (argF (.dict kvs) (.ref p)) H (upd H p (.frz od (.dK vs))) := Fr.refl.upd (by simp [argF, argL])
      refine ⟨_, rfl, p, od, vs, rfl, upd_same, ?_⟩
      refine for_it walk_items (fun i σ H' => (∃ y1 y2 : Option V, σ = [some (.ref p), y1, y2]) ∧ Same (upd H p (.frz od (.dK vs))) H' ∧ ((kvs.take i).all fun q => isWordS q.1 && isBox q.2) = true) ⟨⟨_, _, rfl⟩, Same.refl _, rfl⟩ (fun i σ H' _ q => q.2.1 _ _ upd_same) ?_ ?_
      · rintro i v σ H1 H2 hi ⟨⟨y1, y2, rfl⟩, s1, hall⟩ ⟨T0, x, y, rfl, hT0, rfl, hx, hy⟩
        have hvi : vs[i]? = some vs[i] := List.getElem?_eq_getElem hi
        have hx : Option.map (fun kv => kV kv.1) vs[i]? = some x := hx
        have hy : Option.map Prod.snd vs[i]? = some y := hy
        rw [hvi] at hx hy
        obtain ⟨xk, d, hki, hk, hdy⟩ := hkv.get (k := vs[i].1) (v := vs[i].2) hvi
        obtain rfl : x = .str xk := by
          rw [← Option.some.inj hx]
          show kV vs[i].1 = _
          rw [hk]
          rfl
        obtain rfl : y = vs[i].2 := (Option.some.inj hy).symm
        obtain ⟨hs1, hs2⟩ := hsmall (xk, d) (List.mem_of_getElem? hki)
        have sm2 : Same H1 (upd H1 T0 (.tup [.str xk, vs[i].2])) := Same.new hT0
        refine ⟨T0, _, rfl, .inl (.inl upd_same), rfl, _, _, rfl, _, _, rfl, rfl, ?_⟩
        have s2 := s1.trans sm2
        revert s2
        generalize upd H1 T0 (.tup [.str xk, vs[i].2]) = H2
        intro s2
        have hdy2 : Dp K H2 vs[i].2 d := hdy.kp (kp1.trans s2.kp)
        refine ⟨_, rfl, .str xk, .str xk, rfl, .str xk, fun z e => by cases e; exact hs1, _, rfl, ?_⟩
        have bad : (isWordS xk && isBox d) = false → okTab isBox 3 (.dict kvs) = none := fun hb => if_neg fun h => by
          have := List.all_eq_true.mp h.2 (xk, d) (List.mem_of_getElem? hki)
          rw [hb] at this
          cases this
        have up : ∀ q, H2 q = none → ∀ d, upd H2 q (.tup []) d = none → okTab isBox 3 (.dict kvs) = none → E (.ref CI) (some d) (upd (upd H2 q (.tup [])) d (.xd [("path", .ref q), ("part", .str "signals")])) := fun q hq d hd hn => fin (k2 hn) H2 (fr1.trans s2.fr) q hq d hd
        by_cases w1 : isWordS xk = true
        · rw [show isWord (.str xk) = true from w1]
          refine ifF rfl ⟨_, rfl, vs[i].2, d, rfl, hdy2, small_of d hs2, _, rfl, ?_⟩
          by_cases w2 : isBox d = true
          · rw [w2]
            refine ifF rfl ⟨⟨_, _, rfl⟩, s2, ?_⟩
            rw [TS.take_one hki, List.all_append, hall]
            simp [w1, w2]
          · rw [Bool.eq_false_iff.mpr w2]
            refine ifT rfl ⟨sz_lit (by decide), fun q hq => ⟨rfl, fun d hd => up q hq d hd (bad ?_)⟩⟩
            rw [Bool.eq_false_iff.mpr w2, Bool.and_false]
        · rw [show isWord (.str xk) = false from Bool.eq_false_iff.mpr w1]
          refine ifT rfl (ifT rfl ⟨sz_lit (by decide), fun q hq => ⟨rfl, fun d hd => up q hq d hd (bad ?_)⟩⟩)
          rw [Bool.eq_false_iff.mpr w1, Bool.false_and]
      · rintro σ H1 ⟨⟨y1, y2, rfl⟩, s1, hall⟩
        rw [List.take_of_length_le (by omega)] at hall
        refine ⟨s1 _ _ upd_same, ?_⟩
        have good : okTab isBox 3 (.dict kvs) = some kvs := if_pos ⟨by omega, hall⟩
        have sA : Same H (upd H1 p (.dK vs)) := fun b o hb => by
          by_cases e : b = p
          · subst e
            rw [hp] at hb
            rw [upd_same]
            exact hb
          · rw [upd_ne e]
            refine s1 b o ?_
            rw [upd_ne e]
            exact hb
        have hpA : upd H1 p (.dK vs) p = some (.dK vs) := upd_same
        revert sA hpA
        generalize upd H1 p (.dK vs) = H2
        intro sA hpA
        refine ⟨_, rfl, tyV_dK hpA, p, vs, rfl, rfl, .inl hpA, fun q hq => ?_⟩
        have sB : Same H2 (upd H2 q (keysO q p)) := Same.new hq
        refine ⟨q, p, vs, kvs.map (·.1), rfl, upd_same, .inl (sB _ _ hpA), hkv.keys, by rw [List.length_map]; omega, fun ys l hperm hsort hl => ?_⟩
        have sC := sB.trans (Same.new (o := .lst (ys.map V.str)) hl)
        have hlC : upd (upd H2 q (keysO q p)) l (.lst (ys.map V.str)) l = some (.lst (ys.map V.str)) := upd_same
        revert sC hlC
        generalize upd (upd H2 q (keysO q p)) l (.lst (ys.map V.str)) = H3
        intro sC hlC
        refine ⟨l, rfl, ⟨_, .inl (.inl hlC)⟩, fun D hD => ?_⟩
        have hnd' : ys.Nodup := hperm.nodup_iff.mpr hnd
        have hyl : ys.length = kvs.length := by rw [hperm.length_eq, List.length_map]
        have hDS : Same H3 (upd H3 D (.dK [])) := Same.new hD
        refine dc_it (walk_list (xs := ys.map V.str)) (fun i H' => H' D = some (.dK ((ys.take i).map fun y => (Sum.inr y, (valV vs (.inr y)).getD .non))) ∧ Same H3 H') ⟨upd_same, hDS⟩ (fun i H' _ q => .inl (.inl (q.2 _ _ hlC))) ?_ ?_
        · rintro i x H5 H4 hi ⟨hD4, s4⟩ ⟨rfl, hx⟩
          have hi' : i < ys.length := by rw [List.length_map] at hi; exact hi
          have hyi : ys[i]? = some ys[i] := List.getElem?_eq_getElem hi'
          obtain rfl : x = .str ys[i] := by
            rw [List.getElem?_map, hyi] at hx
            exact (Option.some.inj hx).symm
          obtain ⟨v, hv1, hv2⟩ := hkv.val ys[i] (hperm.mem_iff.mp (List.mem_of_getElem? hyi))
          have hp4 : H4 p = some (.dK vs) := s4 _ _ (sC _ _ hpA)
          refine ⟨rfl, ?_⟩
          refine ⟨_, rfl, _, rfl, _, rfl, p, v, rfl, by rw [← hv1]; exact dget_known hp4, _, .inr ys[i], rfl, hD4, lt_sz (by rw [List.length_map, List.length_take]; omega), ?_, fun b o hb => ?_⟩
          · rw [upd_same, putK_new]
            · rw [TS.take_one hyi, List.map_append, List.map_cons, List.map_nil, hv1]
              rfl
            · have : ∀ l : List Str, ys[i] ∉ l → valV (l.map fun y => ((Sum.inr y : Key), (valV vs (.inr y)).getD .non)) (.inr ys[i]) = none := by
                intro l
                induction l with
                | nil => intro _; rfl
                | cons z r ih =>
                  intro hz
                  rw [List.mem_cons, not_or] at hz
                  rw [List.map_cons, valV_neg (fun e => hz.1 (Sum.inr.inj e).symm)]
                  exact ih hz.2
              exact this _ (nodup_take hnd' hyi)
          · have : b ≠ D := fun e => by rw [e, hD] at hb; cases hb
            rw [upd_ne this]
            exact s4 b o hb
        · rintro H4 ⟨hD4, s4⟩
          rw [List.length_map, List.take_length] at hD4
          have sall : Same H H4 := sA.trans (sC.trans s4)
          refine k1 kvs good D H4 _ (ys.map fun y => (y, lk kvs y)) sall ?_ hD4 ?_ ?_ ?_
          · exact (sA.trans sC).free hD
          · have := hperm.map (fun y => (y, lk kvs y))
            rw [lk_self hnd] at this
            exact this
          · rw [List.map_map]
            have : ((fun x : Str × PyData => x.1) ∘ fun y => (y, lk kvs y)) = id := by funext y; rfl
            rw [this, List.map_id]
            exact hsort
          · have : ∀ l : List Str, (∀ y ∈ l, y ∈ kvs.map (·.1)) → KvsR K H4 (l.map fun y => ((Sum.inr y : Key), (valV vs (.inr y)).getD .non)) (l.map fun y => (y, lk kvs y)) := by
              intro l
              induction l with
              | nil => intro _; exact trivial
              | cons z r ih =>
                intro hz
                obtain ⟨v, hv1, hv2⟩ := hkv.val z (hz z List.mem_cons_self)
                refine ⟨rfl, ?_, ih fun y hy => hz y (List.mem_cons_of_mem _ hy)⟩
                show Dp K H4 ((valV vs (.inr z)).getD .non) _
                rw [hv1]
                exact hv2.mono sall
            exact this ys fun y hy => hperm.mem_iff.mp hy
def spInputs (K : PySem.W.Frag) (CI : Addr) : Sp := fun vs H Q X => ∃ v d, vs = [v] ∧ Dp K H v d ∧ small d = true ∧ (areWords 3 d = true → Q v H) ∧ (areWords 3 d = false → ∀ H' dd, Same H H' → XProg K H' dd "inputs" [] → X (.ref CI) (some dd) H')
theorem sc_checked_inputs : FnScope ["value"] ["value"] (defScope s_checked_inputs) := ⟨rfl, rfl, rfl, by decide +kernel, rfl, by decide +kernel, by decide +kernel⟩
theorem ok_checked_inputs {f : Addr} {fd : FuncData} (F : Fun K "checked_inputs" "checked_inputs" s_checked_inputs f fd) (T : TxtC P w K mg pS CI) (c_are_words : Cal P w K mg base CX0 2 "are_words" ["value", "most"] (spAreWords K)) : FnOk P w K mg base (L2.CX P w) 3 f fd ["value"] (spInputs K CI) := by
  refine F.okX sc_checked_inputs (fun vs H Q E h => ?_) (fun cdv A outer s H vs Q E hr h => ?_)
  · obtain ⟨v, a, rfl, _⟩ := h
    rfl
  · obtain ⟨v, d, rfl, hd, hs, k1, k2⟩ := h
    refine ⟨_, (pss_cons (ps_if (pt_not (pt_val (pe_cal c_are_words (hr.mono (by omega)) rfl pass0 (pa_cons (pv 0) (pa_cons pe_int pa_nil))))) (pss_one (ps_raise rfl (takes_of rfl rfl rfl rfl) (pmk_x T.mk_InvalidProgram hr rfl T.g_InvalidProgram T.k_InvalidProgram T.r_InvalidProgram (pa_cons pe_str (pa_cons (pe_tup pa_nil) pa_nil))))) pss_nil)
      (pss_one (ps_ret (pv 0)))), ?_⟩
    refine ⟨_, rfl, v, d, 3, rfl, hd, hs, by decide, _, rfl, ?_⟩
    by_cases c : areWords 3 d = true
    · rw [c]
      exact ifF rfl ⟨_, rfl, k1 c⟩
    · have c := Bool.eq_false_iff.mpr c
      rw [c]
      refine ifT rfl ⟨sz_lit (by decide), fun p hp => ⟨rfl, fun dd hdd => ?_⟩⟩
      refine k2 c _ dd ((Same.new hp).trans (Same.new hdd)) ⟨p, upd_same, ?_⟩
      exact SqT.mono (.inl (.inl upd_same)) (Same.new hdd)
end
end Op
namespace Op
open PySem L2 PyProof.Rows
/-! ### rows that were checked: their form -/
def notList (d : PyData) : Bool := !isList d
mutual
/-- no list in it -/
def noL : PyData → Bool
  | .list _ => false
  | .tuple xs => noLs xs
  | _ => true
def noLs : List PyData → Bool
  | [] => true
  | x :: r => noL x && noLs r
end
theorem noLs_mem : ∀ {ds : List PyData}, noLs ds = true ↔ ∀ d ∈ ds, noL d = true
  | [] => by
    unfold noLs
    exact ⟨fun _ d h => (List.not_mem_nil h).elim, fun _ => rfl⟩
  | x :: r => by
    unfold noLs
    rw [Bool.and_eq_true_iff, noLs_mem (ds := r)]
    constructor
    · rintro ⟨h1, h2⟩ d hd
      rcases List.mem_cons.mp hd with rfl | hd
      · exact h1
      · exact h2 d hd
    · intro h
      exact ⟨h x List.mem_cons_self, fun d hd => h d (List.mem_cons_of_mem _ hd)⟩
theorem noL_word {d : PyData} (h : isWord d = true) : noL d = true := by
  cases d with
  | str _ => unfold noL; rfl
  | _ => cases h
theorem noL_words {m : Int} {d : PyData} (h : areWords m d = true) : noL d = true := by
  obtain ⟨zs, rfl, _⟩ := aw_tup h
  unfold noL
  refine noLs_mem.mpr fun d hd => ?_
  obtain ⟨z, _, rfl⟩ := List.mem_map.mp hd
  unfold noL
  rfl
def rowOk (rec : List PyData → Prop) : PyData → Prop
  | .tuple (.str kind :: parts) => parts.length ≤ 4 ∧ (kind = "both" → ∃ ds, parts = [.tuple ds] ∧ ds ≠ []) ∧ (kind ≠ "both" → parts = parts.filter notList ++ parts.filter isList ∧ ∀ d ∈ parts, isList d = false → noL d = true) ∧ (∀ d ∈ innerL kind parts, isList d = true ∧ rec (listOf d))
  | _ => False
def rowsOk : Nat → List PyData → Prop
  | 0, _ => False
  | n + 1, ds => ∀ d ∈ ds, rowOk (rowsOk n) d
/-- a text whose signs b stand at its end -/
def endB (l : List Nat) : Bool := decide (l = l.filter (fun c => !decide (c = 98)) ++ l.filter (fun c => decide (c = 98)))
theorem shapes_end : ∀ {kind sh : Str}, shapes.lookup kind = some sh → kind ≠ "both" → endB sh.cps.toList = true ∧ (116 ∉ sh.cps.toList) := by
  have key : ∀ (l : List (Str × Str)) (kind sh : Str), l.all (fun p => decide (p.1 = "both") || (endB p.2.cps.toList && decide (116 ∉ p.2.cps.toList))) = true → l.lookup kind = some sh → kind ≠ "both" → endB sh.cps.toList = true ∧ (116 ∉ sh.cps.toList) := by
    intro l
    induction l with
    | nil => intro kind sh _ h; cases h
    | cons p r ih =>
      intro kind sh ha h hk
      obtain ⟨a, b⟩ := p
      obtain ⟨h1, h2⟩ := Bool.and_eq_true_iff.mp ha
      rw [List.lookup_cons] at h
      cases q : kind == a with
      | true =>
        rw [q] at h
        obtain rfl := Option.some.inj h
        have e : kind = a := by simpa using q
        rcases Bool.or_eq_true_iff.mp h1 with h1 | h1
        · exact absurd (e.trans (of_decide_eq_true h1)) hk
        · obtain ⟨h3, h4⟩ := Bool.and_eq_true_iff.mp h1
          exact ⟨h3, of_decide_eq_true h4⟩
      | false =>
        rw [q] at h
        exact ih kind sh h2 h hk
  intro kind sh h hk
  exact key shapes kind sh (by decide +kernel) h hk
theorem pf_isList {E : Env0} {ch : Nat} {d : PyData} (h : partFits E ⟨#[ch]⟩ d = true) (n : ch ≠ 116) : isList d = decide (ch = 98) := by
  by_cases e : ch = 98
  · subst e
    rw [decide_eq_true rfl]
    exact h
  · rw [decide_eq_false e]
    have sb : ¬ (⟨#[ch]⟩ : Str) = "b" := fun z => e (by
      have z : (⟨#[ch]⟩ : Str) = ⟨#[98]⟩ := z
      simpa using z)
    have st : ¬ (⟨#[ch]⟩ : Str) = "t" := fun z => n (by
      have z : (⟨#[ch]⟩ : Str) = ⟨#[116]⟩ := z
      simpa using z)
    by_cases em : (⟨#[ch]⟩ : Str) = "m" ∨ (⟨#[ch]⟩ : Str) = "v"
    · unfold partFits at h
      rw [if_neg (by rcases em with e | e <;> (rw [e]; decide +kernel)), if_neg (by rcases em with e | e <;> (rw [e]; decide +kernel)), if_neg (by rcases em with e | e <;> (rw [e]; decide +kernel)), if_pos em] at h
      cases d with
      | tuple _ => rfl
      | _ => cases h
    · have := pf_word h ⟨em, sb, st⟩
      cases d with
      | str _ => rfl
      | _ => cases this
theorem pf_noL {E : Env0} {ch : Nat} {d : PyData} (h : partFits E ⟨#[ch]⟩ d = true) (n : ch ≠ 116) (hl : isList d = false) : noL d = true := by
  have n2 : ch ≠ 98 := fun e => by
    rw [pf_isList h n, decide_eq_true e] at hl
    cases hl
  have sb : ¬ (⟨#[ch]⟩ : Str) = "b" := fun z => n2 (by
    have z : (⟨#[ch]⟩ : Str) = ⟨#[98]⟩ := z
    simpa using z)
  have st : ¬ (⟨#[ch]⟩ : Str) = "t" := fun z => n (by
    have z : (⟨#[ch]⟩ : Str) = ⟨#[116]⟩ := z
    simpa using z)
  by_cases em : (⟨#[ch]⟩ : Str) = "m" ∨ (⟨#[ch]⟩ : Str) = "v"
  · unfold partFits at h
    rw [if_neg (by rcases em with e | e <;> (rw [e]; decide +kernel)), if_neg (by rcases em with e | e <;> (rw [e]; decide +kernel)), if_neg (by rcases em with e | e <;> (rw [e]; decide +kernel)), if_pos em] at h
    exact noL_words h
  · exact noL_word (pf_word h ⟨em, sb, st⟩)
theorem zip_end {α : Type} (f : Nat → Bool) (g : α → Bool) : ∀ (l : List Nat) (ps : List α), l.length = ps.length → (∀ (i c : Nat) (d : α), l[i]? = some c → ps[i]? = some d → g d = f c) → l = l.filter (fun c => !f c) ++ l.filter f → ps = ps.filter (fun d => !g d) ++ ps.filter g
  | [], [], _, _, _ => rfl
  | c :: l, d :: ps, hl, h, e => by
    have h0 := h 0 c d rfl rfl
    have hr : ∀ (i c' : Nat) (d' : α), l[i]? = some c' → ps[i]? = some d' → g d' = f c' := fun i c' d' h1 h2 => h (i + 1) c' d' h1 h2
    cases q : f c with
    | false =>
      have e' : l = l.filter (fun c => !f c) ++ l.filter f := by
        rw [List.filter_cons_of_pos (by rw [q]; rfl), List.filter_cons_of_neg (by rw [q]; exact Bool.false_ne_true), List.cons_append] at e
        exact (List.cons.inj e).2
      have ih := zip_end f g l ps (Nat.succ.inj hl) hr e'
      rw [List.filter_cons_of_pos (by rw [h0, q]; rfl), List.filter_cons_of_neg (by rw [h0, q]; exact Bool.false_ne_true), List.cons_append]
      exact congrArg (d :: ·) ih
    | true =>
      have all : ∀ c' ∈ l, f c' = true := by
        intro c' hc'
        cases q' : f c' with
        | true => rfl
        | false =>
          exfalso
          rw [List.filter_cons_of_neg (by rw [q]; exact Bool.false_ne_true), List.filter_cons_of_pos q] at e
          cases hn : l.filter (fun c => !f c) with
          | nil =>
            have := List.filter_eq_nil_iff.mp hn c' hc'
            rw [q'] at this
            exact this rfl
          | cons z r =>
            rw [hn, List.cons_append] at e
            have ez := (List.cons.inj e).1
            have hz : z ∈ l.filter (fun c => !f c) := by rw [hn]; exact List.mem_cons_self
            have := (List.mem_filter.mp hz).2
            rw [← ez, q] at this
            cases this
      have e' : l = l.filter (fun c => !f c) ++ l.filter f := by
        rw [List.filter_eq_self.mpr all, List.filter_eq_nil_iff.mpr fun c' hc' => by rw [all c' hc']; exact Bool.false_ne_true]
        rfl
      have ih := zip_end f g l ps (Nat.succ.inj hl) hr e'
      have gall : ∀ d' ∈ ps, g d' = true := by
        intro d' hd'
        obtain ⟨i, hi⟩ := List.getElem?_of_mem hd'
        have hi' := (List.getElem?_eq_some_iff.mp hi).1
        have hl' : l.length = ps.length := Nat.succ.inj hl
        have h1 : l[i]? = some (l[i]'(by omega)) := List.getElem?_eq_getElem _
        rw [hr i _ d' h1 hi]
        exact all _ (List.mem_of_getElem? h1)
      rw [List.filter_cons_of_neg (by rw [h0, q]; exact Bool.false_ne_true), List.filter_cons_of_pos (by rw [h0, q])]
      rw [List.filter_eq_self.mpr gall, List.filter_eq_nil_iff.mpr fun d' hd' => by rw [gall d' hd']; exact Bool.false_ne_true]
      rfl
theorem rowOk_of {rec : Bool → List PyData → List Int → Chk → Out} {R : List PyData → Prop} {E : Env0} {depth : Int} (hrec : depth < 5 → ∀ lp ds pre c c', rec lp ds pre c = .ok c' → R ds) {lp : Bool} {pre : List Int} {d : PyData} {i : Nat} {c c' : Chk} (h : chkRow rec E depth lp pre d i c = .ok c') : rowOk R d := by
  unfold chkRow at h
  split at h
  · rename_i kind parts
    split at h
    · rename_i hf
      obtain ⟨hs, ⟨hl, hF⟩, _⟩ := fits_shape hf
      have hsl := shapes_len hs
      refine ⟨by rw [← hl]; exact hsl, fun e => ?_, fun e => ?_, fun d hd => ⟨inner_lists_all hf d hd, ?_⟩⟩
      · subst e
        have hl1 : parts.length = 1 := hl.symm.trans (by decide +kernel)
        match parts, hl1, hF with
        | [d], _, hF =>
          have hf : isBranches d = true := hF 0 116 d (by decide +kernel) rfl
          cases d with
          | tuple ds =>
            refine ⟨ds, rfl, fun z => ?_⟩
            subst z
            cases hf
          | _ => cases hf
      · obtain ⟨h1, h2⟩ := shapes_end hs e
        refine And.intro (b := ∀ d ∈ parts, isList d = false → noL d = true) ?_ fun d hd hl' => ?_
        rotate_left
        · obtain ⟨i, hi⟩ := List.getElem?_of_mem hd
          have hi' := (List.getElem?_eq_some_iff.mp hi).1
          have h3 : (shapeOf kind).cps[i]? = some ((shapeOf kind).cps[i]'(by omega)) := Array.getElem?_eq_getElem _
          refine pf_noL (hF i _ d h3 hi) (fun z => h2 ?_) hl'
          rw [← z]
          exact List.mem_of_getElem? (i := i) (by rw [Array.getElem?_toList]; exact h3)
        refine zip_end (fun c => decide (c = 98)) isList (shapeOf kind).cps.toList parts (by rw [Array.length_toList]; exact hl) (fun i ch d h3 h4 => ?_) (of_decide_eq_true h1)
        refine pf_isList (hF i ch d (by rw [← Array.getElem?_toList]; exact h3) h4) fun z => h2 ?_
        rw [← z]
        exact List.mem_of_getElem? h3
      · have hdep : depth < 5 := Decidable.byContradiction fun z => by
          rw [inner_deep hf (by omega)] at hd
          cases hd
        have key : ∀ (l : List PyData) (j : Nat) (c : Chk), chkIn (rec (inside lp kind)) (pre ++ [(i : Int)]) l j c = .ok c' → ∀ d ∈ l, R (listOf d) := by
          intro l
          induction l with
          | nil => intro j c _ d hd; cases hd
          | cons x r ih =>
            intro j c h d hd
            rw [chkIn_cons] at h
            cases q : rec (inside lp kind) (listOf x) (pre ++ [(i : Int)] ++ [(j : Int)]) c with
            | error p => rw [q] at h; cases h
            | ok c1 =>
              rw [q] at h
              rcases List.mem_cons.mp hd with rfl | hd
              · exact hrec hdep _ _ _ _ _ q
              · exact ih _ _ h d hd
        exact key _ _ _ h d hd
    · cases h
  · cases h
theorem rowsOk_of (E : Env0) : ∀ (n : Nat) (lp : Bool) (ds : List PyData) (pre : List Int) (c c' : Chk), chkL E n lp ds pre c = .ok c' → 1 ≤ n → rowsOk n ds
  | 0, _, _, _, _, _, _, h => absurd h (by omega)
  | n + 1, lp, ds, pre, c, c', h, _ => by
    have key : ∀ (l : List PyData) (j : Nat) (c : Chk), chkRows (chkRow (chkL E n) E (5 - (n : Int)) lp pre) l j c = .ok c' → ∀ d ∈ l, rowOk (rowsOk n) d := by
      intro l
      induction l with
      | nil => intro j c _ d hd; cases hd
      | cons x r ih =>
        intro j c h d hd
        rw [chkRows_cons] at h
        cases q : chkRow (chkL E n) E (5 - (n : Int)) lp pre x j c with
        | error p => rw [q] at h; cases h
        | ok c1 =>
          rw [q] at h
          rcases List.mem_cons.mp hd with rfl | hd
          · exact rowOk_of (fun hdep lp ds pre c c' h => rowsOk_of E n lp ds pre c c' h (by omega)) q
          · exact ih _ _ h d hd
    exact key ds 0 c h
end Op
namespace L2
open PySem PySem.Spec PyProof.Rows
/-! ### a heap without some of its lists -/
def LstAt (H : Hp) (b : Addr) : Prop := ∃ xs, H b = some (.lst xs)
open Classical in
noncomputable def cutH (S : Addr → Prop) (H : Hp) : Hp := fun b => if S b then none else H b
section
variable {S S' : Addr → Prop} {H H' : Hp} {K : PySem.W.Frag}
theorem cut_not {b : Addr} (h : ¬ S b) : cutH S H b = H b := if_neg h
theorem cut_same (s : Same H H') : Same (cutH S H) (cutH S H') := fun b o h => by
  unfold cutH at h ⊢
  split at h
  · cases h
  · rename_i n
    rw [if_neg n]
    exact s b o h
theorem cut_sub (s : ∀ b, S b → S' b) : Same (cutH S' H) (cutH S H) := fun b o h => by
  unfold cutH at h ⊢
  split at h
  · cases h
  · rename_i n
    rw [if_neg fun z => n (s b z)]
    exact h
theorem cut_all : Same (cutH S H) H := fun b o h => by
  unfold cutH at h
  split at h
  · cases h
  · exact h
theorem cut_upd {D : Addr} {o : HO} (h : S D) : cutH S (upd H D o) = cutH S H := by
  funext b
  unfold cutH
  by_cases e : S b
  · rw [if_pos e, if_pos e]
  · rw [if_neg e, if_neg e, upd_ne (fun q => e (by rw [q]; exact h))]
theorem LstAt.mono {b : Addr} (h : LstAt H b) (s : Same H H') : LstAt H' b := let ⟨xs, e⟩ := h; ⟨xs, s _ _ e⟩
theorem SqT.cut {a : Addr} {xs : List V} (hs : ∀ b, S b → LstAt H b) (h : SqT K H a xs) : SqT K (cutH S H) a xs := by
  have n : ∀ o, H a = some o → (∀ ys, o ≠ .lst ys) → ¬ S a := fun o e ne z => by
    obtain ⟨ys, q⟩ := hs a z
    rw [e] at q
    exact ne ys (Option.some.inj q)
  rcases h with (h | ⟨o, h⟩) | h
  · exact .inl (.inl (by rw [cut_not (n _ h nofun)]; exact h))
  · exact .inl (.inr ⟨o, by rw [cut_not (n _ h nofun)]; exact h⟩)
  · exact .inr h
mutual
theorem noL_cut (hs : ∀ b, S b → LstAt H b) : ∀ {v : V} {d : PyData}, Dp K H v d → Op.noL d = true → Dp K (cutH S H) v d
  | _, _, .non, _ => .non
  | _, _, .bl b, _ => .bl b
  | _, _, .int i, _ => .int i
  | _, _, .str x, _ => .str x
  | _, _, .lst h a, n => by unfold Op.noL at n; cases n
  | _, _, .tup h a, n => .tup (h.cut hs) (noLs_cut hs a (by unfold Op.noL at n; exact n))
theorem noLs_cut (hs : ∀ b, S b → LstAt H b) : ∀ {vs : List V} {ds : List PyData}, DpAll K H vs ds → Op.noLs ds = true → DpAll K (cutH S H) vs ds
  | _, _, .nil, _ => .nil
  | _, _, .cons h a, n => .cons (noL_cut hs h (by unfold Op.noLs at n; exact (Bool.and_eq_true_iff.mp n).1)) (noLs_cut hs a (by unfold Op.noLs at n; exact (Bool.and_eq_true_iff.mp n).2))
end
end
end L2
namespace Op
open PySem L2 PyProof.Rows
section
variable {P : Program} {w : World} {K : PySem.W.Frag} {mg : Str → Option Value} {base : Heap}
def spWith (K : PySem.W.Frag) : Sp := fun vs H Q _ => ∃ (S : Addr → Prop) (t l : Addr) (ws : List V) (kind : Str) (parts : List PyData), vs = [.ref t, .ref l] ∧ Dp K H (.ref t) (.tuple (.str kind :: parts)) ∧ H l = some (.lst ws) ∧ (∀ b, S b → LstAt H b) ∧ DpAll K (cutH S H) ws (innerL kind parts) ∧ parts.length ≤ 4 ∧ (innerL kind parts).length ≤ 40000 ∧
  (kind = "both" → ∃ ds, parts = [.tuple ds] ∧ ds ≠ []) ∧ (kind ≠ "both" → parts = parts.filter notList ++ parts.filter isList ∧ ∀ d ∈ parts, isList d = false → noL d = true) ∧ ∀ v H', Same H H' → Dp K (cutH S H') v (.tuple (.str kind :: parts)) → Q v H'
theorem sc_with_lists : FnScope ["row", "lists", "parts", "part"] ["row", "lists"] (defScope s_with_lists) := ⟨rfl, rfl, rfl, by decide +kernel, rfl, by decide +kernel, by decide +kernel⟩
theorem ok_with_lists {f : Addr} {fd : FuncData} (F : Fun K "with_lists" "with_lists" s_with_lists f fd) (T : Txt mg) : FnOk P w K mg base CX0 1 f fd ["row", "lists"] (spWith K) := by
  refine F.ok sc_with_lists (fun vs H Q E h => ?_) (fun cdv A outer s H vs Q E hr h => ?_)
  · obtain ⟨S, t, l, ws, kind, parts, rfl, _⟩ := h
    rfl
  · obtain ⟨S, t, l, ws, kind, parts, rfl, hd, hl, hS, hw, hpl, hil, hb, hnb, k⟩ := h
    cases hd with
    | @tup _ xs _ hq ha =>
    cases ha with
    | @cons v0 vr d0 dr h0 hr0 =>
    cases h0 with
    | str kind =>
    have hvl := hr0.len
    have hwl := hw.len
    have nS : ∀ b, H b = none → ¬ S b := fun b hb z => by
      obtain ⟨ys, q⟩ := hS b z
      rw [hb] at q
      cases q
    refine ⟨_, (pss_cons (ps_if (pt_cmpR op_eq (pe_ix ix_tup (pv 0) pe_int (fun _ _ => rfl)) pe_str (nomark _)) (pss_one (ps_ret (pe_tup (pa_cons pe_str (pa_cons (pe_callTy call_tuple_of (by rfl) T.b_tuple (by decide +kernel) (pa_cons (pv 1) pa_nil)) pa_nil))))) pss_nil)
      (pss_cons (ps_setLc (i := 2) (own := [("part", 3)]) (g := gName 3)  rfl sc_with_lists.nd rfl rfl (sw_true rfl rfl rfl (by decide +kernel)) (pi_tup (pv 0)) (blkOk_by (own := [("part", 3)]) (N := ["row", "lists", "parts", "part"]) (sc := defScope s_with_lists) (by decide +kernel)) (fun _ _ _ _ _ => (pg_name (i := 3) sc_with_lists.nd rfl (.inl rfl))) (fun _ _ _ _ _ => (pts_one (pt_not (pt_val (pe_callB (id := "isinstance") (r := rIsi K) call_isi (by rfl) T.b_isinstance (by decide +kernel) (pa_cons (pv 3) (pa_cons (pe_bltn (v := .ty "list") (by rfl) T.b_list (by decide +kernel) rfl) pa_nil))))))) (fun _ _ _ _ _ => (pv 3)))
      (pss_one (ps_ret (pe_callTy call_tuple_of (by rfl) T.b_tuple (by decide +kernel) (pa_cons (pe_op op_cat (pv 2) (pv 1)) pa_nil)))))), ?_⟩
    refine ⟨_, rfl, t, _, 0, _, rfl, rfl, hq, atI_zero _ _, rfl, _, rfl, ?_⟩
    rw [dec_strV]
    by_cases e1 : kind = "both"
    · obtain ⟨ds, rfl, _⟩ := hb e1
      refine ifT (decide_eq_true e1) ?_
      have hin : innerL kind [.tuple ds] = ds := by unfold innerL; rw [if_pos e1]
      rw [hin] at hw
      refine ⟨_, rfl, l, ws, rfl, .inl ⟨.inl (.inl hl), fun p hp => ⟨sz2 _ _, fun q hq' => ?_⟩⟩⟩
      have s1 : Same H (upd H p (.tup ws)) := Same.new hp
      have s2 : Same (upd H p (.tup ws)) (upd (upd H p (.tup ws)) q (.tup [.str "both", .ref p])) := Same.new hq'
      have nq : ¬ S q := nS q (s1.free hq')
      refine k (.ref q) _ (s1.trans s2) (.tup (.inl (.inl (by rw [cut_not nq]; exact upd_same))) ?_)
      rw [e1]
      exact .cons (.str _) (.cons (.tup (.inl (.inl (by rw [cut_not (nS p hp)]; exact s2 _ _ upd_same))) (DpAll.mono (cut_same (s1.trans s2)) hw)) .nil)
    · refine ifF (decide_eq_false e1) ⟨_, rfl, t, rfl, ⟨_, hq⟩, fun D hD => ?_⟩
      have hDl : D ≠ l := fun e => by rw [e, hl] at hD; cases hD
      have hin : innerL kind parts = parts.filter isList := by unfold innerL; rw [if_neg e1]
      refine lc_it (walk_tup (xs := .str kind :: vr)) (fun i H' => ∃ acc, H' D = some (.lst acc) ∧ acc.length ≤ i ∧ DpAll K H acc (((.str kind :: parts).take i).filter notList) ∧ Same H H') ⟨[], upd_same, Nat.le_refl _, .nil, Same.new hD⟩ (fun i H' _ p => hq.mono (let ⟨_, _, _, _, s⟩ := p; s)) ?_ ?_
      · rintro i x H1 H2 hi ⟨acc, hacc, hal, hdp, sm⟩ ⟨rfl, hx⟩
        obtain ⟨d, hd1, hd2⟩ := DpAll.get (.cons (.str kind) hr0) hx
        refine ⟨rfl, _, rfl, x, _, _, _, _, rfl, .ty _, ty_dp (hd2.mono sm), kit_list d, _, rfl, ?_⟩
        have hi' : i < 2000 := by rw [List.length_cons] at hi; omega
        have e2 : ((.str kind :: parts).take (i + 1)).filter notList = ((.str kind :: parts).take i).filter notList ++ [d].filter notList := by
          rw [TS.take_one hd1, List.filter_append]
        by_cases q : isList d = true
        · rw [q]
          have q' : ¬ notList d = true := by unfold notList; rw [q]; exact Bool.false_ne_true
          refine ifF rfl ⟨acc, hacc, by omega, ?_, sm⟩
          rw [e2, List.filter_cons_of_neg q', List.filter_nil, List.append_nil]
          exact hdp
        · rw [Bool.eq_false_iff.mpr q]
          have q' : notList d = true := by unfold notList; rw [Bool.eq_false_iff.mpr q]; rfl
          refine ifT rfl ⟨_, rfl, acc, hacc, lt_sz (by omega), acc ++ [x], upd_same, by rw [List.length_append]; show acc.length + 1 ≤ _; omega, ?_, fun b o hb => ?_⟩
          · rw [e2, List.filter_cons_of_pos q', List.filter_nil]
            exact hdp.append (.cons hd2 .nil)
          · rw [upd_ne (ne_of_none hb hD)]
            exact sm b o hb
      · rintro H1 ⟨acc, hacc, hal, hdp, sm⟩
        rw [List.take_of_length_le (by rw [List.length_cons, List.length_cons]; omega)] at hdp
        rw [List.length_cons] at hal
        refine ⟨_, rfl, _, rfl, D, l, acc, ws, rfl, rfl, hacc, sm _ _ hl, sz_lit (by omega), fun p hp => ?_⟩
        refine ⟨p, _, rfl, .inl ⟨.inl (.inl upd_same), fun q hq' => ?_⟩⟩
        have s1 : Same H1 (upd H1 p (.lst (acc ++ ws))) := Same.new hp
        have s2 : Same (upd H1 p (.lst (acc ++ ws))) (upd (upd H1 p (.lst (acc ++ ws))) q (.tup (acc ++ ws))) := Same.new hq'
        have nq : ¬ S q := nS q ((sm.trans s1).free hq')
        refine k (.ref q) _ (sm.trans (s1.trans s2)) (.tup (.inl (.inl (by rw [cut_not nq]; exact upd_same))) ?_)
        have hcat : DpAll K (cutH S H) (acc ++ ws) (.str kind :: parts) := by
          have h1 : DpAll K (cutH S H) acc ((.str kind :: parts).filter notList) := noLs_cut hS hdp (noLs_mem.mpr fun d hd => by
            obtain ⟨m1, m2⟩ := List.mem_filter.mp hd
            rcases List.mem_cons.mp m1 with rfl | m1
            · unfold noL; rfl
            · exact (hnb e1).2 d m1 (by unfold notList at m2; cases q : isList d with | false => rfl | true => rw [q] at m2; cases m2))
          have := h1.append hw
          rw [hin, List.filter_cons_of_pos (by rfl : notList (.str kind) = true), List.cons_append, ← (hnb e1).1] at this
          exact this
        exact DpAll.mono (cut_same (sm.trans (s1.trans s2))) hcat
/-! ### copies -/
theorem wIn_mem {d : PyData} : ∀ {l : List PyData}, d ∈ l → wts (listOf d) ≤ wIn l
  | x :: r, h => by
    show _ ≤ wts (listOf x) + wIn r
    rcases List.mem_cons.mp h with rfl | h
    · omega
    · have := wIn_mem h
      omega
theorem inner_len (kind : Str) (parts : List PyData) : (innerL kind parts).length ≤ wts parts := by
  unfold innerL
  split
  · cases parts with
    | nil => exact Nat.zero_le _
    | cons d r =>
      rw [wts_cons]
      cases d with
      | tuple ds =>
        have := wts_len ds
        rw [wt_tuple]
        show ds.length ≤ _
        omega
      | _ => exact Nat.zero_le _
  · have h1 := List.length_filter_le isList parts
    have h2 := wts_len parts
    omega
def spCRow (K : PySem.W.Frag) (n : Nat) : Sp := fun vs H Q _ => ∃ (v : V) (d : PyData), vs = [v] ∧ Dp K H v d ∧ rowOk (rowsOk n) d ∧ wt d ≤ 30000 ∧ ∀ v' H', Same H H' → Dp K (cutH (LstAt H) H') v' d → Q v' H'
def spCRows (K : PySem.W.Frag) (n : Nat) : Sp := fun vs H Q _ => ∃ (v : V) (ds : List PyData), vs = [v] ∧ Dp K H v (.list ds) ∧ rowsOk n ds ∧ wts ds ≤ 30000 ∧ ∀ p xs H', Same H H' → H p = none → H' p = some (.lst xs) → DpAll K (cutH (fun b => LstAt H b ∨ b = p) H') xs ds → Q (.ref p) H'
theorem sc_copy_rows : FnScope ["rows", "row"] ["rows"] (defScope s_copy_rows) := ⟨rfl, rfl, rfl, by decide +kernel, rfl, by decide +kernel, by decide +kernel⟩
theorem ok_copy_rows {f : Addr} {fd : FuncData} {k : Nat} {n : Nat} (F : Fun K "copy_rows" "copy_rows" s_copy_rows f fd) (T : Txt mg) (c_copy_row : Cal P w K mg base CX0 (k + 1) "copy_row" ["row"] (spCRow K n)) : FnOk P w K mg base CX0 (k + 2) f fd ["rows"] (spCRows K (n + 1)) := by
  refine F.ok sc_copy_rows (fun vs H Q E h => ?_) (fun cdv A outer s H vs Q E hr h => ?_)
  · obtain ⟨v, ds, rfl, _⟩ := h
    rfl
  · obtain ⟨v, ds, rfl, hd, hok, hwt, kk⟩ := h
    cases hd with
    | @lst r xs _ hq ha =>
    have hxl := ha.len
    have hwl := wts_len ds
    refine ⟨_, (pss_one (ps_ret (pe_lc (own := [("row", 1)]) (g := gName 1) (tt := tYes) rfl sc_copy_rows.nd (pi_list (pv 0)) (blkOk_by (own := [("row", 1)]) (N := ["rows", "row"]) (sc := defScope s_copy_rows) (by decide +kernel)) (fun _ _ _ _ _ => (pg_name (i := 1) sc_copy_rows.nd rfl (.inl rfl))) (fun _ _ _ _ _ => pts_nil) (fun _ _ _ _ _ => (pe_cal c_copy_row (hr.mono (by omega)) rfl pass0 (pa_cons (pv 1) pa_nil)))))), ?_⟩
    refine ⟨_, rfl, r, rfl, ⟨_, hq⟩, fun D hD => ?_⟩
    refine lc_it (walk_list (xs := xs)) (fun i H' => ∃ acc, H' D = some (.lst acc) ∧ acc.length ≤ i ∧ DpAll K (cutH (fun b => LstAt H b ∨ b = D) H') acc (ds.take i) ∧ Same H H') ⟨[], upd_same, Nat.le_refl _, .nil, Same.new hD⟩ (fun i H' _ p => hq.mono (let ⟨_, _, _, _, s⟩ := p; s)) ?_ ?_
    · rintro i x H0' H1 hi ⟨acc, hacc, hal, hdp, sm⟩ ⟨rfl, hx⟩
      obtain ⟨d, hd1, hd2⟩ := ha.get hx
      have hm := List.mem_of_getElem? hd1
      have hwd := wts_mem hm
      refine ⟨rfl, ?_⟩
      refine ⟨_, rfl, x, d, rfl, hd2.mono sm, hok d hm, by omega, fun v' H2 s2 hv' => ?_⟩
      have sub : ∀ b, LstAt H b ∨ b = D → LstAt H1 b := fun b hb => by
        rcases hb with hb | rfl
        · exact hb.mono sm
        · exact ⟨acc, hacc⟩
      refine ⟨acc, s2 _ _ hacc, lt_sz (by omega), acc ++ [v'], upd_same, by rw [List.length_append]; show acc.length + 1 ≤ _; omega, ?_, fun b o hb => ?_⟩
      · rw [cut_upd (.inr rfl), TS.take_one hd1]
        exact (DpAll.mono (cut_same s2) hdp).append (.cons (hv'.mono (cut_sub sub)) .nil)
      · rw [upd_ne (ne_of_none hb hD)]
        exact s2 b o (sm b o hb)
    · rintro H1 ⟨acc, hacc, _, hdp, sm⟩
      rw [List.take_of_length_le (by omega)] at hdp
      exact kk D acc H1 sm hD hacc hdp
theorem sc_copy_row : FnScope ["row", "lists", "rows"] ["row"] (defScope s_copy_row) := ⟨rfl, rfl, rfl, by decide +kernel, rfl, by decide +kernel, by decide +kernel⟩
theorem ok_copy_row {f : Addr} {fd : FuncData} {k : Nat} {n : Nat} (F : Fun K "copy_row" "copy_row" s_copy_row f fd) (T : Txt mg) (c_inner_lists : Cal P w K mg base CX0 1 "inner_lists" ["row"] (spInner K)) (c_with_lists : Cal P w K mg base CX0 1 "with_lists" ["row", "lists"] (spWith K)) (c_copy_rows : Cal P w K mg base CX0 (k + 1) "copy_rows" ["rows"] (spCRows K n)) : FnOk P w K mg base CX0 (k + 2) f fd ["row"] (spCRow K n) := by
  refine F.ok sc_copy_row (fun vs H Q E h => ?_) (fun cdv A outer s H vs Q E hr h => ?_)
  · obtain ⟨v, d, rfl, _⟩ := h
    rfl
  · obtain ⟨v, d, rfl, hd, hok, hwt, kk⟩ := h
    obtain ⟨kind, parts, rfl⟩ : ∃ kind parts, d = .tuple (.str kind :: parts) := by
      unfold rowOk at hok
      split at hok
      · exact ⟨_, _, rfl⟩
      · exact hok.elim
    obtain ⟨hpl, hb, hnb, hin⟩ := hok
    have hwi := wIn_inner kind parts
    rw [wt_tuple, wts_cons] at hwt
    obtain ⟨t, rfl⟩ : ∃ t, v = .ref t := by cases hd with | tup _ _ => exact ⟨_, rfl⟩
    refine ⟨_, (pss_cons (ps_set (i := 1) sc_copy_row.nd rfl (.inl rfl) (pe_cal c_inner_lists (hr.mono (by omega)) rfl pass0 (pa_cons (pv 0) pa_nil)))
      (pss_cons (ps_if (pt_cmpR op_eq (pe_callB call_len_seq (by rfl) T.b_len (by decide +kernel) (pa_cons (pv 1) pa_nil)) pe_int (nomark _)) (pss_one (ps_ret (pv 0))) pss_nil)
      (pss_one (ps_ret (pe_cal c_with_lists (hr.mono (by omega)) rfl pass0 (pa_cons (pv 0) (pa_cons (pe_lc (own := [("rows", 2)]) (g := gName 2) (tt := tYes) rfl sc_copy_row.nd (pi_list (pv 1)) (blkOk_by (own := [("rows", 2)]) (N := ["row", "lists", "rows"]) (sc := defScope s_copy_row) (by decide +kernel)) (fun _ _ _ _ _ => (pg_name (i := 2) sc_copy_row.nd rfl (.inl rfl))) (fun _ _ _ _ _ => pts_nil) (fun _ _ _ _ _ => (pe_cal c_copy_rows (hr.mono (by omega)) rfl pass0 (pa_cons (pv 2) pa_nil)))) pa_nil))))))), ?_⟩
    refine ⟨_, rfl, t, kind, parts, rfl, hd, by omega, fun e => ?_, fun p xs H1 s1 hp hp1 hdp => ?_⟩
    · obtain ⟨ds, e', _⟩ := hb e
      exact ⟨ds, [], e'⟩
    have hxl := hdp.len
    refine ⟨_, rfl, p, xs, rfl, .inl (.inl (.inl hp1)), rfl, _, rfl, ?_⟩
    by_cases e0 : xs.length = 0
    · rw [e0]
      refine ifT rfl ⟨_, rfl, ?_⟩
      have hi0 : innerL kind parts = [] := List.length_eq_zero_iff.mp (by omega)
      have nL : noL (.tuple (.str kind :: parts)) = true := by
        unfold noL
        refine noLs_mem.mpr fun d hd' => ?_
        rcases List.mem_cons.mp hd' with rfl | hd'
        · unfold noL; rfl
        · by_cases e : kind = "both"
          · obtain ⟨ds, rfl, hne⟩ := hb e
            unfold innerL at hi0
            rw [if_pos e] at hi0
            exact absurd hi0 hne
          · refine (hnb e).2 d hd' ?_
            unfold innerL at hi0
            rw [if_neg e] at hi0
            exact Bool.eq_false_iff.mpr (List.filter_eq_nil_iff.mp hi0 d hd')
      exact kk (.ref t) H1 s1 ((noL_cut (S := LstAt H) (fun b h => h) hd nL).mono (cut_same s1))
    · refine ifF (decide_eq_false (by intro z; injection z with z; omega)) ?_
      have hil := inner_len kind parts
      refine ⟨_, rfl, _, rfl, p, rfl, ⟨_, .inl (.inl hp1)⟩, fun D hD => ?_⟩
      refine lc_it (walk_list (xs := xs)) (fun i H' => ∃ acc, H' D = some (.lst acc) ∧ acc.length ≤ i ∧ DpAll K (cutH (fun b => LstAt H b ∨ b = D) H') acc ((innerL kind parts).take i) ∧ Same H1 H') ⟨[], upd_same, Nat.le_refl _, .nil, Same.new hD⟩ (fun i H' _ q => .inl (.inl ((let ⟨_, _, _, _, s⟩ := q; s) _ _ hp1))) ?_ ?_
      · rintro i x H0' H2 hi ⟨acc, hacc, hal, hdpa, sm⟩ ⟨rfl, hx⟩
        obtain ⟨d, hd1, hd2⟩ := hdp.get hx
        have hm := List.mem_of_getElem? hd1
        obtain ⟨hisl, hrok⟩ := hin d hm
        obtain ⟨dl, rfl⟩ : ∃ dl, d = .list dl := by
          cases d with
          | list dl => exact ⟨dl, rfl⟩
          | _ => cases hisl
        have hwl : wts dl ≤ wIn (innerL kind parts) := wIn_mem hm
        refine ⟨rfl, ?_⟩
        refine ⟨_, rfl, x, dl, rfl, hd2.mono (s1.trans sm), hrok, by omega, fun p2 xs2 H3 s3 hp2 hx2 hdp2 => ?_⟩
        have sub : ∀ b, LstAt H b ∨ b = D → LstAt H2 b ∨ b = p2 := fun b hb => by
          rcases hb with hb | rfl
          · exact .inl (hb.mono (s1.trans sm))
          · exact .inl ⟨acc, hacc⟩
        have np2 : ¬ (LstAt H p2 ∨ p2 = D) := fun z => by
          rcases z with z | rfl
          · obtain ⟨ys, q⟩ := z.mono (s1.trans sm)
            rw [hp2] at q
            cases q
          · rw [hacc] at hp2
            cases hp2
        refine ⟨acc, s3 _ _ hacc, lt_sz (by omega), acc ++ [.ref p2], upd_same, by rw [List.length_append]; show acc.length + 1 ≤ _; omega, ?_, fun b o hb => ?_⟩
        · rw [cut_upd (.inr rfl), TS.take_one hd1]
          refine (DpAll.mono (cut_same s3) hdpa).append (.cons (.lst (.inl (.inl (by rw [cut_not np2]; exact hx2))) (DpAll.mono (cut_sub sub) hdp2)) .nil)
        · rw [upd_ne (ne_of_none hb hD)]
          exact s3 b o (sm b o hb)
      · rintro H2 ⟨acc, hacc, _, hdpa, sm⟩
        rw [List.take_of_length_le (by omega)] at hdpa
        exact ⟨LstAt H, t, D, acc, kind, parts, rfl, hd.mono (s1.trans sm), hacc, fun b hb => hb.mono (s1.trans sm), DpAll.mono (cut_sub fun b hb => .inl hb) hdpa, hpl, by omega, hb, hnb, fun v' H' s' hv' => kk v' H' ((s1.trans sm).trans s') hv'⟩
/-- copy_rows and copy_row, by depth -/
theorem ok_copies {f1 f2 : Addr} {fd1 fd2 : FuncData} (F1 : Fun K "copy_rows" "copy_rows" s_copy_rows f1 fd1) (F2 : Fun K "copy_row" "copy_row" s_copy_row f2 fd2) (T : Txt mg) (g1 : mg "copy_rows" = some (.ref f1)) (g2 : mg "copy_row" = some (.ref f2)) (k1 : PySem.W.keepIn K (.ref f1) = true) (k2 : PySem.W.keepIn K (.ref f2) = true)
    (b1 : Binds K fd1 ["rows"] []) (b2 : Binds K fd2 ["row"] []) (c_inner_lists : Cal P w K mg base CX0 1 "inner_lists" ["row"] (spInner K)) (c_with_lists : Cal P w K mg base CX0 1 "with_lists" ["row", "lists"] (spWith K)) : ∀ n : Nat, Cal P w K mg base CX0 (2 * n + 1) "copy_rows" ["rows"] (spCRows K n)
  | 0 => ⟨f1, fd1, g1, k1, b1, F1.ok sc_copy_rows (fun vs H Q E h => by obtain ⟨v, ds, rfl, _⟩ := h; rfl) (fun cdv A outer s H vs Q E hr h => by obtain ⟨v, ds, _, _, hk, _⟩ := h; exact hk.elim)⟩
  | n + 1 => ⟨f1, fd1, g1, k1, b1, ok_copy_rows (k := 2 * n + 1) F1 T ⟨f2, fd2, g2, k2, b2, ok_copy_row (k := 2 * n) F2 T c_inner_lists c_with_lists (ok_copies F1 F2 T g1 g2 k1 k2 b1 b2 c_inner_lists c_with_lists n)⟩⟩
end
end Op
namespace L2
open PySem PySem.Spec PyProof.Rows
/-! ### a class by its name, with the promise of its __init__ -/
def Kcal (P : Program) (w : World) (K : PySem.W.Frag) (mg : Str → Option Value) (base : Heap) (CX : CXT) (k : Nat) (x : Str) (C : Addr) (ps : List Str) (sp : Sp) : Prop :=
  ∃ (f : Addr) (fd : FuncData), Mk K C f ∧ mg x = some (.ref C) ∧ Binds K fd ps [] ∧ FnOk P w K mg base CX k f fd ps sp
theorem pe_kcal {X : Cx} {CX : CXT} {k : Nat} {x : Str} {C : Addr} {ps : List Str} {sp : Sp} {E : XK} {p pos : Pos} {e : Expr} {es : List Expr} {t : TA} (c : Kcal X.prog X.w X.K X.mg X.base CX k x C ps sp) (hr : Room (k + 1) X.A) (hg : Gl X x) (hx : Passes CX X E) (ha : PA X (e :: es) t)
    (hdb : (x == ("__debug__" : Str)) = false := by decide) (he : starEach (e :: es) X.env = (false, eval e X.env) :: starEach es X.env := by rfl) (hpl : (backTo pos (starEach es X.env)).any (·.1) = false := by rfl) :
    PE X (.Call (.Name x p) (e :: es) [] pos) (tMake C sp [] E t) := by
  obtain ⟨f, fd, h1, h2, h3, h4⟩ := c
  exact pe_make h1 h4 hr hg h2 h3 .nil hx ha hdb he hpl
end L2
namespace Op
open PySem L2 PyProof.Rows
/-! ### the mirror: a program's parts -/
def progCheck (we : Bool) (asks sigs : ArgD) (ins rows : PyData) : Except (Str × List Int) Chk :=
  match okTab (areWords 4) 6 asks with
  | none => .error ("asks", [])
  | some ka => match okTab isBox 3 sigs with
    | none => .error ("signals", [])
    | some ks => if areWords 3 ins = true then checkAll ⟨ka.map (·.1), ks.map (·.1), we⟩ rows else .error ("inputs", [])
section
variable {K : PySem.W.Frag} {H H' : Hp}
theorem KvsR.has (x : Str) : ∀ {vs : List (Key × V)} {kvs : List (Str × PyData)}, KvsR K H vs kvs → (valV vs (.inr x)).isSome = decide (x ∈ kvs.map (·.1))
  | [], [], _ => rfl
  | (k, v) :: r, (y, d) :: t, ⟨h1, h2, h3⟩ => by
    rw [h1, List.map_cons]
    by_cases e : y = x
    · rw [valV_pos (by rw [e])]
      simp [e]
    · rw [valV_neg (fun q => e (Sum.inr.inj q)), KvsR.has x h3]
      simp [Ne.symm e]
theorem KvsR.known {p : Addr} {ws : List (Key × V)} {kvs kvs' : List (Str × PyData)} (h : H p = some (.dK ws)) (r : KvsR K H' ws kvs') (pm : kvs'.Perm kvs) : Known H p (kvs.map (·.1)) := ⟨ws, h, fun x => by
  rw [r.has x]
  rw [Bool.eq_iff_iff, decide_eq_true_iff, decide_eq_true_iff]
  exact (pm.map (·.1)).mem_iff⟩
end
theorem KvsR.mono {K : PySem.W.Frag} {H H' : Hp} {vs : List (Key × V)} {kvs : List (Str × PyData)} (h : KvsR K H vs kvs) (s : Kp H H') : KvsR K H' vs kvs := KvsR.kp s h
/-- all but x stay -/
def But (x : Addr) (H H' : Hp) : Prop := ∀ b o, H b = some o → b ≠ x → H' b = some o
theorem checkAll_ok {E : Env0} {d : PyData} {c : Chk} (h : checkAll E d = .ok c) : ∃ ds, d = .list ds ∧ chkL E 5 false ds [] chk0 = .ok c ∧ sizes c = none := by
  unfold checkAll at h
  split at h
  · rename_i ds
    refine ⟨ds, rfl, ?_⟩
    split at h
    · cases h
    · rename_i c1 e1
      split at h
      · cases h
      · rename_i e2
        obtain rfl := Except.ok.inj h
        exact ⟨e1, e2⟩
  · cases h
theorem sizes_edits {c : Chk} (h : sizes c = none) : c.edits.length ≤ 4 := by
  unfold sizes at h
  split at h
  · cases h
  · split at h
    · cases h
    · split at h
      · cases h
      · split at h
        · cases h
        · split at h
          · cases h
          · omega
theorem keys_dkT (xs : List Str) : ((dkT xs).map fun kv => kV kv.1) = xs.map V.str := by
  unfold dkT
  rw [List.map_map]
  rfl
section
variable {K : PySem.W.Frag} {H H' H'' : Hp} {x C dx : Addr} {fs : List (Str × V)}
theorem But.kp (b : But x H H') (h : H x = some (.ins C dx fs)) : Kp H H' := fun c o hc ho => b c o hc fun e => by
  rw [e, h] at hc
  cases hc
  cases ho
theorem But.trans (a : But x H H') (b : But x H' H'') : But x H H'' := fun c o h n => b c o (a c o h n) n
theorem Same.but (s : Same H H') : But x H H' := fun c o h _ => s c o h
theorem But.upd {o : HO} (b : But x H H') : But x H (upd H' x o) := fun c u h n => by rw [L2.upd_ne n]; exact b c u h n
theorem ArgV.but {v : V} {a : ArgD} (h : ArgV K H v a) (b : But x H H') (hx : H x = some (.ins C dx fs)) : ArgV K H' v a := by
  cases a with
  | none => exact h
  | other d => exact ⟨h.1.kp (b.kp hx), h.2⟩
  | dict kvs =>
    obtain ⟨p, vs, e, hp, hk, hn⟩ := h
    refine ⟨p, vs, e, b p _ hp fun z => ?_, hk.mono (b.kp hx), hn⟩
    rw [z, hx] at hp
    cases hp
end
structure EdC (K : PySem.W.Frag) (C : Addr) : Prop where
  cls : Cls K C
  n1 : NoAttr K C "ask_table"
  n2 : NoAttr K C "signal_table"
  n3 : NoAttr K C "input_words"
  n4 : NoAttr K C "row_list"
  n5 : NoAttr K C "edit_ids"
section
variable {P : Program} {w : World} {K : PySem.W.Frag} {mg : Str → Option Value} {base : Heap} {pS CI C RC0 : Addr}
def spEdited (K : PySem.W.Frag) (C CI : Addr) (we : Bool) : Sp := fun vs H Q X => ∃ (x dx : Addr) (rv av sv iv : V) (asks sigs : ArgD) (ins rows : PyData), vs = [.ref x, rv, av, sv, iv] ∧ H x = some (.ins C dx []) ∧ ArgV K H av asks ∧ ArgV K H sv sigs ∧ argSmall asks ∧ argSmall sigs ∧ Dp K H iv ins ∧ Dp K H rv rows ∧ small ins = true ∧ wt rows ≤ 30000 ∧
  (∀ c, progCheck we asks sigs ins rows = .ok c → ∀ H', But x H H' → Q .non H') ∧ (∀ part path, progCheck we asks sigs ins rows = .error (part, path) → ∀ H' d, Fr (x :: (argF asks av ++ argF sigs sv)) H H' → XProg K H' d part path → X (.ref CI) (some d) H')
end
end Op
namespace Op
open PySem L2 PyProof.Rows
/-! ### the mirror: the tables of rows and of sizes -/
def putD {α : Type} (t : List (List Int × α)) (p : List Int) (a : α) : List (List Int × α) := if (t.any fun q => decide (q.1 = p)) = true then t.map (fun q => if q.1 = p then (q.1, a) else q) else t ++ [(p, a)]
abbrev Tb := List (List Int × PyData) × List (List Int × Int)
def addIn (rec : List PyData → List Int → Tb → Tb) (pre : List Int) : List PyData → Nat → Tb → Tb
  | [], _, s => s
  | d :: r, j, s => addIn rec pre r (j + 1) (rec (listOf d) (pre ++ [(j : Int)]) s)
def addRow (rec : List PyData → List Int → Tb → Tb) (pre : List Int) (d : PyData) (i : Nat) (s : Tb) : Tb :=
  match d with
  | .tuple (.str kind :: parts) => addIn rec (pre ++ [(i : Int)]) (innerL kind parts) 0 (putD s.1 (pre ++ [(i : Int)]) d, s.2)
  | _ => s
def addRs (row : PyData → Nat → Tb → Tb) : List PyData → Nat → Tb → Tb
  | [], _, s => s
  | d :: r, i, s => addRs row r (i + 1) (row d i s)
def addL : Nat → List PyData → List Int → Tb → Tb
  | 0, _, _, s => s
  | n + 1, ds, pre, s => addRs (addRow (addL n) pre) ds 0 (s.1, putD s.2 pre (ds.length : Int))
theorem putD_len {α : Type} (t : List (List Int × α)) (p : List Int) (a : α) : (putD t p a).length ≤ t.length + 1 := by
  unfold putD
  split
  · rw [List.length_map]; omega
  · rw [List.length_append]; exact Nat.le_refl _
/-! ### sizes -/
def CapT (s : Tb) (m : Nat) : Prop := s.1.length ≤ m ∧ s.2.length ≤ m
theorem CapT.mono {s : Tb} {m n : Nat} (h : CapT s m) (e : m ≤ n) : CapT s n := ⟨by have := h.1; omega, by have := h.2; omega⟩
theorem wIn1 : ∀ ds : List PyData, ds.length + wIn ds ≤ wts ds
  | [] => by rw [wts_nil]; exact Nat.le_refl _
  | d :: r => by
    have := wIn1 r
    have := wts_listOf d
    rw [wts_cons, List.length_cons]
    show _ + (wts (listOf d) + wIn r) ≤ _
    omega
theorem wts_filter (f : PyData → Bool) : ∀ ds : List PyData, wts (ds.filter f) ≤ wts ds
  | [] => Nat.le_refl _
  | d :: r => by
    have := wts_filter f r
    rw [wts_cons]
    by_cases q : f d = true
    · rw [List.filter_cons_of_pos q, wts_cons]; omega
    · rw [List.filter_cons_of_neg q]; omega
theorem wIn_inner1 (kind : Str) (parts : List PyData) : (innerL kind parts).length + wIn (innerL kind parts) ≤ wts parts := by
  unfold innerL
  split
  · cases parts with
    | nil => exact Nat.zero_le _
    | cons d r =>
      rw [wts_cons]
      cases d with
      | tuple ds =>
        have := wIn1 ds
        rw [wt_tuple]
        show ds.length + wIn ds ≤ _
        omega
      | _ => exact Nat.zero_le _
  · have := wIn1 (parts.filter isList)
    have := wts_filter isList parts
    omega
def CapG (f : List PyData → List Int → Tb → Tb) : Prop := ∀ ds pre s m, CapT s m → CapT (f ds pre s) (m + 1 + wts ds)
theorem addIn_cap {f : List PyData → List Int → Tb → Tb} (hf : CapG f) {pre : List Int} : ∀ (l : List PyData) (j : Nat) (s : Tb) (m : Nat), CapT s m → CapT (addIn f pre l j s) (m + (l.length + wIn l))
  | [], j, s, m, k => k
  | d :: r, j, s, m, k => by
    have h1 := hf (listOf d) (pre ++ [(j : Int)]) s m k
    have h2 := addIn_cap hf (pre := pre) r (j + 1) _ _ h1
    refine h2.mono ?_
    show _ ≤ m + (r.length + 1 + (wts (listOf d) + wIn r))
    omega
theorem addRow_cap {f : List PyData → List Int → Tb → Tb} (hf : CapG f) {pre : List Int} {d : PyData} {i : Nat} {s : Tb} {m : Nat} (k : CapT s m) : CapT (addRow f pre d i s) (m + wt d) := by
  unfold addRow
  split
  · rename_i kind parts
    have h1 := putD_len s.1 (pre ++ [(i : Int)]) (.tuple (.str kind :: parts))
    have h2 := addIn_cap hf (pre := pre ++ [(i : Int)]) (innerL kind parts) 0 (putD s.1 (pre ++ [(i : Int)]) (.tuple (.str kind :: parts)), s.2) (m + 1) ⟨by have := k.1; show (putD _ _ _).length ≤ _; omega, by have := k.2; show s.2.length ≤ _; omega⟩
    have h3 := wIn_inner1 kind parts
    refine h2.mono ?_
    rw [wt_tuple, wts_cons]
    omega
  · exact k.mono (by omega)
theorem addRs_cap {row : PyData → Nat → Tb → Tb} (hr : ∀ d i s m, CapT s m → CapT (row d i s) (m + wt d)) : ∀ (l : List PyData) (i : Nat) (s : Tb) (m : Nat), CapT s m → CapT (addRs row l i s) (m + wts l)
  | [], i, s, m, k => k.mono (by omega)
  | d :: r, i, s, m, k => by
    have h2 := addRs_cap hr r (i + 1) _ _ (hr d i s m k)
    exact h2.mono (by rw [wts_cons]; omega)
theorem addL_cap : ∀ n : Nat, CapG (addL n)
  | 0 => fun ds pre s m k => k.mono (by omega)
  | n + 1 => fun ds pre s m k => by
    have h1 := putD_len s.2 pre (ds.length : Int)
    exact addRs_cap (fun d i s m k => addRow_cap (addL_cap n) k) ds 0 (s.1, putD s.2 pre (ds.length : Int)) (m + 1) ⟨by have := k.1; show s.1.length ≤ _; omega, by have := k.2; show (putD _ _ _).length ≤ _; omega⟩
/-! ### the tables in the heap -/
def kI (p : List Int) : List Key := p.map Sum.inl
theorem kI_inj : ∀ {p q : List Int}, kI p = kI q → p = q
  | [], [], _ => rfl
  | [], _ :: _, h => by cases h
  | _ :: _, [], h => by cases h
  | a :: r, b :: t, h => by
    have h : (Sum.inl a : Key) :: kI r = Sum.inl b :: kI t := h
    obtain ⟨h1, h2⟩ := List.cons.inj h
    rw [Sum.inl.inj h1, kI_inj h2]
theorem kI_kV (p : List Int) : (kI p).map kV = p.map V.int := by
  unfold kI
  rw [List.map_map]
  rfl
def TabR (K : PySem.W.Frag) (H : Hp) : List (List Key × V) → List (List Int × PyData) → Prop
  | [], [] => True
  | (k, v) :: r, (p, d) :: t => k = kI p ∧ Dp K H v d ∧ TabR K H r t
  | _, _ => False
section
variable {K : PySem.W.Frag} {H H' : Hp}
theorem TabR.kp (s : Kp H H') : ∀ {kvs : List (List Key × V)} {t : List (List Int × PyData)}, TabR K H kvs t → TabR K H' kvs t
  | [], [], _ => trivial
  | (k, v) :: r, (p, d) :: t, ⟨h1, h2, h3⟩ => ⟨h1, h2.kp s, TabR.kp s h3⟩
theorem TabR.len : ∀ {kvs : List (List Key × V)} {t : List (List Int × PyData)}, TabR K H kvs t → kvs.length = t.length
  | [], [], _ => rfl
  | (k, v) :: r, (p, d) :: t, ⟨h1, h2, h3⟩ => congrArg Nat.succ (TabR.len h3)
theorem TabR.any {q : List Int} : ∀ {kvs : List (List Key × V)} {t : List (List Int × PyData)}, TabR K H kvs t → (kvs.any fun kv => decide (kv.1 = kI q)) = t.any fun x => decide (x.1 = q)
  | [], [], _ => rfl
  | (k, v) :: r, (p, d) :: t, ⟨h1, h2, h3⟩ => by
    rw [List.any_cons, List.any_cons, TabR.any h3, h1]
    congr 1
    exact decide_eq_decide.mpr ⟨fun e => kI_inj e, fun e => congrArg kI e⟩
theorem TabR.set {q : List Int} {v : V} {d : PyData} (hv : Dp K H v d) : ∀ {kvs : List (List Key × V)} {t : List (List Int × PyData)}, TabR K H kvs t → TabR K H (kvs.map fun kv => if kv.1 = kI q then (kv.1, v) else kv) (t.map fun x => if x.1 = q then (x.1, d) else x)
  | [], [], _ => trivial
  | (k, u) :: r, (p, e) :: t, ⟨h1, h2, h3⟩ => by
    rw [List.map_cons, List.map_cons]
    by_cases z : p = q
    · rw [if_pos z, if_pos (by rw [h1, z])]
      exact ⟨h1, hv, TabR.set hv h3⟩
    · rw [if_neg z, if_neg (fun y => z (kI_inj (h1.symm.trans y)))]
      exact ⟨h1, h2, TabR.set hv h3⟩
theorem TabR.snoc {q : List Int} {v : V} {d : PyData} (hv : Dp K H v d) : ∀ {kvs : List (List Key × V)} {t : List (List Int × PyData)}, TabR K H kvs t → TabR K H (kvs ++ [(kI q, v)]) (t ++ [(q, d)])
  | [], [], _ => ⟨rfl, hv, trivial⟩
  | (k, u) :: r, (p, e) :: t, ⟨h1, h2, h3⟩ => ⟨h1, h2, TabR.snoc hv h3⟩
theorem TabR.put {q : List Int} {v : V} {d : PyData} {kvs : List (List Key × V)} {t : List (List Int × PyData)} (h : TabR K H kvs t) (hv : Dp K H v d) : TabR K H (putK kvs (kI q) v) (putD t q d) := by
  unfold putK putD
  rw [h.any]
  split
  · exact h.set hv
  · exact h.snoc hv
end
def zT (t : List (List Int × Int)) : List (List Key × V) := t.map fun p => (kI p.1, .int p.2)
theorem zT_put (t : List (List Int × Int)) (q : List Int) (n : Int) : putK (zT t) (kI q) (.int n) = zT (putD t q n) := by
  unfold putK putD
  have e : ((zT t).any fun kv => decide (kv.1 = kI q)) = t.any fun x => decide (x.1 = q) := by
    unfold zT
    rw [List.any_map]
    congr 1
    funext x
    exact decide_eq_decide.mpr ⟨fun e => kI_inj e, fun e => congrArg kI e⟩
  rw [e]
  split
  · unfold zT
    rw [List.map_map, List.map_map]
    refine List.map_congr_left fun x _ => ?_
    show (if kI x.1 = kI q then (kI x.1, V.int n) else (kI x.1, .int x.2)) = (kI (if x.1 = q then (x.1, n) else x).1, V.int (if x.1 = q then (x.1, n) else x).2)
    by_cases z : x.1 = q
    · rw [if_pos z, if_pos (by rw [z])]
    · rw [if_neg z, if_neg fun y => z (kI_inj y)]
  · unfold zT
    rw [List.map_append]
    rfl
structure TbA where
  x : Addr
  C : Addr
  dx : Addr
  rt : Addr
  lz : Addr
  fs : List (Str × V)
structure TB (K : PySem.W.Frag) (H : Hp) (A : TbA) (s : Tb) : Prop where
  ob : H A.x = some (.ins A.C A.dx A.fs)
  f1 : A.fs.lookup ("row_table" : Str) = some (.ref A.rt)
  f2 : A.fs.lookup ("list_sizes" : Str) = some (.ref A.lz)
  f3 : A.fs.lookup ("add_rows" : Str) = none
  rt : ∃ kvs, H A.rt = some (.dT kvs) ∧ TabR K H kvs s.1
  lz : H A.lz = some (.dT (zT s.2))
  ne : A.rt ≠ A.lz
section
variable {K : PySem.W.Frag} {H H' : Hp} {A : TbA} {s : Tb}
theorem TB.mono (h : TB K H A s) (m : Same H H') : TB K H' A s := ⟨m _ _ h.ob, h.f1, h.f2, h.f3, let ⟨k, a, b⟩ := h.rt; ⟨k, m _ _ a, b.kp m.kp⟩, m _ _ h.lz, h.ne⟩
theorem TB.kp (h : TB K H A s) (f : Fr [A.rt, A.lz] H H') : Kp H H' := fun b o hb ho => f b o hb fun m => by
  obtain ⟨k, e, _⟩ := h.rt
  rcases List.mem_cons.mp m with z | m
  · rw [z, e] at hb; cases hb; cases ho
  · rw [List.mem_singleton.mp m, h.lz] at hb; cases hb; cases ho
end
theorem kp_upd {H : Hp} {a : Addr} {o o' : HO} (h : H a = some o) (n : seqO o = false) : Kp H (upd H a o') := fun b u hb hu => by
  have : b ≠ a := fun e => by
    rw [e, h] at hb
    cases hb
    rw [n] at hu
    cases hu
  rw [upd_ne this]
  exact hb
section
variable {K : PySem.W.Frag} {H : Hp} {A : TbA} {s : Tb}
theorem TB.nx (h : TB K H A s) : A.x ≠ A.rt ∧ A.x ≠ A.lz := by
  obtain ⟨kvs, e1, _⟩ := h.rt
  exact ⟨fun e => (by have := h.ob; rw [e, e1] at this; cases this), fun e => (by have := h.ob; rw [e, h.lz] at this; cases this)⟩
theorem TB.putZ (h : TB K H A s) (p : List Int) (n : Int) : TB K (upd H A.lz (.dT (putK (zT s.2) (kI p) (.int n)))) A (s.1, putD s.2 p n) := by
  obtain ⟨kvs, e1, e2⟩ := h.rt
  exact ⟨by rw [upd_ne h.nx.2]; exact h.ob, h.f1, h.f2, h.f3, ⟨kvs, by rw [upd_ne h.ne]; exact e1, e2.kp (kp_upd h.lz rfl)⟩, by rw [upd_same, zT_put], h.ne⟩
theorem TB.putT {kvs : List (List Key × V)} {p : List Int} {v : V} {d : PyData} (h : TB K H A s) (e1 : H A.rt = some (.dT kvs)) (e2 : TabR K H kvs s.1) (hv : Dp K H v d) : TB K (upd H A.rt (.dT (putK kvs (kI p) v))) A (putD s.1 p d, s.2) :=
  ⟨by rw [upd_ne h.nx.1]; exact h.ob, h.f1, h.f2, h.f3, ⟨_, upd_same, (e2.put hv).kp (kp_upd e1 rfl)⟩, by rw [upd_ne h.ne.symm]; exact h.lz, h.ne⟩
end
theorem rowOk_form {R : List PyData → Prop} {d : PyData} (h : rowOk R d) : ∃ kind parts, d = .tuple (.str kind :: parts) ∧ parts.length ≤ 4 ∧ (kind = "both" → ∃ ds, parts = [.tuple ds] ∧ ds ≠ []) ∧ (∀ d ∈ innerL kind parts, isList d = true ∧ R (listOf d)) := by
  unfold rowOk at h
  split at h
  · rename_i kind parts
    exact ⟨kind, parts, rfl, h.1, h.2.1, h.2.2.2⟩
  · exact h.elim
/-- t + u of tuples that are tracked -/
theorem cat_trk {K : PySem.W.Frag} {H : Hp} {a b : Addr} {xs ys : List V} {Q : VK} (ha : H a = some (.tup xs)) (hb : H b = some (.tup ys)) (hz : xs.length + ys.length ≤ sizeLine) (k : ∀ t H', Same H H' → H' t = some (.tup (xs ++ ys)) → Q (.ref t) H') : rCatA K (.ref a) (.ref b) H Q := by
  refine ⟨a, b, xs, ys, rfl, rfl, .inl (.inl ha), .inl (.inl hb), hz, fun e => ?_, fun _ e => ?_, fun _ _ p hp => ?_⟩
  · subst e
    exact k b H (fun _ _ h => h) hb
  · subst e
    exact k a H (fun _ _ h => h) (by rw [List.append_nil]; exact ha)
  · exact k p _ (Same.new hp) upd_same
theorem addRs_cons {row : PyData → Nat → Tb → Tb} {d : PyData} {r : List PyData} {i : Nat} {s : Tb} : addRs row (d :: r) i s = addRs row r (i + 1) (row d i s) := rfl
theorem addIn_cons {rec : List PyData → List Int → Tb → Tb} {pre : List Int} {d : PyData} {r : List PyData} {j : Nat} {s : Tb} : addIn rec pre (d :: r) j s = addIn rec pre r (j + 1) (rec (listOf d) (pre ++ [(j : Int)]) s) := rfl
theorem cut_fr {S : Addr → Prop} {L : List Addr} {H H' : Hp} (f : Fr L H H') : Fr L (cutH S H) (cutH S H') := fun b o h n => by
  unfold cutH at h ⊢
  split at h
  · cases h
  · rename_i z
    rw [if_neg z]
    exact f b o h n
theorem cut_put {S : Addr → Prop} {H : Hp} {a : Addr} {o : HO} (n : ¬ S a) : cutH S (upd H a o) = upd (cutH S H) a o := by
  funext b
  unfold cutH
  by_cases e : b = a
  · subst e
    rw [if_neg n, upd_same, upd_same]
  · rw [upd_ne e, upd_ne e]
theorem cut_has {S : Addr → Prop} {H : Hp} {a : Addr} {o : HO} (h : cutH S H a = some o) : ¬ S a := fun z => by
  unfold cutH at h
  rw [if_pos z] at h
  cases h
theorem cut_at {S : Addr → Prop} {H : Hp} {a : Addr} {o : HO} (h : cutH S H a = some o) : H a = some o := cut_all _ _ h
structure PgC (K : PySem.W.Frag) (C : Addr) : Prop where
  cls : Cls K C
  n1 : NoAttr K C "ask_table"
  n2 : NoAttr K C "signal_table"
  n3 : NoAttr K C "input_words"
  n4 : NoAttr K C "row_list"
  n5 : NoAttr K C "label_names"
  n6 : NoAttr K C "slot_names"
  n7 : NoAttr K C "gate_names"
  n8 : NoAttr K C "row_table"
  n9 : NoAttr K C "list_sizes"
section
variable {P : Program} {w : World} {K : PySem.W.Frag} {mg : Str → Option Value} {base : Heap} {C : Addr}
def spAdd (K : PySem.W.Frag) (C : Addr) (n : Nat) : Sp := fun vs H Q _ => ∃ (S : Addr → Prop) (A : TbA) (s : Tb) (rws pr : Addr) (ds : List PyData) (pre : List Int) (m : Nat), vs = [.ref A.x, .ref rws, .ref pr] ∧ A.C = C ∧ TB K (cutH S H) A s ∧ Dp K (cutH S H) (.ref rws) (.list ds) ∧ rowsOk n ds ∧ H pr = some (.tup (pre.map V.int)) ∧ pre.length + 2 * n ≤ 100 ∧ CapT s m ∧ m + 1 + wts ds ≤ 90000 ∧
  ∀ H', Fr [A.rt, A.lz] H H' → TB K (cutH S H') A (addL n ds pre s) → Q .non H'
theorem sc_Program_add_rows : FnScope ["self", "rows", "prefix", "index", "row", "number", "inner"] ["self", "rows", "prefix"] (defScope s_Program_add_rows) := ⟨rfl, rfl, rfl, by decide +kernel, rfl, by decide +kernel, by decide +kernel⟩
theorem ok_add_rows {f : Addr} {fd : FuncData} (F : Fun K "add_rows" "Program.add_rows" s_Program_add_rows f fd) (T : Txt mg) (pc : PgC K C) (hm : Meth K C "add_rows" f) (hb : Binds K fd ["self", "rows", "prefix"] []) (c_inner_lists : Cal P w K mg base CX0 1 "inner_lists" ["row"] (spInnerG K)) :
    ∀ n : Nat, FnOk P w K mg base CX0 (1 + n + 1) f fd ["self", "rows", "prefix"] (spAdd K C n)
  | 0 => F.ok sc_Program_add_rows (fun vs H Q E h => by obtain ⟨S, A, s, rws, pr, ds, pre, m, rfl, _⟩ := h; rfl) (fun cdv A outer s H vs Q E hr h => by obtain ⟨S, A, s, rws, pr, ds, pre, m, _, _, _, _, hk, _⟩ := h; exact hk.elim)
  | n + 1 => by
    have m_add_rows : Mcal P w K mg base CX0 (1 + n + 1) C "add_rows" ["self", "rows", "prefix"] (spAdd K C n) := ⟨f, fd, hm, hb, ok_add_rows F T pc hm hb c_inner_lists n⟩
    refine F.ok sc_Program_add_rows (fun vs H Q E h => ?_) (fun cdv A outer s H vs Q E hr h => ?_)
    · obtain ⟨S, A, s, rws, pr, ds, pre, m, rfl, _⟩ := h
      rfl
    · obtain ⟨S, R, s0, rws, pr, ds, pre, m, rfl, hC, Oc, hd, hok, hpr, hpl, hcap, hw, k⟩ := h
      have hu := hu_of hr
      have c_Program := pc.cls
      subst hC
      have O := Oc.mono cut_all
      have nlz := cut_has Oc.lz
      have nrt : ¬ S R.rt := let ⟨_, e, _⟩ := Oc.rt; cut_has e
      refine ⟨_, (pss_cons (ps_dput hu (pe_fld (pv 0) rfl) (pv 2) (pe_callB call_len_seq (by rfl) T.b_len (by decide +kernel) (pa_cons (pv 1) pa_nil)) rfl)
      (pss_one (ps_for PassesOwn.never rfl (pi_enum (by rfl) T.b_enumerate (pa_cons (pv 1) pa_nil)) (pg_tup rfl (pgs_cons (pg_name (i := 3) sc_Program_add_rows.nd rfl (.inl rfl)) (pgs_cons (pg_name (i := 4) sc_Program_add_rows.nd rfl (.inl rfl)) pgs_nil))) (pss_cons (ps_dput hu (pe_fld (pv 0) rfl) (pe_op op_catA (pv 2) (pe_tup (pa_cons (pv 3) pa_nil))) (pv 4) rfl)
      (pss_one (ps_for PassesOwn.never rfl (pi_enum (by rfl) T.b_enumerate (pa_cons (pe_cal c_inner_lists (hr.mono (by omega)) rfl pass0 (pa_cons (pv 4) pa_nil)) pa_nil)) (pg_tup rfl (pgs_cons (pg_name (i := 5) sc_Program_add_rows.nd rfl (.inl rfl)) (pgs_cons (pg_name (i := 6) sc_Program_add_rows.nd rfl (.inl rfl)) pgs_nil))) (pss_one (ps_expr (pe_mcal (pv 0) c_Program m_add_rows (hr.mono (by omega)) pass0 (pa_cons (pv 6) (pa_cons (pe_op op_catA (pv 2) (pe_tup (pa_cons (pv 3) (pa_cons (pv 5) pa_nil)))) pa_nil))))))))))), ?_⟩
      cases hd with
      | @lst _ xs _ hq ha =>
      have hxl := ha.len
      have hcz : (zT s0.2).length ≤ m := by unfold zT; rw [List.length_map]; exact hcap.2
      refine ⟨_, rfl, rws, xs, rfl, .inl (hq.mono cut_all), _, rfl, _, _, _, _, _, rfl, O.ob, pc.cls, pc.n9, O.f2, _, rfl, R.lz, _, rfl, DPut.t (k := kI pre) O.lz (by rw [kI_kV]; exact hpr) (lt_sz (by omega)), ?_⟩
      have O1 := Oc.putZ pre (xs.length : Nat)
      rw [← cut_put nlz] at O1
      have fr1 : Fr [R.rt, R.lz] H (upd H R.lz (.dT (putK (zT s0.2) (kI pre) (.int (xs.length : Nat))))) := Fr.refl.upd (by simp)
      have cap1 : CapT (s0.1, putD s0.2 pre ((xs.length : Nat) : Int)) (m + 1) := ⟨by have := hcap.1; show s0.1.length ≤ _; omega, by have := putD_len s0.2 pre ((xs.length : Nat) : Int); have := hcap.2; show (putD _ _ _).length ≤ _; omega⟩
      revert O1 fr1
      generalize upd H R.lz _ = H1
      intro O1 fr1
      have e0 : addL (n + 1) ds pre s0 = addRs (addRow (addL n) pre) ds 0 (s0.1, putD s0.2 pre ((xs.length : Nat) : Int)) := by rw [hxl]; rfl
      refine ⟨_, rfl, rws, xs, rfl, (hq.mono cut_all).kp (O.kp fr1), ?_⟩
      refine for_it walk_enum (fun i σ H' => (∃ y3 y4 y5 y6 : Option V, σ = [some (.ref R.x), some (.ref rws), some (.ref pr), y3, y4, y5, y6]) ∧ ∃ si mi, TB K (cutH S H') R si ∧ Fr [R.rt, R.lz] H H' ∧ CapT si mi ∧ mi + wts (ds.drop i) ≤ 90000 ∧ addL (n + 1) ds pre s0 = addRs (addRow (addL n) pre) (ds.drop i) i si) ⟨⟨_, _, _, _, rfl⟩, _, m + 1, O1, fr1, cap1, by rw [List.drop_zero]; omega, e0⟩ (fun i σ H' _ p => by
        obtain ⟨_, si, mi, O2, fr, _⟩ := p
        exact (hq.mono cut_all).kp (O.kp fr)) ?_ ?_
      · rintro i v σ H2 H3 hi ⟨⟨y3, y4, y5, y6, rfl⟩, si, mi, O2, fr2, cap2, hw2, hres⟩ ⟨T0, x0, y, rfl, hT0, rfl, hx0, hy⟩
        obtain rfl : x0 = .int (i : Nat) := (Option.some.inj hx0).symm
        obtain ⟨d, hd1, hdy⟩ := ha.get hy
        have hdrop : ds.drop i = d :: ds.drop (i + 1) := by
          obtain ⟨h1, h2⟩ := List.getElem?_eq_some_iff.mp hd1
          rw [List.drop_eq_getElem_cons h1, h2]
        rw [hdrop] at hw2 hres
        rw [wts_cons] at hw2
        refine ⟨T0, _, rfl, .inl (.inl upd_same), rfl, _, _, rfl, _, _, rfl, rfl, ?_⟩
        have sm3 : Same H2 (upd H2 T0 (.tup [.int (i : Nat), y])) := Same.new hT0
        have O3 := O2.mono (cut_same (S := S) sm3)
        have fr3 : Fr [R.rt, R.lz] H (upd H2 T0 (.tup [.int (i : Nat), y])) := fr2.trans sm3.fr
        revert O3 fr3
        generalize upd H2 T0 (.tup [.int (i : Nat), y]) = H3
        intro O3 fr3
        obtain ⟨kind, parts, rfl, hp4, hboth, hinn⟩ := rowOk_form (hok d (List.mem_of_getElem? hd1))
        have hpr3 : H3 pr = some (.tup (pre.map V.int)) := O.kp fr3 _ _ hpr rfl
        obtain ⟨kvs, e1, e2⟩ := O3.rt
        have hkl := e2.len
        have hc1 := cap2.1
        refine ⟨_, rfl, _, rfl, _, _, _, _, _, rfl, cut_at O3.ob, pc.cls, pc.n8, O3.f1, _, rfl, _, rfl, sz1 _, fun p hp => cat_trk (Same.new hp _ _ hpr3) upd_same (sz_lit (by rw [List.length_map]; show _ + 1 ≤ _; omega)) fun t H4 s4 ht => ⟨R.rt, _, rfl, DPut.t (kvs := kvs) (k := kI (pre ++ [(i : Int)])) (s4 _ _ (Same.new hp _ _ (cut_at e1))) (by rw [kI_kV, ← map_snoc]; exact ht) (lt_sz (by omega)), ?_⟩⟩
        have s34 := (Same.new (o := .tup [.int (i : Nat)]) hp).trans s4
        have c34 := cut_same (S := S) s34
        have O4 := (O3.mono c34).putT (p := pre ++ [(i : Int)]) (c34 _ _ e1) (e2.kp c34.kp) ((hdy.kp (Oc.kp (cut_fr fr3))).mono c34)
        rw [← cut_put nrt] at O4
        have fr4 : Fr [R.rt, R.lz] H (upd H4 R.rt (.dT (putK kvs (kI (pre ++ [(i : Int)])) y))) := (fr3.trans s34.fr).upd (by simp)
        have cap4 : CapT (putD si.1 (pre ++ [(i : Int)]) (.tuple (.str kind :: parts)), si.2) (mi + 1) := ⟨by have := putD_len si.1 (pre ++ [(i : Int)]) (.tuple (.str kind :: parts)); show (putD _ _ _).length ≤ _; omega, by have := cap2.2; show si.2.length ≤ _; omega⟩
        revert O4 fr4
        generalize upd H4 R.rt _ = H5
        intro O4 fr4
        have hd5 := hdy.kp (Oc.kp (cut_fr fr4))
        obtain ⟨ty, rfl⟩ : ∃ ty, y = .ref ty := by
          cases hdy with
          | tup _ _ => exact ⟨_, rfl⟩
        refine ⟨_, rfl, _, ty, kind, parts, rfl, cut_all, hd5, by omega, fun e => ?_, fun p' xs' H6 s6 _ hp6 hdp6 => ?_⟩
        · obtain ⟨ds', e', _⟩ := hboth e
          exact ⟨ds', [], e'⟩
        refine ⟨p', xs', rfl, .inl (.inl hp6), ?_⟩
        have O6 := O4.mono (cut_same (S := S) s6)
        have fr6 : Fr [R.rt, R.lz] H H6 := fr4.trans s6.fr
        have hlen6 := hdp6.len
        have hwi := wIn_inner1 kind parts
        have hres' : addL (n + 1) ds pre s0 = addRs (addRow (addL n) pre) (ds.drop (i + 1)) (i + 1) (addIn (addL n) (pre ++ [(i : Int)]) (innerL kind parts) 0 (putD si.1 (pre ++ [(i : Int)]) (.tuple (.str kind :: parts)), si.2)) := hres
        rw [wt_tuple, wts_cons] at hw2
        refine for_it walk_enum (fun j σ H' => (∃ y5' y6' : Option V, σ = [some (.ref R.x), some (.ref rws), some (.ref pr), some (.int (i : Nat)), some (.ref ty), y5', y6']) ∧ ∃ sj mj, TB K (cutH S H') R sj ∧ Fr [R.rt, R.lz] H6 H' ∧ CapT sj mj ∧ mj + (((innerL kind parts).drop j).length + wIn ((innerL kind parts).drop j)) + wts (ds.drop (i + 1)) ≤ 90000 ∧ addL (n + 1) ds pre s0 = addRs (addRow (addL n) pre) (ds.drop (i + 1)) (i + 1) (addIn (addL n) (pre ++ [(i : Int)]) ((innerL kind parts).drop j) j sj)) ⟨⟨_, _, rfl⟩, _, mi + 1, O6, Fr.refl, cap4, by rw [List.drop_zero]; omega, hres'⟩ (fun j σ H' _ q => by
          obtain ⟨_, sj, mj, O7, fr7, _⟩ := q
          exact SqL.kp (.inl (.inl hp6)) ((O6.mono cut_all).kp fr7)) ?_ ?_
        · rintro j v σ H7 H8 hj ⟨⟨y5', y6', rfl⟩, sj, mj, O7, fr7, cap7, hw7, hres7⟩ ⟨T1, x1, y1, rfl, hT1, rfl, hx1, hy1⟩
          obtain rfl : x1 = .int (j : Nat) := (Option.some.inj hx1).symm
          obtain ⟨d1, hd1', hdy1⟩ := hdp6.get hy1
          have hdrop1 : (innerL kind parts).drop j = d1 :: (innerL kind parts).drop (j + 1) := by
            obtain ⟨h1, h2⟩ := List.getElem?_eq_some_iff.mp hd1'
            rw [List.drop_eq_getElem_cons h1, h2]
          rw [hdrop1] at hw7 hres7
          have hw7 : mj + (((innerL kind parts).drop (j + 1)).length + 1 + (wts (listOf d1) + wIn ((innerL kind parts).drop (j + 1)))) + wts (ds.drop (i + 1)) ≤ 90000 := hw7
          obtain ⟨hl1, hr1⟩ := hinn d1 (List.mem_of_getElem? hd1')
          obtain ⟨dl, rfl⟩ : ∃ dl, d1 = .list dl := by
            cases d1 with
            | list dl => exact ⟨dl, rfl⟩
            | _ => cases hl1
          refine ⟨T1, _, rfl, .inl (.inl upd_same), rfl, _, _, rfl, _, _, rfl, rfl, ?_⟩
          have sm8 : Same H7 (upd H7 T1 (.tup [.int (j : Nat), y1])) := Same.new hT1
          have O8 := O7.mono (cut_same (S := S) sm8)
          have fr8 : Fr [R.rt, R.lz] H6 (upd H7 T1 (.tup [.int (j : Nat), y1])) := fr7.trans sm8.fr
          revert O8 fr8
          generalize upd H7 T1 (.tup [.int (j : Nat), y1]) = H8
          intro O8 fr8
          have frA : Fr [R.rt, R.lz] H H8 := fr6.trans fr8
          have hdl : Dp K (cutH S H8) y1 (.list dl) := (hdy1.mono (cut_same s6)).kp (O6.kp (cut_fr fr8))
          have hp8 : H8 pr = some (.tup (pre.map V.int)) := O.kp frA _ _ hpr rfl
          obtain ⟨q1, rfl⟩ : ∃ q1, y1 = .ref q1 := by
            cases hdl with
            | lst _ _ => exact ⟨_, rfl⟩
          refine ⟨_, rfl, _, _, _, rfl, cut_at O8.ob, O8.f3, _, rfl, _, rfl, _, rfl, _, rfl, sz2 _ _, fun p9 hp9 => cat_trk (Same.new hp9 _ _ hp8) upd_same (sz_lit (by rw [List.length_map]; show _ + 2 ≤ _; omega)) fun t9 H9 s9 ht9 => ?_⟩
          have s89 : Same H8 H9 := (Same.new hp9).trans s9
          rw [map_snoc2] at ht9
          refine ⟨S, R, sj, q1, t9, dl, pre ++ [(i : Int)] ++ [(j : Int)], mj, rfl, rfl, O8.mono (cut_same s89), hdl.mono (cut_same s89), hr1, ht9, ?_, cap7, ?_, fun H' fr' O' => ?_⟩
          · rw [List.length_append, List.length_append]
            show pre.length + 1 + 1 + 2 * n ≤ 100
            omega
          · have : wts (listOf (.list dl)) = wts dl := rfl
            omega
          · refine ⟨⟨_, _, rfl⟩, _, mj + 1 + wts dl, O', fr8.trans (s89.fr.trans fr'), addL_cap n _ _ _ _ cap7, ?_, ?_⟩
            · have : wts (listOf (.list dl)) = wts dl := rfl
              omega
            · rw [hres7, addIn_cons]
              rfl
        · rintro σ H7 ⟨⟨y5', y6', rfl⟩, sj, mj, O7, fr7, cap7, hw7, hres7⟩
          rw [List.drop_of_length_le (l := innerL kind parts) (by omega)] at hres7
          exact ⟨⟨_, _, _, _, rfl⟩, sj, mj, O7, fr6.trans fr7, cap7, by omega, hres7⟩
      · rintro σ H' ⟨_, si, mi, O2, fr, _, _, e⟩
        rw [List.drop_of_length_le (by omega)] at e
        exact k H' fr (e ▸ O2)
end
end Op
namespace L2
theorem cut_kpS {S : PySem.Addr → Prop} {H H' : Hp} (s : Kp H H') : Kp (cutH S H) (cutH S H') := fun b o h ho => by
  unfold cutH at h ⊢
  split at h
  · cases h
  · rename_i n
    rw [if_neg n]
    exact s b o h ho
end L2
namespace Op
open PySem L2 PyProof.Rows
theorem at_new {H : Hp} {a : Addr} {o : HO} (_ : H a = none) : upd H a o a = some o := upd_same
theorem sizes_small {c : Chk} (h : sizes c = none) : c.labels.length < 64 ∧ c.slots.length < 64 ∧ c.gates.length < 64 := by
  unfold sizes at h
  split at h
  · cases h
  · split at h
    · cases h
    · split at h
      · cases h
      · split at h
        · cases h
        · omega
theorem dkT_keys (xs : List Str) : (dkT xs).map (·.1) = xs.map Sum.inr := by
  unfold dkT
  rw [List.map_map]
  rfl
theorem okTab_mem {ok : PyData → Bool} {most : Nat} {a : ArgD} {kvs : List (Str × PyData)} (h : okTab ok most a = some kvs) : ∀ q ∈ kvs, ok q.2 = true := by
  cases a with
  | none => 
    obtain rfl := Option.some.inj h
    exact fun q hq => (List.not_mem_nil hq).elim
  | other d => cases h
  | dict kv =>
    have h : (if kv.length ≤ most ∧ (kv.all fun p => isWordS p.1 && ok p.2) = true then some kv else none) = some kvs := h
    split at h
    · rename_i z
      obtain rfl := Option.some.inj h
      exact fun q hq => (Bool.and_eq_true_iff.mp (List.all_eq_true.mp z.2 q hq)).2
    · cases h
theorem noL_box {d : PyData} (h : isBox d = true) : noL d = true := by
  unfold isBox at h
  split at h
  · rename_i n d
    have := noL_words (Bool.and_eq_true_iff.mp h).2
    unfold noL
    refine noLs_mem.mpr fun z hz => ?_
    rcases List.mem_cons.mp hz with rfl | hz
    · unfold noL; rfl
    · rw [List.mem_singleton.mp hz]; exact this
  · cases h
theorem KvsR.cutN {K : PySem.W.Frag} {H : Hp} {S : Addr → Prop} (hs : ∀ b, S b → LstAt H b) : ∀ {vs : List (Key × V)} {kvs : List (Str × PyData)}, KvsR K H vs kvs → (∀ q ∈ kvs, noL q.2 = true) → KvsR K (cutH S H) vs kvs
  | [], [], _, _ => trivial
  | (k, v) :: r, (x, d) :: t, ⟨h1, h2, h3⟩, hn => ⟨h1, noL_cut hs h2 (hn _ List.mem_cons_self), KvsR.cutN hs h3 fun q hq => hn q (List.mem_cons_of_mem _ hq)⟩
theorem RwV.but {K : PySem.W.Frag} {H H' : Hp} {x C dx : Addr} {fs : List (Str × V)} {v : V} {d : PyData} (h : RwV K H v d) (b : But x H H') (hx : H x = some (.ins C dx fs)) : RwV K H' v d := by
  rcases h with h | ⟨h, p, e, hp⟩
  · exact .inl (h.kp (b.kp hx))
  · exact .inr ⟨h, p, e, b p _ hp fun z => by rw [z, hx] at hp; cases hp⟩
/-! ### a program -/
structure Pg where
  asks : List (Str × PyData)
  sigs : List (Str × PyData)
  ins : PyData
  rows : List PyData
  labels : List Str
  slots : List Str
  gates : List Str
structure PgA where
  x : Addr
  C : Addr
  dx : Addr
  pa : Addr
  ps : Addr
  pr : Addr
  l1 : Addr
  l2 : Addr
  l3 : Addr
  rt : Addr
  lz : Addr
  iv : V
def pgF (A : PgA) : List (Str × V) := [("ask_table", .ref A.pa), ("signal_table", .ref A.ps), ("input_words", A.iv), ("row_list", .ref A.pr), ("label_names", .ref A.l1), ("slot_names", .ref A.l2), ("gate_names", .ref A.l3), ("row_table", .ref A.rt), ("list_sizes", .ref A.lz)]
structure PgO (K : PySem.W.Frag) (H : Hp) (A : PgA) (g : Pg) : Prop where
  ob : H A.x = some (.ins A.C A.dx (pgF A))
  da : ∃ ws, H A.pa = some (.dK ws) ∧ KvsR K H ws g.asks
  ds : ∃ ws, H A.ps = some (.dK ws) ∧ KvsR K H ws g.sigs
  di : Dp K H A.iv g.ins
  dr : Dp K H (.ref A.pr) (.list g.rows)
  n1 : H A.l1 = some (.lst (g.labels.map V.str))
  n2 : H A.l2 = some (.lst (g.slots.map V.str))
  n3 : H A.l3 = some (.lst (g.gates.map V.str))
  tb : TB K H ⟨A.x, A.C, A.dx, A.rt, A.lz, pgF A⟩ (addL 5 g.rows [] ([], []))
theorem PgO.mono {K : PySem.W.Frag} {H H' : Hp} {A : PgA} {g : Pg} (h : PgO K H A g) (s : Same H H') : PgO K H' A g :=
  ⟨s _ _ h.ob, let ⟨w, a, b⟩ := h.da; ⟨w, s _ _ a, b.mono s.kp⟩, let ⟨w, a, b⟩ := h.ds; ⟨w, s _ _ a, b.mono s.kp⟩, h.di.mono s, h.dr.mono s, s _ _ h.n1, s _ _ h.n2, s _ _ h.n3, h.tb.mono s⟩
section
variable {P : Program} {w : World} {K : PySem.W.Frag} {mg : Str → Option Value} {base : Heap} {pS CI C RC0 : Addr}
def spProg (K : PySem.W.Frag) (C CI : Addr) : Sp := fun vs H Q X => ∃ (x dx : Addr) (rv av sv iv : V) (asks sigs : ArgD) (ins rows : PyData), vs = [.ref x, rv, av, sv, iv] ∧ H x = some (.ins C dx []) ∧ ArgV K H av asks ∧ ArgV K H sv sigs ∧ argSmall asks ∧ argSmall sigs ∧ Dp K H iv ins ∧ RwV K H rv rows ∧ small ins = true ∧ wt rows ≤ 30000 ∧
  (∀ ka ks ds c, okTab (areWords 4) 6 asks = some ka → okTab isBox 3 sigs = some ks → areWords 3 ins = true → rows = .list ds → checkAll ⟨ka.map (·.1), ks.map (·.1), false⟩ (.list ds) = .ok c → ∀ H' A kva kvs ls ss gs, But x H H' → A.x = x → A.C = C → kva.Perm ka → sortedS (kva.map (·.1)) = true → kvs.Perm ks → sortedS (kvs.map (·.1)) = true → ls.Perm c.labels → sortedS ls = true → ss.Perm c.slots → sortedS ss = true → gs.Perm c.gates → sortedS gs = true → PgO K (cutH (LstAt H) H') A ⟨kva, kvs, ins, ds, ls, ss, gs⟩ → Q .non H') ∧
  (∀ part path, progCheck false asks sigs ins rows = .error (part, path) → ∀ H' d, Fr (x :: (argF asks av ++ argF sigs sv)) H H' → XProg K H' d part path → X (.ref CI) (some d) H')
theorem sc_Program___init__ : FnScope ["self", "rows", "asks", "signals", "inputs", "found"] ["self", "rows", "asks", "signals", "inputs"] (defScope s_Program___init__) := ⟨rfl, rfl, rfl, by decide +kernel, rfl, by decide +kernel, by decide +kernel⟩
theorem ok_prog {f : Addr} {fd : FuncData} (F : Fun K "__init__" "Program.__init__" s_Program___init__ f fd) (T : TxtC P w K mg pS CI) (pc : PgC K C) (rc : RcC K RC0)
    (c_checked_asks : Cal P w K mg base (L2.CX P w) 3 "checked_asks" ["value"] (spTab K CI "asks" (areWords 4) 6)) (c_checked_signals : Cal P w K mg base (L2.CX P w) 4 "checked_signals" ["value"] (spTab K CI "signals" isBox 3)) (c_checked_inputs : Cal P w K mg base (L2.CX P w) 3 "checked_inputs" ["value"] (spInputs K CI))
    (k_RowCheck : Kcal P w K mg base CX0 1 "RowCheck" RC0 ["self", "asks", "signals", "with_edits"] (spRcInit K RC0)) (m_check : Mcal P w K mg base (L2.CX P w) 12 RC0 "check" ["self", "rows"] (spCheck K RC0 CI)) (c_copy_rows : Cal P w K mg base CX0 11 "copy_rows" ["rows"] (spCRows K 5)) (m_add_rows : Mcal P w K mg base CX0 7 C "add_rows" ["self", "rows", "prefix"] (spAdd K C 5)) :
    FnOk P w K mg base (L2.CX P w) 13 f fd ["self", "rows", "asks", "signals", "inputs"] (spProg K C CI) := by
  refine F.okX sc_Program___init__ (fun vs H Q E h => ?_) (fun cdv A outer s H vs Q E hr h => ?_)
  · obtain ⟨x, dx, rv, av, sv, iv, asks, sigs, ins, rows, rfl, _⟩ := h
    rfl
  · obtain ⟨x, dx, rv, av, sv, iv, asks, sigs, ins, rows, rfl, hx, hav, hsv, hsa, hss, hiv, hrv, hsi, hwr, k1, k2⟩ := h
    have c_RowCheck := rc.cls
    have c_Program := pc.cls
    refine ⟨_, (pss_cons (ps_fld (pv 0) (pe_cal c_checked_asks (hr.mono (by omega)) rfl (passes_call (takes_of rfl rfl rfl rfl) (fun _ _ _ _ h => h)) (pa_cons (pv 2) pa_nil)) rfl)
      (pss_cons (ps_fld (pv 0) (pe_cal c_checked_signals (hr.mono (by omega)) rfl (passes_call (takes_of rfl rfl rfl rfl) (fun _ _ _ _ h => h)) (pa_cons (pv 3) pa_nil)) rfl)
      (pss_cons (ps_fld (pv 0) (pe_cal c_checked_inputs (hr.mono (by omega)) rfl (passes_call (takes_of rfl rfl rfl rfl) (fun _ _ _ _ h => h)) (pa_cons (pv 4) pa_nil)) rfl)
      (pss_cons (ps_set (i := 5) sc_Program___init__.nd rfl (.inl rfl) (pe_kcal k_RowCheck (hr.mono (by omega)) rfl pass0 (pa_cons (pe_fld (pv 0) rfl) (pa_cons (pe_fld (pv 0) rfl) (pa_cons pe_bl pa_nil)))))
      (pss_cons (ps_expr (pe_mcal (pv 5) c_RowCheck m_check (hr.mono (by omega)) (passes_call (takes_of rfl rfl rfl rfl) (fun _ _ _ _ h => h)) (pa_cons (pv 1) pa_nil)))
      (pss_cons (ps_fld (pv 0) (pe_cal c_copy_rows (hr.mono (by omega)) rfl pass0 (pa_cons (pv 1) pa_nil)) rfl)
      (pss_cons (ps_fld (pv 0) (pe_callB (call_sortedKV rfl) (by rfl) T.b_sorted (by decide +kernel) (pa_cons (pe_bm0 PySem.F.plainAttrs_dict PySem.F.slot_dict_keys PySem.F.type_dict_keys mt_keysV (pe_fld (pv 5) rfl)) pa_nil)) rfl)
      (pss_cons (ps_fld (pv 0) (pe_callB (call_sortedKV rfl) (by rfl) T.b_sorted (by decide +kernel) (pa_cons (pe_bm0 PySem.F.plainAttrs_dict PySem.F.slot_dict_keys PySem.F.type_dict_keys mt_keysV (pe_fld (pv 5) rfl)) pa_nil)) rfl)
      (pss_cons (ps_fld (pv 0) (pe_callB (call_sortedKV rfl) (by rfl) T.b_sorted (by decide +kernel) (pa_cons (pe_bm0 PySem.F.plainAttrs_dict PySem.F.slot_dict_keys PySem.F.type_dict_keys mt_keysV (pe_fld (pv 5) rfl)) pa_nil)) rfl)
      (pss_cons (ps_fld (pv 0) pe_dnewT rfl)
      (pss_cons (ps_fld (pv 0) pe_dnewT rfl)
      (pss_one (ps_expr (pe_mcal (pv 0) c_Program m_add_rows (hr.mono (by omega)) pass0 (pa_cons (pe_fld (pv 0) rfl) (pa_cons (pe_tup pa_nil) pa_nil)))))))))))))))), ?_⟩
    unfold progCheck at k2
    refine ⟨_, rfl, av, asks, rfl, hav, hsa, fun ka hka pa H1 wsa kva s1 hpa hpa1 pma srta hra => ?_, fun hn H1 d f1 hxp => ?_⟩
    · rw [hka] at k2
      have nxa : pa ≠ x := fun e => by rw [e, hx] at hpa; cases hpa
      refine ⟨_, rfl, x, C, dx, _, rfl, s1 _ _ hx, pc.cls, pc.n1, (by show 0 < 1000; decide), ?_⟩
      have b2 : But x H (upd H1 x (.ins C dx (putF "ask_table" (.ref pa) []))) := (Same.but s1).upd
      have x2 : upd H1 x (.ins C dx (putF "ask_table" (.ref pa) [])) x = some (.ins C dx [("ask_table", .ref pa)]) := upd_same
      have b12' : But x H1 (upd H1 x (.ins C dx (putF "ask_table" (.ref pa) []))) := (Same.but fun _ _ z => z).upd
      have pa2 : upd H1 x (.ins C dx (putF "ask_table" (.ref pa) [])) pa = some (.dK wsa) := by rw [upd_ne nxa]; exact hpa1
      revert b2 x2 pa2 b12'
      generalize upd H1 x (.ins C dx (putF "ask_table" (.ref pa) [])) = H2
      intro b2 x2 b12' pa2
      refine ⟨_, rfl, sv, sigs, rfl, hsv.but b2 hx, hss, fun ks hks ps H3 wss kvs s3 hps hps3 pms srts hrs => ?_, fun hn H3 d f3 hxp => ?_⟩
      · rw [hks] at k2
        have nxs : ps ≠ x := fun e => by rw [e, x2] at hps; cases hps
        have nas : pa ≠ ps := fun e => by rw [← e, pa2] at hps; cases hps
        refine ⟨_, rfl, x, C, dx, _, rfl, s3 _ _ x2, pc.cls, pc.n2, (by show 1 < 1000; decide), ?_⟩
        have b4 : But x H (upd H3 x (.ins C dx (putF "signal_table" (.ref ps) [("ask_table", .ref pa)]))) := (b2.trans (Same.but s3)).upd
        have x4 : upd H3 x (.ins C dx (putF "signal_table" (.ref ps) [("ask_table", .ref pa)])) x = some (.ins C dx [("ask_table", .ref pa), ("signal_table", .ref ps)]) := upd_same
        have b34 : But x H3 (upd H3 x (.ins C dx (putF "signal_table" (.ref ps) [("ask_table", .ref pa)]))) := (Same.but fun _ _ z => z).upd
        have pa4 : upd H3 x (.ins C dx (putF "signal_table" (.ref ps) [("ask_table", .ref pa)])) pa = some (.dK wsa) := by rw [upd_ne nxa]; exact s3 _ _ pa2
        have ps4 : upd H3 x (.ins C dx (putF "signal_table" (.ref ps) [("ask_table", .ref pa)])) ps = some (.dK wss) := by rw [upd_ne nxs]; exact hps3
        revert b4 x4 pa4 ps4 b34
        generalize upd H3 x (.ins C dx (putF "signal_table" (.ref ps) [("ask_table", .ref pa)])) = H4
        intro b4 x4 b34 pa4 ps4
        refine ⟨_, rfl, iv, ins, rfl, hiv.kp (b4.kp hx), hsi, fun hi => ?_, fun hi H5 d s5 hxp => ?_⟩
        · simp only [hi, if_true] at k2
          refine ⟨_, rfl, x, C, dx, _, rfl, x4, pc.cls, pc.n3, (by show 2 < 1000; decide), ?_⟩
          have b5 : But x H (upd H4 x (.ins C dx (putF "input_words" iv [("ask_table", .ref pa), ("signal_table", .ref ps)]))) := b4.upd
          have x5 : upd H4 x (.ins C dx (putF "input_words" iv [("ask_table", .ref pa), ("signal_table", .ref ps)])) x = some (.ins C dx [("ask_table", .ref pa), ("signal_table", .ref ps), ("input_words", iv)]) := upd_same
          have b45 : But x H4 (upd H4 x (.ins C dx (putF "input_words" iv [("ask_table", .ref pa), ("signal_table", .ref ps)]))) := (Same.but fun _ _ z => z).upd
          have pa5 : upd H4 x (.ins C dx (putF "input_words" iv [("ask_table", .ref pa), ("signal_table", .ref ps)])) pa = some (.dK wsa) := by rw [upd_ne nxa]; exact pa4
          have ps5 : upd H4 x (.ins C dx (putF "input_words" iv [("ask_table", .ref pa), ("signal_table", .ref ps)])) ps = some (.dK wss) := by rw [upd_ne nxs]; exact ps4
          revert b5 x5 pa5 ps5 b45
          generalize upd H4 x (.ins C dx (putF "input_words" iv [("ask_table", .ref pa), ("signal_table", .ref ps)])) = H5
          intro b5 x5 b45 pa5 ps5
          have b35 : But x H3 H5 := b34.trans b45
          have b25 : But x H2 H5 := (Same.but s3).trans b35
          refine ⟨_, rfl, x, C, dx, _, _, rfl, x5, pc.cls, pc.n1, rfl, _, rfl, x, C, dx, _, _, rfl, x5, pc.cls, pc.n2, rfl, fun y dy hy hdy hne => ?_⟩
          have s6 : Same H5 (upd (upd H5 dy (.own y)) y (.ins RC0 dy [])) := (Same.new hdy).trans (Same.new (by rw [upd_ne hne.symm]; exact hy))
          have y6 : upd (upd H5 dy (.own y)) y (.ins RC0 dy []) y = some (.ins RC0 dy []) := upd_same
          revert s6 y6
          generalize upd (upd H5 dy (.own y)) y (.ins RC0 dy []) = H6
          intro s6 y6
          refine ⟨y, dy, pa, ps, ⟨ka.map (·.1), ks.map (·.1), false⟩, rfl, y6, KvsR.known (s6 _ _ pa5) hra pma, KvsR.known (s6 _ _ ps5) hrs pms, fun H7 R eR1 eR2 hfree O7 but7 => ⟨rfl, ?_⟩⟩
          subst eR1
          have but57 : Same H5 H7 := fun b o hb => but7 b o (s6 b o hb) fun e => by rw [e, hy] at hb; cases hb
          have b7 : But x H H7 := b5.trans (Same.but but57)
          have outL : ∀ b o, H5 b = some o → b ∉ R.L := fun b o hb hm => by
            have hm : b = R.a ∨ b ∈ [R.l, R.s, R.g, R.e] := by simpa [RcA.L] using hm
            rcases hm with e | hm
            · rw [e, hy] at hb; cases hb
            · have := hfree b hm
              rw [s6 b o hb] at this
              cases this
          refine ⟨_, rfl, _, _, _, rfl, by rw [← eR2]; exact O7.ob, rfl, _, rfl, R, _, rv, rows, rfl, eR2, O7, hrv.but b7 hx, hwr, fun c hc H8 f8 O8 => ?_, fun part path he H8 d f8 hxp => ?_⟩
          · have s8 : Same H5 H8 := fun b o hb => f8 b o (but57 b o hb) (outL b o hb)
            have b8 : But x H H8 := b5.trans (Same.but s8)
            obtain ⟨ds, rfl, hchk, hsz⟩ := checkAll_ok hc
            have hwd : wts ds ≤ 30000 := by rw [wt_list] at hwr; omega
            have hrok := rowsOk_of _ 5 _ _ _ _ _ hchk (by decide)
            refine ⟨_, rfl, rv, ds, rfl, (hrv.but b8 hx).lst, hrok, hwd, fun p xs H9 s9 hp hp9 hdp => ?_⟩
            have x9 := s9 _ _ (s8 _ _ x5)
            refine ⟨_, rfl, x, C, dx, _, rfl, x9, pc.cls, pc.n4, (by show 3 < 1000; decide), ?_⟩
            have O9 := O8.mono s9
            have ob9 : H9 R.a = some (.ins R.C R.dx (rcF R ⟨ka.map (·.1), ks.map (·.1), false⟩ c)) := O9.ob
            have nRx : R.a ≠ x := fun e => by rw [e, x9] at ob9; simp [rcF] at ob9
            have nLx : R.l ≠ x := fun e => by have := O9.dl; rw [e, x9] at this; cases this
            have nSx : R.s ≠ x := fun e => by have := O9.ds; rw [e, x9] at this; cases this
            have nGx : R.g ≠ x := fun e => by have := O9.dg; rw [e, x9] at this; cases this
            have npx : p ≠ x := fun e => by rw [e, x9] at hp9; cases hp9
            have b10 : But x H9 (upd H9 x (.ins C dx (putF "row_list" (.ref p) [("ask_table", .ref pa), ("signal_table", .ref ps), ("input_words", iv)]))) := (Same.but fun _ _ z => z).upd
            have x10 : upd H9 x (.ins C dx (putF "row_list" (.ref p) [("ask_table", .ref pa), ("signal_table", .ref ps), ("input_words", iv)])) x = some (.ins C dx [("ask_table", .ref pa), ("signal_table", .ref ps), ("input_words", iv), ("row_list", .ref p)]) := upd_same
            revert b10 x10
            generalize upd H9 x (.ins C dx _) = H10
            intro b10 x10
            obtain ⟨z1, z2, z3⟩ := sizes_small hsz
            refine ⟨_, rfl, R.a, R.C, R.dx, _, _, rfl, b10 _ _ ob9 nRx, eR2 ▸ rc.cls, eR2 ▸ rc.n5, rfl, tyV_dK (b10 _ _ O9.dl nLx), R.l, dkT c.labels, rfl, rfl, .inl (b10 _ _ O9.dl nLx), fun q0 hq0 => ?_⟩
            refine ⟨q0, R.l, dkT c.labels, c.labels, rfl, upd_same, .inl (Same.new hq0 _ _ (b10 _ _ O9.dl nLx)), dkT_keys c.labels, by omega, fun y0 l0 perm0 sort0 hl0 => ?_⟩
            have s10 := (Same.new (o := keysO q0 R.l) hq0).trans (Same.new (o := .lst (y0.map V.str)) hl0)
            have el0 := at_new (o := .lst (y0.map V.str)) hl0
            have free0 : H10 l0 = none := (Same.new (o := keysO q0 R.l) hq0).free hl0
            revert s10 el0
            generalize upd (upd H10 q0 _) l0 _ = G0
            intro s10 el0
            refine ⟨_, rfl, x, C, dx, _, rfl, s10 _ _ x10, pc.cls, pc.n5, (by show 4 < 1000; decide), ?_⟩
            have b11 : But x H9 (upd G0 x (.ins C dx (putF "label_names" (.ref l0) [("ask_table", .ref pa), ("signal_table", .ref ps), ("input_words", iv), ("row_list", .ref p)]))) := (b10.trans (Same.but s10)).upd
            have x11 : upd G0 x (.ins C dx (putF "label_names" (.ref l0) [("ask_table", .ref pa), ("signal_table", .ref ps), ("input_words", iv), ("row_list", .ref p)])) x = some (.ins C dx [("ask_table", .ref pa), ("signal_table", .ref ps), ("input_words", iv), ("row_list", .ref p), ("label_names", .ref l0)]) := upd_same
            have nl0 : l0 ≠ x := fun e => by rw [e, x10] at free0; cases free0
            have c10 : But x H10 (upd G0 x (.ins C dx (putF "label_names" (.ref l0) [("ask_table", .ref pa), ("signal_table", .ref ps), ("input_words", iv), ("row_list", .ref p)]))) := (Same.but s10).upd
            have fl0 : upd G0 x (.ins C dx (putF "label_names" (.ref l0) [("ask_table", .ref pa), ("signal_table", .ref ps), ("input_words", iv), ("row_list", .ref p)])) l0 = some (.lst (y0.map V.str)) := by rw [upd_ne nl0]; exact el0
            revert b11 x11 c10 fl0
            generalize upd G0 x (.ins C dx _) = H11
            intro b11 x11 c10 fl0
            refine ⟨_, rfl, R.a, R.C, R.dx, _, _, rfl, b11 _ _ ob9 nRx, eR2 ▸ rc.cls, eR2 ▸ rc.n6, rfl, tyV_dK (b11 _ _ O9.ds nSx), R.s, dkT c.slots, rfl, rfl, .inl (b11 _ _ O9.ds nSx), fun q1 hq1 => ?_⟩
            refine ⟨q1, R.s, dkT c.slots, c.slots, rfl, upd_same, .inl (Same.new hq1 _ _ (b11 _ _ O9.ds nSx)), dkT_keys c.slots, by omega, fun y1 l1 perm1 sort1 hl1 => ?_⟩
            have s11 := (Same.new (o := keysO q1 R.s) hq1).trans (Same.new (o := .lst (y1.map V.str)) hl1)
            have el1 := at_new (o := .lst (y1.map V.str)) hl1
            have free1 : H11 l1 = none := (Same.new (o := keysO q1 R.s) hq1).free hl1
            revert s11 el1
            generalize upd (upd H11 q1 _) l1 _ = G1
            intro s11 el1
            refine ⟨_, rfl, x, C, dx, _, rfl, s11 _ _ x11, pc.cls, pc.n6, (by show 5 < 1000; decide), ?_⟩
            have b12 : But x H9 (upd G1 x (.ins C dx (putF "slot_names" (.ref l1) [("ask_table", .ref pa), ("signal_table", .ref ps), ("input_words", iv), ("row_list", .ref p), ("label_names", .ref l0)]))) := (b11.trans (Same.but s11)).upd
            have x12 : upd G1 x (.ins C dx (putF "slot_names" (.ref l1) [("ask_table", .ref pa), ("signal_table", .ref ps), ("input_words", iv), ("row_list", .ref p), ("label_names", .ref l0)])) x = some (.ins C dx [("ask_table", .ref pa), ("signal_table", .ref ps), ("input_words", iv), ("row_list", .ref p), ("label_names", .ref l0), ("slot_names", .ref l1)]) := upd_same
            have nl1 : l1 ≠ x := fun e => by rw [e, x11] at free1; cases free1
            have c11 : But x H11 (upd G1 x (.ins C dx (putF "slot_names" (.ref l1) [("ask_table", .ref pa), ("signal_table", .ref ps), ("input_words", iv), ("row_list", .ref p), ("label_names", .ref l0)]))) := (Same.but s11).upd
            have fl1 : upd G1 x (.ins C dx (putF "slot_names" (.ref l1) [("ask_table", .ref pa), ("signal_table", .ref ps), ("input_words", iv), ("row_list", .ref p), ("label_names", .ref l0)])) l1 = some (.lst (y1.map V.str)) := by rw [upd_ne nl1]; exact el1
            revert b12 x12 c11 fl1
            generalize upd G1 x (.ins C dx _) = H12
            intro b12 x12 c11 fl1
            refine ⟨_, rfl, R.a, R.C, R.dx, _, _, rfl, b12 _ _ ob9 nRx, eR2 ▸ rc.cls, eR2 ▸ rc.n7, rfl, tyV_dK (b12 _ _ O9.dg nGx), R.g, dkT c.gates, rfl, rfl, .inl (b12 _ _ O9.dg nGx), fun q2 hq2 => ?_⟩
            refine ⟨q2, R.g, dkT c.gates, c.gates, rfl, upd_same, .inl (Same.new hq2 _ _ (b12 _ _ O9.dg nGx)), dkT_keys c.gates, by omega, fun y2 l2 perm2 sort2 hl2 => ?_⟩
            have s12 := (Same.new (o := keysO q2 R.g) hq2).trans (Same.new (o := .lst (y2.map V.str)) hl2)
            have el2 := at_new (o := .lst (y2.map V.str)) hl2
            have free2 : H12 l2 = none := (Same.new (o := keysO q2 R.g) hq2).free hl2
            revert s12 el2
            generalize upd (upd H12 q2 _) l2 _ = G2
            intro s12 el2
            refine ⟨_, rfl, x, C, dx, _, rfl, s12 _ _ x12, pc.cls, pc.n7, (by show 6 < 1000; decide), ?_⟩
            have b13 : But x H9 (upd G2 x (.ins C dx (putF "gate_names" (.ref l2) [("ask_table", .ref pa), ("signal_table", .ref ps), ("input_words", iv), ("row_list", .ref p), ("label_names", .ref l0), ("slot_names", .ref l1)]))) := (b12.trans (Same.but s12)).upd
            have x13 : upd G2 x (.ins C dx (putF "gate_names" (.ref l2) [("ask_table", .ref pa), ("signal_table", .ref ps), ("input_words", iv), ("row_list", .ref p), ("label_names", .ref l0), ("slot_names", .ref l1)])) x = some (.ins C dx [("ask_table", .ref pa), ("signal_table", .ref ps), ("input_words", iv), ("row_list", .ref p), ("label_names", .ref l0), ("slot_names", .ref l1), ("gate_names", .ref l2)]) := upd_same
            have nl2 : l2 ≠ x := fun e => by rw [e, x12] at free2; cases free2
            have c12 : But x H12 (upd G2 x (.ins C dx (putF "gate_names" (.ref l2) [("ask_table", .ref pa), ("signal_table", .ref ps), ("input_words", iv), ("row_list", .ref p), ("label_names", .ref l0), ("slot_names", .ref l1)]))) := (Same.but s12).upd
            have fl2 : upd G2 x (.ins C dx (putF "gate_names" (.ref l2) [("ask_table", .ref pa), ("signal_table", .ref ps), ("input_words", iv), ("row_list", .ref p), ("label_names", .ref l0), ("slot_names", .ref l1)])) l2 = some (.lst (y2.map V.str)) := by rw [upd_ne nl2]; exact el2
            revert b13 x13 c12 fl2
            generalize upd G2 x (.ins C dx _) = H13
            intro b13 x13 c12 fl2
            intro rt hrt
            refine ⟨_, rfl, x, C, dx, _, rfl, Same.new hrt _ _ x13, pc.cls, pc.n8, (by show 7 < 1000; decide), ?_⟩
            have nrt : rt ≠ x := fun e => by rw [e, x13] at hrt; cases hrt
            have c13 : But x H13 (upd (upd H13 rt (.dT [])) x (.ins C dx (putF "row_table" (.ref rt) [("ask_table", .ref pa), ("signal_table", .ref ps), ("input_words", iv), ("row_list", .ref p), ("label_names", .ref l0), ("slot_names", .ref l1), ("gate_names", .ref l2)]))) := (Same.but (Same.new hrt)).upd
            have x14 : upd (upd H13 rt (.dT [])) x (.ins C dx (putF "row_table" (.ref rt) [("ask_table", .ref pa), ("signal_table", .ref ps), ("input_words", iv), ("row_list", .ref p), ("label_names", .ref l0), ("slot_names", .ref l1), ("gate_names", .ref l2)])) x = some (.ins C dx [("ask_table", .ref pa), ("signal_table", .ref ps), ("input_words", iv), ("row_list", .ref p), ("label_names", .ref l0), ("slot_names", .ref l1), ("gate_names", .ref l2), ("row_table", .ref rt)]) := upd_same
            have ert : upd (upd H13 rt (.dT [])) x (.ins C dx (putF "row_table" (.ref rt) [("ask_table", .ref pa), ("signal_table", .ref ps), ("input_words", iv), ("row_list", .ref p), ("label_names", .ref l0), ("slot_names", .ref l1), ("gate_names", .ref l2)])) rt = some (.dT []) := by rw [upd_ne nrt]; exact upd_same
            revert c13 x14 ert
            generalize upd (upd H13 rt (.dT [])) x (.ins C dx _) = H14
            intro c13 x14 ert
            intro lz hlz
            refine ⟨_, rfl, x, C, dx, _, rfl, Same.new hlz _ _ x14, pc.cls, pc.n9, (by show 8 < 1000; decide), ?_⟩
            have nlz : lz ≠ x := fun e => by rw [e, x14] at hlz; cases hlz
            have c14 : But x H14 (upd (upd H14 lz (.dT [])) x (.ins C dx (putF "list_sizes" (.ref lz) [("ask_table", .ref pa), ("signal_table", .ref ps), ("input_words", iv), ("row_list", .ref p), ("label_names", .ref l0), ("slot_names", .ref l1), ("gate_names", .ref l2), ("row_table", .ref rt)]))) := (Same.but (Same.new hlz)).upd
            have x15 : upd (upd H14 lz (.dT [])) x (.ins C dx (putF "list_sizes" (.ref lz) [("ask_table", .ref pa), ("signal_table", .ref ps), ("input_words", iv), ("row_list", .ref p), ("label_names", .ref l0), ("slot_names", .ref l1), ("gate_names", .ref l2), ("row_table", .ref rt)])) x = some (.ins C dx [("ask_table", .ref pa), ("signal_table", .ref ps), ("input_words", iv), ("row_list", .ref p), ("label_names", .ref l0), ("slot_names", .ref l1), ("gate_names", .ref l2), ("row_table", .ref rt), ("list_sizes", .ref lz)]) := upd_same
            have elz : upd (upd H14 lz (.dT [])) x (.ins C dx (putF "list_sizes" (.ref lz) [("ask_table", .ref pa), ("signal_table", .ref ps), ("input_words", iv), ("row_list", .ref p), ("label_names", .ref l0), ("slot_names", .ref l1), ("gate_names", .ref l2), ("row_table", .ref rt)])) lz = some (.dT []) := by rw [upd_ne nlz]; exact upd_same
            revert c14 x15 elz
            generalize upd (upd H14 lz (.dT [])) x (.ins C dx _) = H15
            intro c14 x15 elz
            refine ⟨_, rfl, x, dx, _, rfl, x15, rfl, _, rfl, x, C, dx, _, _, rfl, x15, pc.cls, pc.n4, rfl, sz_lit (by show 0 ≤ 100000; decide), fun e0 he0 => ?_⟩
            have s15 := Same.new (o := .tup []) he0
            have l15 := at_new (o := .tup []) he0
            revert s15 l15
            generalize upd H15 e0 _ = H16
            intro s15 l15
            have b14 : But x H9 H14 := b13.trans c13
            have b15 : But x H9 H15 := b14.trans c14
            have b16 : But x H9 H16 := b15.trans (Same.but s15)
            have bH : But x H H16 := (b8.trans (Same.but s9)).trans b16
            have lst16 : ∀ b, LstAt H b → LstAt H16 b := fun b hb => by
              obtain ⟨zs, hz⟩ := hb
              exact ⟨zs, bH b _ hz fun e => by rw [e, hx] at hz; cases hz⟩
            have nS : ∀ b, b ≠ x → ∀ G, But x H G → G b = none → ¬ LstAt H b := fun b hb G hG hn hl => by
              obtain ⟨zs, hz⟩ := hl
              rw [hG b _ hz hb] at hn
              cases hn
            have nxS : ¬ LstAt H x := fun hl => by obtain ⟨zs, hz⟩ := hl; rw [hx] at hz; cases hz
            have b9H : But x H H9 := b8.trans (Same.but s9)
            have npS : ¬ LstAt H p := nS p npx H8 b8 hp
            have nrtS : ¬ LstAt H rt := nS rt nrt H13 (b9H.trans b13) hrt
            have nlzS : ¬ LstAt H lz := nS lz nlz H14 (b9H.trans b14) hlz
            have nl0S : ¬ LstAt H l0 := nS l0 nl0 H10 (b9H.trans b10) free0
            have nl1S : ¬ LstAt H l1 := nS l1 nl1 H11 (b9H.trans b11) free1
            have nl2S : ¬ LstAt H l2 := nS l2 nl2 H12 (b9H.trans b12) free2
            have kp16 : Kp H9 H16 := b16.kp x9
            have hdp16 : DpAll K (cutH (LstAt H) H16) xs ds := by
              refine DpAll.kp (cut_kpS kp16) (DpAll.mono (cut_sub fun b hb => ?_) hdp)
              obtain ⟨zs, hz⟩ := hb
              exact .inl ⟨zs, b8 b _ hz fun e => by rw [e, hx] at hz; cases hz⟩
            have row16 : Dp K (cutH (LstAt H) H16) (.ref p) (.list ds) := .lst (.inl (.inl (by rw [cut_not npS]; exact b16 _ _ hp9 npx))) hdp16
            have nrl : rt ≠ lz := fun e => by rw [← e, ert] at hlz; cases hlz
            have tb16 : TB K (cutH (LstAt H) H16) ⟨x, C, dx, rt, lz, [("ask_table", .ref pa), ("signal_table", .ref ps), ("input_words", iv), ("row_list", .ref p), ("label_names", .ref l0), ("slot_names", .ref l1), ("gate_names", .ref l2), ("row_table", .ref rt), ("list_sizes", .ref lz)]⟩ ([], []) := ⟨by rw [cut_not nxS]; exact s15 _ _ x15, rfl, rfl, rfl, ⟨[], by rw [cut_not nrtS]; exact s15 _ _ (c14 _ _ ert nrt), trivial⟩, by rw [cut_not nlzS]; exact s15 _ _ elz, nrl⟩
            refine ⟨LstAt H, ⟨x, C, dx, rt, lz, [("ask_table", .ref pa), ("signal_table", .ref ps), ("input_words", iv), ("row_list", .ref p), ("label_names", .ref l0), ("slot_names", .ref l1), ("gate_names", .ref l2), ("row_table", .ref rt), ("list_sizes", .ref lz)]⟩, ([], []), p, e0, ds, [], 0, rfl, rfl, tb16, row16, hrok, l15, by decide, ⟨Nat.le_refl _, Nat.le_refl _⟩, by omega, fun H17 fr17 tb17 => ?_⟩
            have kp17 : Kp H16 H17 := (tb16.mono cut_all).kp fr17
            have at17 : ∀ b o, H16 b = some o → b ≠ rt → b ≠ lz → H17 b = some o := fun b o hb h1 h2 => fr17 b o hb fun m => by
              rcases List.mem_cons.mp m with e | m
              · exact h1 e
              · exact h2 (List.mem_singleton.mp m)
            have bH17 : But x H H17 := fun b o hb hn => at17 b o (bH b o hb hn) (fun e => by rw [e] at hb; have := (b9H.trans b13) rt o hb nrt; rw [this] at hrt; cases hrt) (fun e => by rw [e] at hb; have := (b9H.trans b14) lz o hb nlz; rw [this] at hlz; cases hlz)
            have lst17 : ∀ b, LstAt H b → LstAt H17 b := fun b hb => by
              obtain ⟨zs, hz⟩ := hb
              exact ⟨zs, bH17 b _ hz fun e => by rw [e, hx] at hz; cases hz⟩
            have s59 : Same H5 H9 := s8.trans s9
            have pa9 := s59 _ _ pa5
            have ps9 := s59 _ _ ps5
            have nrta : pa ≠ rt := fun e => by have := b13 _ _ pa9 nxa; rw [e, hrt] at this; cases this
            have nlza : pa ≠ lz := fun e => by have := b14 _ _ pa9 nxa; rw [e, hlz] at this; cases this
            have nrts : ps ≠ rt := fun e => by have := b13 _ _ ps9 nxs; rw [e, hrt] at this; cases this
            have nlzs : ps ≠ lz := fun e => by have := b14 _ _ ps9 nxs; rw [e, hlz] at this; cases this
            have pa17 : H17 pa = some (.dK wsa) := at17 _ _ (b16 _ _ pa9 nxa) nrta nlza
            have ps17 : H17 ps = some (.dK wss) := at17 _ _ (b16 _ _ ps9 nxs) nrts nlzs
            have dS : ∀ b kv, H17 b = some (.dK kv) → ¬ LstAt H b := fun b kv hb hl => by
              obtain ⟨zs, hz⟩ := lst17 b hl
              rw [hb] at hz
              cases hz
            have k517 : Kp H5 H17 := (s59.kp.trans kp16).trans kp17
            have k117 : Kp H1 H17 := fun b o hb ho => by
              have hbx : b ≠ x := fun e => by rw [e, s1 _ _ hx] at hb; cases hb; cases ho
              exact k517 b o (b25 b o (b12' b o hb hbx) hbx) ho
            have k317 : Kp H3 H17 := fun b o hb ho => by
              have hbx : b ≠ x := fun e => by rw [e, s3 _ _ x2] at hb; cases hb; cases ho
              exact k517 b o (b35 b o hb hbx) ho
            have noA : ∀ q ∈ kva, noL q.2 = true := fun q hq => noL_words (okTab_mem hka q (pma.mem_iff.mp hq))
            have noB : ∀ q ∈ kvs, noL q.2 = true := fun q hq => noL_box (okTab_mem hks q (pms.mem_iff.mp hq))
            refine k1 ka ks ds c hka hks hi rfl hc H17 ⟨x, C, dx, pa, ps, p, l0, l1, l2, rt, lz, iv⟩ kva kvs y0 y1 y2 bH17 rfl rfl pma srta pms srts perm0 sort0 perm1 sort1 perm2 sort2 ?_
            refine ⟨by rw [cut_not nxS]; exact at17 _ _ (s15 _ _ x15) nrt.symm nlz.symm, ⟨wsa, by rw [cut_not (dS _ _ pa17)]; exact pa17, (hra.mono k117).cutN lst17 noA⟩, ⟨wss, by rw [cut_not (dS _ _ ps17)]; exact ps17, (hrs.mono k317).cutN lst17 noB⟩, noL_cut lst17 (hiv.kp (bH17.kp hx)) (noL_words hi), ?_, ?_, ?_, ?_, tb17⟩
            · exact row16.kp (cut_kpS kp17)
            · show cutH (LstAt H) H17 l0 = _
              rw [cut_not nl0S]
              exact kp17 _ _ (s15 _ _ (c14 _ _ (c13 _ _ (c12 _ _ (c11 _ _ fl0 nl0) nl0) nl0) nl0)) rfl
            · show cutH (LstAt H) H17 l1 = _
              rw [cut_not nl1S]
              exact kp17 _ _ (s15 _ _ (c14 _ _ (c13 _ _ (c12 _ _ fl1 nl1) nl1) nl1)) rfl
            · show cutH (LstAt H) H17 l2 = _
              rw [cut_not nl2S]
              exact kp17 _ _ (s15 _ _ (c14 _ _ (c13 _ _ fl2 nl2) nl2)) rfl
          · refine k2 part path he H8 d (fun b o hb hn => ?_) hxp
            have hbx : b ≠ x := fun e => hn (by rw [e]; exact List.mem_cons_self)
            have h5 := b5 b o hb hbx
            exact f8 b o (but57 b o h5) (outL b o h5)
        · simp only [hi, if_false, Bool.false_eq_true] at k2
          exact k2 _ _ rfl H5 d (fun b o hb hn => s5 b o (b4 b o hb fun e => hn (by rw [e]; exact List.mem_cons_self))) hxp
      · rw [hn] at k2
        exact k2 _ _ rfl H3 d (fun b o hb hn => f3 b o (b2 b o hb fun e => hn (by rw [e]; exact List.mem_cons_self)) fun m => hn (List.mem_cons_of_mem _ (List.mem_append_right _ m))) hxp
    · rw [hn] at k2
      exact k2 _ _ rfl H1 d (fun b o hb hn => f1 b o hb fun m => hn (List.mem_cons_of_mem _ (List.mem_append_left _ m))) hxp
end
end Op
namespace Op
open PySem L2 PyProof.Rows
/-! ### the bag -/
def bag (l : Addr) (a r sd m : Int) : HO := .dK [((.inr "cells" : Key), .ref l), (.inr "at", .int a), (.inr "rest", .int r), (.inr "seed", .int sd), (.inr "many", .int m)]
theorem mk_bag (l : Addr) (a r sd m : Int) : mergeK [] [((.inr "cells" : Key), V.ref l), (.inr "at", .int a), (.inr "rest", .int r), (.inr "seed", .int sd), (.inr "many", .int m)] = [((.inr "cells" : Key), .ref l), (.inr "at", .int a), (.inr "rest", .int r), (.inr "seed", .int sd), (.inr "many", .int m)] := by
  first | rfl | kernel_rfl
theorem put_at (l : Addr) (a r sd m a' : Int) : putK [((.inr "cells" : Key), V.ref l), (.inr "at", .int a), (.inr "rest", .int r), (.inr "seed", .int sd), (.inr "many", .int m)] (.inr "at") (.int a') = [((.inr "cells" : Key), .ref l), (.inr "at", .int a'), (.inr "rest", .int r), (.inr "seed", .int sd), (.inr "many", .int m)] := by
  first | rfl | kernel_rfl
theorem put_rest (l : Addr) (a r sd m a' : Int) : putK [((.inr "cells" : Key), V.ref l), (.inr "at", .int a), (.inr "rest", .int r), (.inr "seed", .int sd), (.inr "many", .int m)] (.inr "rest") (.int a') = [((.inr "cells" : Key), .ref l), (.inr "at", .int a), (.inr "rest", .int a'), (.inr "seed", .int sd), (.inr "many", .int m)] := by
  first | rfl | kernel_rfl
theorem put_seed (l : Addr) (a r sd m a' : Int) : putK [((.inr "cells" : Key), V.ref l), (.inr "at", .int a), (.inr "rest", .int r), (.inr "seed", .int sd), (.inr "many", .int m)] (.inr "seed") (.int a') = [((.inr "cells" : Key), .ref l), (.inr "at", .int a), (.inr "rest", .int r), (.inr "seed", .int a'), (.inr "many", .int m)] := by
  first | rfl | kernel_rfl
theorem put_many (l : Addr) (a r sd m a' : Int) : putK [((.inr "cells" : Key), V.ref l), (.inr "at", .int a), (.inr "rest", .int r), (.inr "seed", .int sd), (.inr "many", .int m)] (.inr "many") (.int a') = [((.inr "cells" : Key), .ref l), (.inr "at", .int a), (.inr "rest", .int r), (.inr "seed", .int sd), (.inr "many", .int a')] := by
  first | rfl | kernel_rfl
section
variable {H : Hp} {p l : Addr} {a r sd m : Int}
theorem get_cells (h : H p = some (bag l a r sd m)) : DGet H p (.str "cells") (some (.ref l)) := DGet.k (k := (.inr "cells" : Key)) h
theorem get_at (h : H p = some (bag l a r sd m)) : DGet H p (.str "at") (some (.int a)) := DGet.k (k := (.inr "at" : Key)) h
theorem get_rest (h : H p = some (bag l a r sd m)) : DGet H p (.str "rest") (some (.int r)) := DGet.k (k := (.inr "rest" : Key)) h
theorem get_seed (h : H p = some (bag l a r sd m)) : DGet H p (.str "seed") (some (.int sd)) := DGet.k (k := (.inr "seed" : Key)) h
theorem get_many (h : H p = some (bag l a r sd m)) : DGet H p (.str "many") (some (.int m)) := DGet.k (k := (.inr "many" : Key)) h
theorem dput_at (h : H p = some (bag l a r sd m)) (c : Int) : DPut H p (.str "at") (.int c) (upd H p (bag l c r sd m)) := by
  have z := DPut.k (k := (.inr "at" : Key)) (v := .int c) h (by show 5 < sizeLine; rw [sizeLine_eq]; decide)
  rw [put_at] at z
  exact z
theorem dput_rest (h : H p = some (bag l a r sd m)) (c : Int) : DPut H p (.str "rest") (.int c) (upd H p (bag l a c sd m)) := by
  have z := DPut.k (k := (.inr "rest" : Key)) (v := .int c) h (by show 5 < sizeLine; rw [sizeLine_eq]; decide)
  rw [put_rest] at z
  exact z
theorem dput_seed (h : H p = some (bag l a r sd m)) (c : Int) : DPut H p (.str "seed") (.int c) (upd H p (bag l a r c m)) := by
  have z := DPut.k (k := (.inr "seed" : Key)) (v := .int c) h (by show 5 < sizeLine; rw [sizeLine_eq]; decide)
  rw [put_seed] at z
  exact z
theorem dput_many (h : H p = some (bag l a r sd m)) (c : Int) : DPut H p (.str "many") (.int c) (upd H p (bag l a r sd c)) := by
  have z := DPut.k (k := (.inr "many" : Key)) (v := .int c) h (by show 5 < sizeLine; rw [sizeLine_eq]; decide)
  rw [put_many] at z
  exact z
end
theorem fmod_lt {a m : Int} (h : 0 < m) : 0 ≤ a.fmod m ∧ a.fmod m < m := ⟨Int.fmod_nonneg_of_pos _ h, Int.fmod_lt_of_pos _ h⟩
/-- the bag stands at p -/
def Pl (H : Hp) (p l : Addr) : Prop := ∃ a r sd m, ∃ ns : List Int, H p = some (bag l a r sd m) ∧ H l = some (.lst (ns.map V.int)) ∧ 0 ≤ a ∧ 0 ≤ r
section
variable {K : PySem.W.Frag} {H H' : Hp} {p c : Addr}
theorem Pl.at (h : Pl H p c) : ∃ kvs, H p = some (.dK kvs) := let ⟨_, _, _, _, _, h, _⟩ := h; ⟨_, h⟩
theorem Pl.cells (h : Pl H p c) : ∃ xs, H c = some (.lst xs) := let ⟨_, _, _, _, _, _, h, _⟩ := h; ⟨_, h⟩
theorem Pl.kp (h : Pl H p c) (b : But p H H') : Kp H H' := fun c o hc ho => b c o hc fun e => by
  obtain ⟨_, h⟩ := h.at
  rw [e, h] at hc
  cases hc
  cases ho
theorem Pl.mono (h : Pl H p c) (s : Same H H') : Pl H' p c := let ⟨a, r, sd, m, ns, h1, h2, h3, h4⟩ := h; ⟨a, r, sd, m, ns, s _ _ h1, s _ _ h2, h3, h4⟩
theorem Pl.put {D : Addr} {o : HO} (h : Pl H p c) (h1 : D ≠ p) (h2 : D ≠ c) : Pl (upd H D o) p c := let ⟨a, r, sd, m, ns, g1, g2, g3, g4⟩ := h; ⟨a, r, sd, m, ns, by rw [L2.upd_ne h1.symm]; exact g1, by rw [L2.upd_ne h2.symm]; exact g2, g3, g4⟩
/-- what was free while the bag stood is not of the bag -/
theorem Pl.new {D : Addr} (h : Pl H p c) (hD : H D = none) : D ≠ p ∧ D ≠ c := by
  refine ⟨fun e => ?_, fun e => ?_⟩
  · obtain ⟨_, g⟩ := h.at
    rw [e, g] at hD
    cases hD
  · obtain ⟨_, g⟩ := h.cells
    rw [e, g] at hD
    cases hD
end
theorem lt64b {a : Int} : -(2 ^ 64) < a.fmod 2147483647 ∧ a.fmod 2147483647 < 2 ^ 64 := by
  have := fmod_lt (a := a) (m := 2147483647) (by decide)
  omega
def spBag (K : PySem.W.Frag) : Sp := fun vs H Q _ => ∃ (a : Addr) (ns : List Int), vs = [.ref a] ∧ SqL K H a (ns.map V.int) ∧ ns.length ≤ 63 ∧
  ∀ (p c : Addr) H', H p = none → Same H H' → Pl H' p c → Q (.ref p) H'
def spD : Sp := fun vs H Q _ => ∃ (p l : Addr) (m : Int), vs = [.ref p, .int m] ∧ Pl H p l ∧ m < 1073741824 ∧ ∀ (r : Int) H', 0 ≤ r → (r < m ∨ m < 2 ∧ r = 0) → But p H H' → Pl H' p l → Q (.int r) H'
section
variable {P : Program} {w : World} {K : PySem.W.Frag} {mg : Str → Option Value} {base : Heap}
theorem sc__law_bag : FnScope ["_law_script", "_law_cell"] ["_law_script"] (defScope s__law_bag) := ⟨rfl, rfl, rfl, by decide +kernel, rfl, by decide +kernel, by decide +kernel⟩
theorem ok_bag {f : Addr} {fd : FuncData} (F : Fun K "_law_bag" "_law_bag" s__law_bag f fd) (T : Txt mg) : FnOk P w K mg base CX0 1 f fd ["_law_script"] (spBag K) := by
  refine F.ok sc__law_bag (fun vs H Q E h => ?_) (fun cdv A outer s H vs Q E hr h => ?_)
  · obtain ⟨a, ns, rfl, _⟩ := h
    rfl
  · obtain ⟨a, ns, rfl, hS, hlen, k⟩ := h
    refine ⟨_, (pss_one (ps_ret (pe_disp (pps_cons pe_str (pe_lc (own := [("_law_cell", 1)]) (g := gName 1) (tt := tYes) rfl sc__law_bag.nd (pi_list (pe_slice sl_list (pv 0) po_none (po_some pe_int))) (blkOk_by (own := [("_law_cell", 1)]) (N := ["_law_script", "_law_cell"]) (sc := defScope s__law_bag) (by decide +kernel)) (fun _ _ _ _ _ => (pg_name (i := 1) sc__law_bag.nd rfl (.inl rfl))) (fun _ _ _ _ _ => pts_nil) (fun _ _ _ _ _ => (pe_callTy call_int1 (by rfl) T.b_int (by decide +kernel) (pa_cons (pv 1) pa_nil)))) (pps_cons pe_str pe_int (pps_cons pe_str pe_int (pps_cons pe_str pe_int (pps_cons pe_str pe_int pps_nil))))) (by rfl) (by rfl) (fun z => by cases z) (by decide)))), ?_⟩
    intro p hp
    have s1 : Same H (upd H p (.dK [])) := Same.new hp
    have p1 : upd H p (.dK []) p = some (.dK []) := upd_same
    revert s1 p1
    generalize upd H p (.dK []) = H1
    intro s1 p1
    obtain ⟨ms, hms⟩ : ∃ ms : List Int, cutV (ns.map V.int) none (some 63) = ms.map V.int := by
      unfold cutV
      exact ⟨_, by rw [← List.map_drop, ← List.map_take]⟩
    have hml : ms.length ≤ 63 := by
      have := cutV_length (ns.map V.int) none (some 63)
      rw [hms, List.length_map, List.length_map] at this
      omega
    refine ⟨_, rfl, 63, rfl, a, _, rfl, hS.mono s1, fun q hq => ?_⟩
    rw [hms]
    have s2 := s1.trans (Same.new (o := .lst (ms.map V.int)) hq)
    have s12 := Same.new (o := .lst (ms.map V.int)) hq
    have q2 := at_new (o := .lst (ms.map V.int)) hq
    revert s2 q2 s12
    generalize upd H1 q _ = H2
    intro s2 s12 q2
    refine ⟨q, rfl, ⟨_, .inl (.inl q2)⟩, fun D hD => ?_⟩
    refine lc_it (walk_list (xs := ms.map V.int)) (fun i H' => H' D = some (.lst ((ms.take i).map V.int)) ∧ Same H2 H') ⟨upd_same, Same.new hD⟩ (fun i H' _ q => .inl (.inl (q.2 _ _ q2))) ?_ ?_
    · rintro i x H5 H4 hi ⟨hD4, s4⟩ ⟨rfl, hx⟩
      have hi' : i < ms.length := by rw [List.length_map] at hi; exact hi
      have hmi : ms[i]? = some ms[i] := List.getElem?_eq_getElem hi'
      obtain rfl : x = .int ms[i] := by
        rw [List.getElem?_map, hmi] at hx
        exact (Option.some.inj hx).symm
      refine ⟨rfl, _, rfl, .inl ⟨_, rfl, _, hD4, lt_sz (by rw [List.length_map, List.length_take]; omega), ?_, fun b o hb => ?_⟩⟩
      · rw [upd_same, TS.take_one hmi, List.map_append]
        rfl
      · rw [L2.upd_ne (ne_of_none hb hD)]
        exact s4 b o hb
    · rintro H4 ⟨hD4, s4⟩
      rw [List.length_map, List.take_length] at hD4
      have s14 := s12.trans s4
      refine ⟨s14 _ _ p1, [((.inr "cells" : Key), V.ref D), (.inr "at", .int 0), (.inr "rest", .int 0), (.inr "seed", .int 1), (.inr "many", .int 0)], rfl, (by show 5 ≤ 15; decide), ?_⟩
      have hDp : D ≠ p := fun e => by rw [e, s12 _ _ p1] at hD; cases hD
      have e1 := mk_bag D 0 0 1 0
      refine k p D _ hp (fun b o hb => ?_) ⟨0, 0, 1, 0, ms, by rw [upd_same]; exact congrArg (fun l => some (HO.dK l)) e1, by rw [L2.upd_ne hDp]; exact hD4, by decide, by decide⟩
      rw [L2.upd_ne (ne_of_none hb hp)]
      exact s14 _ _ (s1 _ _ hb)
theorem sc__law_draw : FnScope ["_law_bag_here", "_law_many", "_law_cell", "_law_value", "_law_number"] ["_law_bag_here", "_law_many"] (defScope s__law_draw) := ⟨rfl, rfl, rfl, by decide +kernel, rfl, by decide +kernel, by decide +kernel⟩
theorem ok_draw {f : Addr} {fd : FuncData} (F : Fun K "_law_draw" "_law_draw" s__law_draw f fd) (T : Txt mg) : FnOk P w K mg base CX0 1 f fd ["_law_bag_here", "_law_many"] spD := by
  refine F.ok sc__law_draw (fun vs H Q E h => ?_) (fun cdv A outer s H vs Q E hr h => ?_)
  · obtain ⟨p, l, m, rfl, _⟩ := h
    rfl
  · obtain ⟨p, l, m, rfl, ⟨a, r, sd, c, ns, hp, hl, ha, hr0⟩, h2, k⟩ := h
    have hu := hu_of hr
    refine ⟨_, (pss_cons (ps_if (pt_cmpR op_lt (pv 1) pe_int (nomark _)) (pss_one (ps_ret pe_int)) pss_nil)
      (pss_cons (ps_dput hu (pv 0) pe_str (pe_op op_add (pe_dget hu (pv 0) pe_str (fun _ _ => rfl)) pe_int) rfl)
      (Evl.pss_cut (ps_if (PW.pt (pw_and (pt_cmpR op_eq (pe_dget hu (pv 0) pe_str (fun _ _ => rfl)) pe_int (nomark _)) (pw_and1 (pt_cmpR op_lt (pe_dget hu (pv 0) pe_str (fun _ _ => rfl)) (pe_callB call_len_seq (by rfl) T.b_len (by decide +kernel) (pa_cons (pe_dget hu (pv 0) pe_str (fun _ _ => rfl)) pa_nil)) (nomark _))))) (pss_cons (ps_set (i := 2) sc__law_draw.nd rfl (.inl rfl) (pe_ix ix_list (pe_dget hu (pv 0) pe_str (fun _ _ => rfl)) (pe_dget hu (pv 0) pe_str (fun _ _ => rfl)) (fun _ _ => rfl)))
      (pss_cons (ps_dput hu (pv 0) pe_str (pe_op op_add (pe_dget hu (pv 0) pe_str (fun _ _ => rfl)) pe_int) rfl)
      (pss_one (ps_if (pt_cmpR op_ge (pv 2) (pe_op op_pow pe_int pe_int) (nomark _)) (pss_one (ps_dput hu (pv 0) pe_str (pv 2) rfl)) (pss_one (ps_dput hu (pv 0) pe_str (pe_op op_modN (pe_callTy call_int1 (by rfl) T.b_int (by decide +kernel) (pa_cons (pe_op op_add (pe_op op_add (pe_op op_mul (pe_dget hu (pv 0) pe_str (fun _ _ => rfl)) pe_int) (pe_op op_modN (pe_callTy call_int1 (by rfl) T.b_int (by decide +kernel) (pa_cons (pv 2) pa_nil)) pe_int)) pe_int) pa_nil)) pe_int) rfl)))))) pss_nil)
      (pss_cons (ps_if (pt_cmpR op_gt (pe_dget hu (pv 0) pe_str (fun _ _ => rfl)) pe_int (nomark _)) (pss_cons (ps_set (i := 3) sc__law_draw.nd rfl (.inl rfl) (pe_op op_modN (pe_callTy call_int1 (by rfl) T.b_int (by decide +kernel) (pa_cons (pe_dget hu (pv 0) pe_str (fun _ _ => rfl)) pa_nil)) (pv 1)))
      (pss_cons (ps_dput hu (pv 0) pe_str (pe_op op_fdivN (pe_dget hu (pv 0) pe_str (fun _ _ => rfl)) (pv 1)) rfl)
      (pss_one (ps_ret (pv 3))))) pss_nil)
      (pss_cons (ps_set (i := 4) sc__law_draw.nd rfl (.inl rfl) (pe_op op_modN (pe_callTy call_int1 (by rfl) T.b_int (by decide +kernel) (pa_cons (pe_op op_mul (pe_op op_add (pe_op op_add (pe_dget hu (pv 0) pe_str (fun _ _ => rfl)) (pe_op op_mul pe_int (pe_dget hu (pv 0) pe_str (fun _ _ => rfl)))) pe_int) pe_int) pa_nil)) pe_int))
      (pss_cons (ps_set (i := 4) sc__law_draw.nd rfl (.inl rfl) (pe_op op_modN (pe_callTy call_int1 (by rfl) T.b_int (by decide +kernel) (pa_cons (pe_op op_mul (pv 4) (pe_op op_add (pe_op op_fdivN (pv 4) pe_int) pe_int)) pa_nil)) pe_int))
      (pss_one (ps_ret (pe_op op_modN (pe_op op_fdivN (pe_op op_modN (pe_callTy call_int1 (by rfl) T.b_int (by decide +kernel) (pa_cons (pe_op op_mul (pv 4) (pe_op op_add (pe_op op_fdivN (pv 4) pe_int) pe_int)) pa_nil)) pe_int) pe_int) (pv 1)))))))))), ?_⟩
    refine ⟨_, rfl, _, _, rfl, rfl, _, rfl, ?_⟩
    have pl0 : Pl H p l := ⟨a, r, sd, c, ns, hp, hl, ha, hr0⟩
    have nlp : l ≠ p := fun e => by rw [e, hp] at hl; cases hl
    by_cases e : m < 2
    · exact ifT (decide_eq_true e) (k 0 H (Int.le_refl _) (.inr ⟨e, rfl⟩) (fun _ _ h _ => h) pl0)
    refine ifF (decide_eq_false e) ?_
    refine ⟨_, rfl, p, _, rfl, get_many hp, _, _, rfl, rfl, _, rfl, p, _, rfl, dput_many hp _, ?_⟩
    have hp1 : upd H p (bag l a r sd (c + 1)) p = some (bag l a r sd (c + 1)) := upd_same
    have hl1 : upd H p (bag l a r sd (c + 1)) l = some (.lst (ns.map V.int)) := by rw [L2.upd_ne nlp]; exact hl
    have b1 : But p H (upd H p (bag l a r sd (c + 1))) := fun b o hb n => by rw [L2.upd_ne n]; exact hb
    revert hp1 hl1 b1
    generalize upd H p (bag l a r sd (c + 1)) = H1
    intro hp1 hl1 b1
    have upL : ∀ {G : Hp} {o : HO}, G l = some (.lst (ns.map V.int)) → upd G p o l = some (.lst (ns.map V.int)) := fun h => by rw [L2.upd_ne nlp]; exact h
    refine ⟨fun σ H' => ∃ y2 a r sd, σ = [some (.ref p), some (.int m), y2, none, none] ∧ H' p = some (bag l a r sd (c + 1)) ∧ H' l = some (.lst (ns.map V.int)) ∧ 0 ≤ a ∧ 0 ≤ r ∧ But p H H', ?_, ?_⟩
    · refine ⟨_, rfl, p, _, rfl, get_rest hp1, rfl, _, rfl, ?_⟩
      by_cases e0 : r = 0
      · refine ifT (decide_eq_true (congrArg V.int e0)) ?_
        refine ⟨_, rfl, p, _, rfl, get_at hp1, _, rfl, p, _, rfl, get_cells hp1, l, _, rfl, .inl (.inl (.inl hl1)), _, _, rfl, rfl, _, rfl, ?_⟩
        by_cases e1 : a < ((ns.map V.int).length : Int)
        · refine ifT (decide_eq_true e1) ?_
          obtain ⟨j, rfl⟩ := Int.eq_ofNat_of_zero_le ha
          have hj : j < ns.length := by rw [List.length_map] at e1; omega
          have hz : ns[j]? = some ns[j] := List.getElem?_eq_getElem hj
          refine ⟨_, rfl, p, _, rfl, get_cells hp1, _, rfl, p, _, rfl, get_at hp1, l, _, _, .int ns[j], rfl, rfl, .inl (.inl hl1), atI_nat (j := j) (by rw [List.getElem?_map, hz]; rfl), ?_⟩
          refine ⟨_, rfl, p, _, rfl, get_at hp1, _, _, rfl, rfl, _, rfl, p, _, rfl, dput_at hp1 _, ?_⟩
          have hp2 : upd H1 p (bag l ((j : Int) + 1) r sd (c + 1)) p = some (bag l ((j : Int) + 1) r sd (c + 1)) := upd_same
          have hl2 : upd H1 p (bag l ((j : Int) + 1) r sd (c + 1)) l = some (.lst (ns.map V.int)) := upL hl1
          have b2 : But p H (upd H1 p (bag l ((j : Int) + 1) r sd (c + 1))) := b1.upd
          revert hp2 hl2 b2
          generalize upd H1 p (bag l ((j : Int) + 1) r sd (c + 1)) = H2
          intro hp2 hl2 b2
          refine ⟨_, rfl, _, _, rfl, rfl, ⟨by decide, by decide, by decide⟩, _, _, rfl, rfl, _, rfl, ?_⟩
          by_cases e2 : (10 : Int) ^ (18 : Int).toNat ≤ ns[j]
          · refine ifT (decide_eq_true e2) ?_
            refine ⟨_, rfl, _, rfl, p, _, rfl, dput_rest hp2 _, _, _, _, _, rfl, upd_same, upL hl2, by omega, ?_, b2.upd⟩
            exact Int.le_trans (by decide) e2
          · refine ifF (decide_eq_false e2) ?_
            exact ⟨_, rfl, p, _, rfl, get_seed hp2, _, _, rfl, rfl, .inr ⟨by decide, by decide⟩, _, rfl, .inl ⟨_, rfl, _, _, rfl, rfl, (by show (2147483399 : Int) ≠ 0; decide), _, _, rfl, rfl, _, _, rfl, rfl, .inl ⟨_, rfl, _, _, rfl, rfl, (by show (2147483647 : Int) ≠ 0; decide), _, rfl, p, _, rfl, dput_seed hp2 _, _, _, _, _, rfl, upd_same, upL hl2, by omega, hr0, b2.upd⟩⟩⟩
        · exact ifF (decide_eq_false e1) ⟨_, _, _, _, rfl, hp1, hl1, ha, hr0, b1⟩
      · exact ifF (decide_eq_false fun z => e0 (V.int.inj z)) ⟨_, _, _, _, rfl, hp1, hl1, ha, hr0, b1⟩
    · rintro _ H2 ⟨y2, a, r, sd, rfl, hp2, hl2, ha2, hr2, b2⟩
      refine ⟨_, rfl, p, _, rfl, get_rest hp2, _, _, rfl, rfl, _, rfl, ?_⟩
      by_cases e3 : 0 < r
      · refine ifT (decide_eq_true e3) ?_
        refine ⟨_, rfl, p, _, rfl, get_rest hp2, .inl ⟨r, rfl, _, rfl, _, _, rfl, rfl, (by show m ≠ 0; omega), ?_⟩⟩
        refine ⟨_, rfl, p, _, rfl, get_rest hp2, _, rfl, _, _, rfl, rfl, ⟨(by omega), (by omega)⟩, _, rfl, p, _, rfl, dput_rest hp2 _, _, rfl, ?_⟩
        exact k _ _ (fmod_lt (by omega)).1 (.inl (fmod_lt (by omega)).2) b2.upd ⟨_, _, _, _, ns, upd_same, upL hl2, ha2, Int.fdiv_nonneg (by omega) (by omega)⟩
      · refine ifF (decide_eq_false e3) ?_
        refine ⟨_, rfl, p, _, rfl, get_seed hp2, _, rfl, p, _, rfl, get_many hp2, _, _, rfl, rfl, .inl ⟨by decide, by decide⟩, _, _, rfl, rfl, _, _, rfl, rfl, _, _, rfl, rfl, .inr ⟨by decide, by decide⟩, .inl ⟨_, rfl, _, _, rfl, rfl, (by show (2147483647 : Int) ≠ 0; decide), ?_⟩⟩
        refine ⟨_, rfl, _, rfl, _, _, rfl, rfl, ⟨by decide, by decide⟩, _, _, rfl, rfl, _, _, rfl, rfl, .inl lt64b, .inl ⟨_, rfl, _, _, rfl, rfl, (by show (2147483647 : Int) ≠ 0; decide), ?_⟩⟩
        refine ⟨_, rfl, _, rfl, _, _, rfl, rfl, ⟨by decide, by decide⟩, _, _, rfl, rfl, _, _, rfl, rfl, .inl lt64b, .inl ⟨_, rfl, _, _, rfl, rfl, (by show (2147483399 : Int) ≠ 0; decide), _, _, rfl, rfl, ⟨by decide, by decide⟩, _, rfl, _, _, rfl, rfl, (by show m ≠ 0; omega), ?_⟩⟩
        exact k _ _ (fmod_lt (by omega)).1 (.inl (fmod_lt (by omega)).2) b2 ⟨_, _, _, _, ns, hp2, hl2, ha2, hr2⟩
end
end Op
namespace Op
open PySem L2 PyProof.Rows
/-! ### drawn words -/
def wd (pre : List Nat) (c : Nat) : Str := ⟨(pre ++ [97 + c]).toArray⟩
def sh (pre : List Nat) (c j : Nat) : Str := wd pre ((c + j) % 26)
theorem wd_len (pre : List Nat) (c : Nat) : (wd pre c).length = pre.length + 1 := by
  show ((pre ++ [97 + c]).toArray).size = _
  rw [List.size_toArray, List.length_append]
  rfl
theorem letter_mem : ∀ x : Nat, 97 ≤ x → x < 123 → x ∈ letters.cps.toList := by
  have h : ∀ j : Nat, j < 26 → 97 + j ∈ letters.cps.toList := by decide +kernel
  intro x h1 h2
  have := h (x - 97) (by omega)
  rw [show 97 + (x - 97) = x by omega] at this
  exact this
theorem wd_word {pre : List Nat} {c : Nat} (h : ∀ x ∈ pre, 97 ≤ x ∧ x < 123) (hc : c < 26) (hl : pre.length + 1 ≤ 8) : isWordS (wd pre c) = true := by
  unfold isWordS
  rw [wd_len, decide_eq_true ⟨by omega, hl⟩, Bool.true_and]
  refine List.all_eq_true.mpr fun x hx => decide_eq_true ?_
  have hx : x ∈ pre ++ [97 + c] := by
    have : (wd pre c).cps.toList = pre ++ [97 + c] := List.toList_toArray
    rw [this] at hx
    exact hx
  rcases List.mem_append.mp hx with hx | hx
  · exact letter_mem x (h x hx).1 (h x hx).2
  · rw [List.mem_singleton.mp hx]
    exact letter_mem _ (by omega) (by omega)
theorem letter_at : ∀ j : Nat, j < 26 → letters.cps.toList[j]? = some (97 + j) := by decide +kernel
theorem find_letter : ∀ c : Nat, c < 26 → Txt.find letters ⟨#[97 + c]⟩ = (c : Int) := by decide +kernel
theorem wd_last (pre : List Nat) (c : Nat) : cutS (wd pre c) (some ((pre.length : Nat) : Int)) none = ⟨#[97 + c]⟩ := by
  unfold cutS
  rw [wd_len, HT.sIx_nat, HT.sIx_none, Nat.min_eq_left (by omega)]
  have : (wd pre c).cps.toList = pre ++ [97 + c] := List.toList_toArray
  rw [this, List.drop_left' rfl]
  rw [show pre.length + 1 - pre.length = 1 by omega]
  rfl
theorem wd_init (pre : List Nat) (c d : Nat) : cutS (wd pre c) none (some ((pre.length : Nat) : Int)) ++ (⟨#[97 + d]⟩ : Str) = wd pre d := by
  unfold cutS
  rw [wd_len, HT.sIx_nat, HT.sIx_none, Nat.min_eq_left (by omega)]
  have : (wd pre c).cps.toList = pre ++ [97 + c] := List.toList_toArray
  rw [this, List.drop_zero, Nat.sub_zero, List.take_left' rfl]
  show (⟨pre.toArray ++ #[97 + d]⟩ : Str) = ⟨(pre ++ [97 + d]).toArray⟩
  congr 1
  simp
theorem wd_inj {pre : List Nat} {c d : Nat} (h : wd pre c = wd pre d) : c = d := by
  have h1 : (wd pre c).cps.toList = (wd pre d).cps.toList := by rw [h]
  have e1 : (wd pre c).cps.toList = pre ++ [97 + c] := List.toList_toArray
  have e2 : (wd pre d).cps.toList = pre ++ [97 + d] := List.toList_toArray
  rw [e1, e2] at h1
  have := List.append_cancel_left h1
  injection this with h2
  omega
theorem sh_zero {pre : List Nat} {c : Nat} (h : c < 26) : sh pre c 0 = wd pre c := by
  unfold sh
  rw [Nat.add_zero, Nat.mod_eq_of_lt h]
theorem sh_next (pre : List Nat) (c j : Nat) : wd pre (((c + j) % 26 + 1) % 26) = sh pre c (j + 1) := by
  unfold sh
  congr 1
  omega
theorem nd_le : ∀ {l T : List Str}, l.Nodup → (∀ x ∈ l, x ∈ T) → l.length ≤ T.length
  | [], T, _, _ => Nat.zero_le _
  | x :: l, T, hn, hs => by
    rw [List.nodup_cons] at hn
    have hx : x ∈ T := hs x List.mem_cons_self
    have h1 := nd_le (l := l) (T := T.erase x) hn.2 fun y hy => by
      have hne : y ≠ x := fun e => hn.1 (e ▸ hy)
      exact (List.mem_erase_of_ne hne).mpr (hs y (List.mem_cons_of_mem _ hy))
    rw [List.length_erase_of_mem hx] at h1
    have : 0 < T.length := List.length_pos_of_mem hx
    rw [List.length_cons]
    omega
theorem sh_free {pre : List Nat} {c : Nat} {T : List Str} (h : ∀ j, j < 26 → sh pre c j ∈ T) : 26 ≤ T.length := by
  have h1 : ((List.range 26).map (sh pre c)).Nodup := by
    refine List.pairwise_map.mpr (List.Pairwise.imp_of_mem ?_ List.nodup_range)
    intro a b ha hb hne e
    have ha := List.mem_range.mp ha
    have hb := List.mem_range.mp hb
    have := wd_inj e
    omega
  have := nd_le h1 fun x hx => by
    obtain ⟨j, hj, rfl⟩ := List.mem_map.mp hx
    exact h j (List.mem_range.mp hj)
  rw [List.length_map, List.length_range] at this
  exact this
/-- how far the shifts are: j of them were taken -/
def ShI (pre : List Nat) (c : Nat) (T : List Str) (i : Nat) (z : Str) : Prop := ∃ j, j ≤ i ∧ z = sh pre c j ∧ (∀ k, k < j → sh pre c k ∈ T) ∧ (j < i → z ∉ T)
theorem ShI.start {pre : List Nat} {c : Nat} {T : List Str} (h : c < 26) : ShI pre c T 0 (wd pre c) := ⟨0, Nat.le_refl _, (sh_zero h).symm, fun k hk => absurd hk (Nat.not_lt_zero _), fun hk => absurd hk (Nat.lt_irrefl _)⟩
theorem ShI.stay {pre : List Nat} {c i : Nat} {T : List Str} {z : Str} (h : ShI pre c T i z) (hz : z ∉ T) : ShI pre c T (i + 1) z := by
  obtain ⟨j, h1, h2, h3, h4⟩ := h
  exact ⟨j, by omega, h2, h3, fun _ => hz⟩
theorem ShI.go {pre : List Nat} {c i : Nat} {T : List Str} {z : Str} (h : ShI pre c T i z) (hz : z ∈ T) : ∃ d, d < 26 ∧ z = wd pre d ∧ ShI pre c T (i + 1) (wd pre ((d + 1) % 26)) := by
  obtain ⟨j, h1, h2, h3, h4⟩ := h
  have hj : j = i := by
    rcases Nat.lt_or_ge j i with e | e
    · exact absurd hz (h4 e)
    · omega
  subst hj
  refine ⟨(c + j) % 26, Nat.mod_lt _ (by decide), h2, j + 1, by omega, sh_next pre c j, fun k hk => ?_, fun hk => absurd hk (Nat.lt_irrefl _)⟩
  rcases Nat.lt_or_ge k j with e | e
  · exact h3 k e
  · rw [show k = j by omega, ← h2]
    exact hz
theorem ShI.done {pre : List Nat} {c : Nat} {T : List Str} {z : Str} (h : ShI pre c T 26 z) (hT : T.length < 26) : z ∉ T ∧ ∃ d, d < 26 ∧ z = wd pre d := by
  obtain ⟨j, h1, h2, h3, h4⟩ := h
  refine ⟨?_, (c + j) % 26, Nat.mod_lt _ (by decide), h2⟩
  rcases Nat.lt_or_ge j 26 with e | e
  · exact h4 e
  · have := sh_free (pre := pre) (c := c) (T := T) fun k hk => h3 k (by omega)
    omega
theorem join_letters : ∀ cs : List Nat, Txt.join "" (cs.map fun c => (⟨#[c]⟩ : Str)) = ⟨cs.toArray⟩ := by
  intro cs
  rw [show Txt.join "" (cs.map fun c => (⟨#[c]⟩ : Str)) = Str.join "" (cs.map fun c => (⟨#[c]⟩ : Str)) from StrLaws.glued_eq_join _ _]
  induction cs with
  | nil => rfl
  | cons x r ih =>
    cases r with
    | nil => rfl
    | cons y r =>
      show (⟨#[x]⟩ : Str) ++ "" ++ Str.join "" ((y :: r).map fun c => (⟨#[c]⟩ : Str)) = _
      rw [ih]
      show (⟨#[x] ++ #[] ++ (y :: r).toArray⟩ : Str) = ⟨(x :: y :: r).toArray⟩
      congr 1
      simp
theorem split_last : ∀ {cs : List Nat}, 1 ≤ cs.length → (∀ x ∈ cs, 97 ≤ x ∧ x < 123) → ∃ pre c, (⟨cs.toArray⟩ : Str) = wd pre c ∧ c < 26 ∧ (∀ x ∈ pre, 97 ≤ x ∧ x < 123) ∧ pre.length + 1 = cs.length := by
  intro cs hl h
  have hne : cs ≠ [] := fun e => by rw [e] at hl; simp at hl
  have e := List.dropLast_concat_getLast hne
  have hg := h _ (List.getLast_mem hne)
  refine ⟨cs.dropLast, cs.getLast hne - 97, ?_, by omega, fun x hx => h x (List.dropLast_subset cs hx), ?_⟩
  · unfold wd
    rw [show 97 + (cs.getLast hne - 97) = cs.getLast hne by omega, e]
  · rw [List.length_dropLast]
    omega
end Op
namespace L2
theorem ix_or {X : Cx} {r1 r2 : R2} (h1 : IxR X r1) (h2 : IxR X r2) : IxR X (fun x y H Q => r1 x y H Q ∨ r2 x y H Q) := by
  intro value slice pins s σ H x y v u Q I rx ry h hs
  rcases h with h | h
  · exact h1 value slice pins s σ H x y v u Q I rx ry h hs
  · exact h2 value slice pins s σ H x y v u Q I rx ry h hs
end L2
namespace Op
open PySem L2 PyProof.Rows
theorem DpAll.at {K : PySem.W.Frag} {H : Hp} {vs : List V} {ds : List PyData} {i : Nat} {v : V} {d : PyData} (h : L2.DpAll K H vs ds) (hv : vs[i]? = some v) (hd : ds[i]? = some d) : Dp K H v d := by
  obtain ⟨d', h1, h2⟩ := h.get hv
  rw [hd] at h1
  cases h1
  exact h2
/-! ### the same data -/
def smK : Nat → PyData → Prop
  | 0, _ => False
  | n + 1, .tuple ds => ds.length ≤ 10000 ∧ ∀ d ∈ ds, smK n d
  | n + 1, .list ds => ds.length ≤ 10000 ∧ ∀ d ∈ ds, smK n d
  | n + 1, .none => True
  | n + 1, .bool _ => True
  | n + 1, .int _ => True
  | n + 1, .str s => s.length ≤ 100000
  | n + 1, .dict _ => False
def spSame (K : PySem.W.Frag) (n : Nat) : Sp := fun vs H Q _ => ∃ (v u : V) (d : PyData), vs = [v, u] ∧ Dp K H v d ∧ Dp K H u d ∧ smK n d ∧ ∀ H', Same H H' → Q (.bl true) H'
theorem kit_seq {K : PySem.W.Frag} (d : PyData) : PySem.W.kitAny K (.type (tyN d)) [.type "tuple", .type "list"] = some (isTup d || isList d) := by
  unfold PySem.W.kitAny
  rw [kit_tuple]
  cases h : isTup d with
  | true => rfl
  | false =>
    show PySem.W.kitAny K (.type (tyN d)) [.type "list"] = _
    unfold PySem.W.kitAny
    rw [kit_list]
    cases isList d <;> rfl
def isLf : PyData → Bool
  | .int _ => true
  | .bool _ => true
  | .str _ => true
  | _ => false
theorem kit_intstr {K : PySem.W.Frag} (d : PyData) (h : isLf d = true) : PySem.W.kitAny K (.type (tyN d)) [.type "int", .type "str"] = some true := by
  unfold PySem.W.kitAny
  rw [kit_int]
  cases d with
  | int _ => rfl
  | bool _ => rfl
  | str _ =>
    show PySem.W.kitAny K (.type "str") [.type "str"] = _
    unfold PySem.W.kitAny
    rw [kit_ty (show kitB "str" "str" = some true by decide +kernel)]
  | _ => cases h
section
variable {P : Program} {w : World} {K : PySem.W.Frag} {mg : Str → Option Value} {base : Heap}
theorem sc__law_same : FnScope ["_law_told", "_law_due", "_law_k"] ["_law_told", "_law_due"] (defScope s__law_same) := ⟨rfl, rfl, rfl, by decide +kernel, rfl, by decide +kernel, by decide +kernel⟩
theorem ok_same {f : Addr} {fd : FuncData} {n : Nat} (F : Fun K "_law_same" "_law_same" s__law_same f fd) (T : Txt mg) (c__law_same : Cal P w K mg base CX0 (n + 1) "_law_same" ["_law_told", "_law_due"] (spSame K n)) :
    FnOk P w K mg base CX0 (n + 2) f fd ["_law_told", "_law_due"] (spSame K (n + 1)) := by
  refine F.ok sc__law_same (fun vs H Q E h => ?_) (fun cdv A outer s H vs Q E hr h => ?_)
  · obtain ⟨v, u, d, rfl, _⟩ := h
    rfl
  · obtain ⟨v, u, d, rfl, hv, hu, hd, k⟩ := h
    refine ⟨_, (pss_cons (ps_if (pt_val (pe_callB call_isiT (by rfl) T.b_isinstance (by decide +kernel) (pa_cons (pv 1) (pa_cons (pe_tup (pa_cons (pe_bltn (v := .ty "tuple") (by rfl) T.b_tuple (by decide +kernel) rfl) (pa_cons (pe_bltn (v := .ty "list") (by rfl) T.b_list (by decide +kernel) rfl) pa_nil))) pa_nil)))) (pss_cons (ps_if (PW.pt (pw_or (pt_not (pt_val (pe_callB call_isiT (by rfl) T.b_isinstance (by decide +kernel) (pa_cons (pv 0) (pa_cons (pe_tup (pa_cons (pe_bltn (v := .ty "tuple") (by rfl) T.b_tuple (by decide +kernel) rfl) (pa_cons (pe_bltn (v := .ty "list") (by rfl) T.b_list (by decide +kernel) rfl) pa_nil))) pa_nil))))) (pw_or1 (pt_cmpR op_ne (pe_callB call_len_seq (by rfl) T.b_len (by decide +kernel) (pa_cons (pv 0) pa_nil)) (pe_callB call_len_seq (by rfl) T.b_len (by decide +kernel) (pa_cons (pv 1) pa_nil)) (nomark _))))) (pss_one (ps_ret pe_bl)) pss_nil)
      (pss_cons (ps_if (pt_cmpR op_ne (pe_callB call_isi (by rfl) T.b_isinstance (by decide +kernel) (pa_cons (pv 0) (pa_cons (pe_bltn (v := .ty "tuple") (by rfl) T.b_tuple (by decide +kernel) rfl) pa_nil))) (pe_callB call_isi (by rfl) T.b_isinstance (by decide +kernel) (pa_cons (pv 1) (pa_cons (pe_bltn (v := .ty "tuple") (by rfl) T.b_tuple (by decide +kernel) rfl) pa_nil))) (nomark _)) (pss_one (ps_ret pe_bl)) pss_nil)
      (pss_one (ps_ret (pe_cmpR op_notIn_seq pe_bl (pe_lc (own := [("_law_k", 2)]) (g := gName 2) (tt := tYes) rfl sc__law_same.nd (pi_range1 (by rfl) T.b_range (pa_cons (pe_callB call_len_seq (by rfl) T.b_len (by decide +kernel) (pa_cons (pv 1) pa_nil)) pa_nil)) (blkOk_by (own := [("_law_k", 2)]) (N := ["_law_told", "_law_due", "_law_k"]) (sc := defScope s__law_same) (by decide +kernel)) (fun _ _ _ _ _ => (pg_name (i := 2) sc__law_same.nd rfl (.inl rfl))) (fun _ _ _ _ _ => pts_nil) (fun _ _ _ _ _ => (pe_cal c__law_same (hr.mono (by omega)) rfl pass0 (pa_cons (pe_ix (ix_or (r1 := rIxL K) (r2 := rIxT K) ix_list ix_tup) (pv 0) (pv 2) (fun _ _ => rfl)) (pa_cons (pe_ix (ix_or (r1 := rIxL K) (r2 := rIxT K) ix_list ix_tup) (pv 1) (pv 2) (fun _ _ => rfl)) pa_nil))))) (by rfl)))))) pss_nil)
      (pss_cons (ps_if (PW.pt (pw_or (pt_cmpR op_isN (pv 1) pe_non (nomark _)) (pw_or1 (pt_cmpR op_isN (pv 0) pe_non (nomark _))))) (pss_one (ps_ret (pe_and (pe_cmpR op_isN (pv 1) pe_non (nomark _)) (pe_one (pe_cmpR op_isN (pv 0) pe_non (nomark _)))))) pss_nil)
      (pss_cons (ps_if (pt_cmpR op_ne (pe_callB call_isi (by rfl) T.b_isinstance (by decide +kernel) (pa_cons (pv 0) (pa_cons (pe_bltn (v := .ty "bool") (by rfl) T.b_bool (by decide +kernel) rfl) pa_nil))) (pe_callB call_isi (by rfl) T.b_isinstance (by decide +kernel) (pa_cons (pv 1) (pa_cons (pe_bltn (v := .ty "bool") (by rfl) T.b_bool (by decide +kernel) rfl) pa_nil))) (nomark _)) (pss_one (ps_ret pe_bl)) pss_nil)
      (pss_cons (ps_if (pt_cmpR op_ne (pe_callB call_isi (by rfl) T.b_isinstance (by decide +kernel) (pa_cons (pv 0) (pa_cons (pe_bltn (v := .ty "str") (by rfl) T.b_str (by decide +kernel) rfl) pa_nil))) (pe_callB call_isi (by rfl) T.b_isinstance (by decide +kernel) (pa_cons (pv 1) (pa_cons (pe_bltn (v := .ty "str") (by rfl) T.b_str (by decide +kernel) rfl) pa_nil))) (nomark _)) (pss_one (ps_ret pe_bl)) pss_nil)
      (pss_one (ps_ret (pe_and (pe_callB call_isiT (by rfl) T.b_isinstance (by decide +kernel) (pa_cons (pv 0) (pa_cons (pe_tup (pa_cons (pe_bltn (v := .ty "int") (by rfl) T.b_int (by decide +kernel) rfl) (pa_cons (pe_bltn (v := .ty "str") (by rfl) T.b_str (by decide +kernel) rfl) pa_nil))) pa_nil))) (pe_one (pe_cmpR op_eq (pv 0) (pv 1) (nomark _)))))))))), ?_⟩
    refine ⟨_, rfl, sz2 _ _, fun t1 g1 => ?_⟩
    have s1 := Same.new (o := .tup [.ty "tuple", .ty "list"]) g1
    have l1 := at_new (o := .tup [.ty "tuple", .ty "list"]) g1
    revert s1 l1
    generalize upd _ t1 _ = H1
    intro s1 l1
    have hv1 := hv.mono s1
    have hu1 := hu.mono s1
    refine ⟨_, t1, _, _, _, _, rfl, l1, .cons (.ty _) (.cons (.ty _) .nil), ty_dp hu1, kit_seq d, _, rfl, ?_⟩
    have seq : ∀ ds : List PyData, (d = .tuple ds ∨ d = .list ds) → ∀ G, Same H G → ∃ xs ys pv pu, v = .ref pv ∧ u = .ref pu ∧ (SqL K G pv xs ∨ SqT K G pv xs) ∧ (SqL K G pu ys ∨ SqT K G pu ys) ∧ DpAll K G xs ds ∧ DpAll K G ys ds := by
      rintro ds (rfl | rfl) G sG
      · cases hv.mono sG with
        | tup h1 h2 => cases hu.mono sG with
          | tup h3 h4 => exact ⟨_, _, _, _, rfl, rfl, .inr h1, .inr h3, h2, h4⟩
      · cases hv.mono sG with
        | lst h1 h2 => cases hu.mono sG with
          | lst h3 h4 => exact ⟨_, _, _, _, rfl, rfl, .inl h1, .inl h3, h2, h4⟩
    cases hseq : (isTup d || isList d) with
    | true =>
      refine ifT rfl ?_
      obtain ⟨ds, hds⟩ : ∃ ds, d = .tuple ds ∨ d = .list ds := by
        cases d with
        | tuple ds => exact ⟨ds, .inl rfl⟩
        | list ds => exact ⟨ds, .inr rfl⟩
        | _ => cases hseq
      have hsm : ds.length ≤ 10000 ∧ ∀ e ∈ ds, smK n e := by
        rcases hds with rfl | rfl <;> exact hd
      obtain ⟨xs, ys, pv', pu', rfl, rfl, _⟩ := seq ds hds H (Same.refl _)
      refine ⟨_, rfl, sz2 _ _, fun t2 g2 => ?_⟩
      have s2 := Same.new (o := .tup [.ty "tuple", .ty "list"]) g2
      have l2 := at_new (o := .tup [.ty "tuple", .ty "list"]) g2
      revert s2 l2
      generalize upd _ t2 _ = H2
      intro s2 l2
      have s02 := s1.trans s2
      have hv2 := hv.mono s02
      have hu2 := hu.mono s02
      obtain ⟨xs, ys, pv', pu', e1, e2, q1, q2, a1, a2⟩ := seq ds hds H2 s02
      cases e1
      cases e2
      refine ⟨_, t2, _, _, _, _, rfl, l2, .cons (.ty _) (.cons (.ty _) .nil), ty_dp hv2, kit_seq d, _, rfl, ?_⟩
      rw [hseq]
      have hl1 : xs.length = ds.length := a1.len
      have hl2 : ys.length = ds.length := a2.len
      refine ifF rfl ⟨_, rfl, _, _, rfl, q1, _, rfl, _, _, rfl, q2, rfl, _, rfl, ifF ?_ ?_⟩
      · rw [hl1, hl2]
        simp
      refine ⟨_, rfl, _, _, _, _, _, rfl, .ty _, ty_dp hv2, kit_tuple d, _, rfl, _, _, _, _, _, rfl, .ty _, ty_dp hu2, kit_tuple d, rfl, _, rfl, ifF ?_ ?_⟩
      · simp
      refine ⟨_, rfl, _, _, rfl, q2, (ys.length : Int), rfl, by omega, by omega, fun D hD => ?_⟩
      rw [Int.toNat_natCast]
      refine lc_it (walk_range (lo := 0) (n := ys.length)) (fun i H' => H' D = some (.lst (List.replicate i (.bl true))) ∧ Same H2 H') ⟨upd_same, Same.new hD⟩ (fun _ _ _ _ => trivial) ?_ ?_
      · rintro i x H5 H4 hi ⟨hD4, s4⟩ ⟨rfl, rfl⟩
        have hx : xs[i]? = some xs[i] := List.getElem?_eq_getElem (by omega)
        have hy : ys[i]? = some ys[i] := List.getElem?_eq_getElem hi
        have hdi : ds[i]? = some ds[i] := List.getElem?_eq_getElem (by omega)
        have zi : (0 : Int) + (i : Int) = i := by omega
        have at1 : atI xs (0 + (i : Int)) = some xs[i] := by rw [zi]; exact atI_nat hx
        have at2 : atI ys (0 + (i : Int)) = some ys[i] := by rw [zi]; exact atI_nat hy
        have fin : ∃ (v u : V) (d : PyData), [xs[i], ys[i]] = [v, u] ∧ Dp K H4 v d ∧ Dp K H4 u d ∧ smK n d ∧ ∀ H', Same H4 H' → ∃ acc, H' D = some (.lst acc) ∧ acc.length < sizeLine ∧ upd H' D (.lst (acc ++ [.bl true])) D = some (.lst (List.replicate (i + 1) (.bl true))) ∧ Same H2 (upd H' D (.lst (acc ++ [.bl true]))) := by
          refine ⟨_, _, ds[i], rfl, (DpAll.at a1 hx hdi).mono s4, (DpAll.at a2 hy hdi).mono s4, hsm.2 _ (List.mem_of_getElem? hdi), fun H' s' => ⟨_, s' _ _ hD4, lt_sz (by rw [List.length_replicate]; omega), ?_, fun b o hb => ?_⟩⟩
          · rw [upd_same, List.replicate_succ']
          · rw [L2.upd_ne (ne_of_none hb hD)]
            exact s' _ _ (s4 b o hb)
        refine ⟨rfl, _, rfl, _, rfl, ?_⟩
        rcases q1 with q1 | q1 <;> rcases q2 with q2 | q2
        · exact .inl ⟨_, _, _, _, rfl, rfl, q1.mono s4, at1, _, rfl, _, rfl, .inl ⟨_, _, _, _, rfl, rfl, q2.mono s4, at2, fin⟩⟩
        · exact .inl ⟨_, _, _, _, rfl, rfl, q1.mono s4, at1, _, rfl, _, rfl, .inr ⟨_, _, _, _, rfl, rfl, q2.mono s4, at2, fin⟩⟩
        · exact .inr ⟨_, _, _, _, rfl, rfl, q1.mono s4, at1, _, rfl, _, rfl, .inl ⟨_, _, _, _, rfl, rfl, q2.mono s4, at2, fin⟩⟩
        · exact .inr ⟨_, _, _, _, rfl, rfl, q1.mono s4, at1, _, rfl, _, rfl, .inr ⟨_, _, _, _, rfl, rfl, q2.mono s4, at2, fin⟩⟩
      · rintro H4 ⟨hD4, s4⟩
        refine ⟨D, _, rfl, .inl (.inl (.inl hD4)), rfl, ?_, ?_⟩
        · exact List.all_eq_true.mpr fun v hv => by rw [(List.mem_replicate.mp hv).2]; rfl
        · have : inV (.bl false) (List.replicate ys.length (.bl true)) = false := by
            unfold inV
            refine List.any_eq_false.mpr fun v hv => ?_
            rw [(List.mem_replicate.mp hv).2]
            decide
          rw [if_pos rfl, this]
          exact k H4 (s02.trans s4)
    | false =>
      refine ifF rfl ?_
      by_cases hnon : d = .none
      · subst hnon
        cases hv
        cases hu
        exact ⟨_, rfl, rfl, _, rfl, ifT rfl (ifT rfl ⟨_, rfl, rfl, _, rfl, ifT rfl ⟨_, rfl, rfl, k H1 s1⟩⟩)⟩
      · have leaf : isLf d = true := by
          cases d with
          | none => exact (hnon rfl).elim
          | bool b => exact rfl
          | int i => exact rfl
          | str z => exact rfl
          | tuple ds => cases hseq
          | list ds => cases hseq
          | dict ds => exact hd.elim
        have f1 := leaf
        have nv : decide (v = .non) = false := decide_eq_false fun e => by
          subst e
          cases hv
          exact hnon rfl
        have nu : decide (u = .non) = false := decide_eq_false fun e => by
          subst e
          cases hu
          exact hnon rfl
        refine ⟨_, rfl, rfl, _, rfl, ifF nu ⟨_, rfl, rfl, _, rfl, ifF nv ?_⟩⟩
        refine ⟨_, rfl, _, _, _, _, _, rfl, .ty _, ty_dp hv1, kit_bool d, _, rfl, _, _, _, _, _, rfl, .ty _, ty_dp hu1, kit_bool d, rfl, _, rfl, ifF ?_ ?_⟩
        · simp
        refine ⟨_, rfl, _, _, _, _, _, rfl, .ty _, ty_dp hv1, kit_str d, _, rfl, _, _, _, _, _, rfl, .ty _, ty_dp hu1, kit_str d, rfl, _, rfl, ifF ?_ ?_⟩
        · simp
        refine ⟨_, rfl, sz2 _ _, fun t2 g2 => ?_⟩
        have s2 := Same.new (o := .tup [.ty "int", .ty "str"]) g2
        have l2 := at_new (o := .tup [.ty "int", .ty "str"]) g2
        revert s2 l2
        generalize upd _ t2 _ = H2
        intro s2 l2
        refine ⟨_, t2, _, _, _, _, rfl, l2, .cons (.ty _) (.cons (.ty _) .nil), ty_dp (hv1.mono s2), kit_intstr d f1, _, rfl, ifT rfl ?_⟩
        have fin := k H2 (s1.trans s2)
        cases d with
        | none => cases f1
        | bool b =>
          cases hv
          cases hu
          refine ⟨_, rfl, _, rfl, rfl, ?_⟩
          rw [decide_eq_true rfl]
          exact fin
        | int i =>
          cases hv
          cases hu
          refine ⟨_, rfl, _, rfl, rfl, ?_⟩
          rw [decide_eq_true rfl]
          exact fin
        | str z =>
          cases hv
          cases hu
          refine ⟨_, rfl, _, rfl, rfl, ?_⟩
          rw [decide_eq_true rfl]
          exact fin
        | _ => cases f1
theorem ok_sameN {f : Addr} {fd : FuncData} (F : Fun K "_law_same" "_law_same" s__law_same f fd) (T : Txt mg) (g1 : mg "_law_same" = some (.ref f)) (k1 : PySem.W.keepIn K (.ref f) = true)
    (b1 : Binds K fd ["_law_told", "_law_due"] []) : ∀ n : Nat, Cal P w K mg base CX0 (n + 1) "_law_same" ["_law_told", "_law_due"] (spSame K n)
  | 0 => ⟨f, fd, g1, k1, b1, F.ok sc__law_same (fun vs H Q E h => by obtain ⟨v, u, d, rfl, _⟩ := h; rfl) (fun cdv A outer s H vs Q E hr h => by obtain ⟨v, u, d, _, _, _, hk, _⟩ := h; exact hk.elim)⟩
  | n + 1 => ⟨f, fd, g1, k1, b1, ok_same F T (ok_sameN F T g1 k1 b1 n)⟩
end
end Op
namespace Op
open PySem L2 PyProof.Rows
def spOne (K : PySem.W.Frag) : Sp := fun vs H Q _ => ∃ (p c l : Addr) (zs : List V), vs = [.ref p, .ref l] ∧ Pl H p c ∧ SqL K H l zs ∧ 1 ≤ zs.length ∧ zs.length ≤ 1000 ∧ ∀ z H', z ∈ zs → But p H H' → Pl H' p c → Q z H'
def spWords (K : PySem.W.Frag) : Sp := fun vs H Q _ => ∃ (p pc t : Addr) (n most : Nat) (ts : List Str), vs = [.ref p, .int n, .int most, .ref t] ∧ Pl H p pc ∧ SqL K H t (ts.map V.str) ∧ 1 ≤ most ∧ most ≤ 8 ∧ ts.length + n ≤ 25 ∧
  ∀ (l : Addr) (zs : List Str) H', H l = none → But p H H' → Pl H' p pc → H' l = some (.lst (zs.map V.str)) → zs.length = n → zs.Nodup → (∀ z ∈ zs, isWordS z = true ∧ z ∉ ts) → Q (.ref l) H'
theorem inV_strs (z : Str) : ∀ zs : List Str, inV (.str z) (zs.map V.str) = decide (z ∈ zs)
  | [] => rfl
  | x :: r => by
    have ih := inV_strs z r
    unfold inV at ih ⊢
    rw [List.map_cons, List.any_cons, ih]
    by_cases e : x = z
    · subst e
      rw [show eqV (.str x) (.str x) = true by simp [eqV], decide_eq_true List.mem_cons_self]
      rfl
    · rw [show eqV (.str x) (.str z) = false by simp [eqV, e], Bool.false_or]
      exact decide_eq_decide.mpr ⟨List.mem_cons_of_mem _, fun h => (List.mem_cons.mp h).resolve_left fun q => e q.symm⟩
theorem flat_strs (zs : List Str) : (zs.map V.str).all flatV = true := List.all_eq_true.mpr fun v hv => by
  obtain ⟨z, _, rfl⟩ := List.mem_map.mp hv
  rfl
section
variable {P : Program} {w : World} {K : PySem.W.Frag} {mg : Str → Option Value} {base : Heap}
theorem sc__law_one : FnScope ["_law_bag_here", "_law_items"] ["_law_bag_here", "_law_items"] (defScope s__law_one) := ⟨rfl, rfl, rfl, by decide +kernel, rfl, by decide +kernel, by decide +kernel⟩
theorem ok_one {f : Addr} {fd : FuncData} (F : Fun K "_law_one" "_law_one" s__law_one f fd) (T : Txt mg) (c__law_draw : Cal P w K mg base CX0 1 "_law_draw" ["_law_bag_here", "_law_many"] spD) : FnOk P w K mg base CX0 2 f fd ["_law_bag_here", "_law_items"] (spOne K) := by
  refine F.ok sc__law_one (fun vs H Q E h => ?_) (fun cdv A outer s H vs Q E hr h => ?_)
  · obtain ⟨p, c, l, zs, rfl, _⟩ := h
    rfl
  · obtain ⟨p, c, l, zs, rfl, hp, hl, h1, h2, k⟩ := h
    refine ⟨_, (pss_one (ps_ret (pe_ix ix_list (pv 1) (pe_cal c__law_draw (hr.mono (by omega)) rfl pass0 (pa_cons (pv 0) (pa_cons (pe_callB call_len_seq (by rfl) T.b_len (by decide +kernel) (pa_cons (pv 1) pa_nil)) pa_nil))) (fun _ _ => rfl)))), ?_⟩
    refine ⟨_, rfl, _, rfl, _, rfl, l, _, rfl, .inl hl, p, c, _, rfl, hp, by omega, fun r H' r1 r2 but pl => ?_⟩
    obtain ⟨n, rfl⟩ := Int.eq_ofNat_of_zero_le r1
    have hn : n < zs.length := by omega
    have hz : zs[n]? = some zs[n] := List.getElem?_eq_getElem hn
    exact ⟨l, _, _, zs[n], rfl, rfl, hl.kp (hp.kp but), atI_nat (j := n) hz, k _ H' (List.mem_of_getElem? hz) but pl⟩
theorem sc__law_words : FnScope ["_law_bag_here", "_law_many", "_law_most", "_law_taken", "_law_letters", "_law_words_here", "_law_k", "_law_size", "_law_word", "_law_shift", "_law_last", "_law_place"] ["_law_bag_here", "_law_many", "_law_most", "_law_taken"] (defScope s__law_words) := ⟨rfl, rfl, rfl, by decide +kernel, rfl, by decide +kernel, by decide +kernel⟩
theorem ok_words {f : Addr} {fd : FuncData} (F : Fun K "_law_words" "_law_words" s__law_words f fd) (T : Txt mg) (c__law_draw : Cal P w K mg base CX0 1 "_law_draw" ["_law_bag_here", "_law_many"] spD) : FnOk P w K mg base CX0 2 f fd ["_law_bag_here", "_law_many", "_law_most", "_law_taken"] (spWords K) := by
  refine F.ok sc__law_words (fun vs H Q E h => ?_) (fun cdv A outer s H vs Q E hr h => ?_)
  · obtain ⟨p, pc, t, n, most, ts, rfl, _⟩ := h
    rfl
  · obtain ⟨p, pc, t, n, most, ts, rfl, hp, ht, hm1, hm8, hn, k⟩ := h
    refine ⟨_, (pss_cons (ps_set (i := 4) sc__law_words.nd rfl (.inr rfl) pe_str)
      (pss_cons (ps_set (i := 5) sc__law_words.nd rfl (.inl rfl) (pe_lst pa_nil))
      (pss_cons (ps_for PassesOwn.never rfl (pi_range1 (by rfl) T.b_range (pa_cons (pv 1) pa_nil)) (pg_name (i := 6) sc__law_words.nd rfl (.inl rfl)) (pss_cons (ps_set (i := 7) sc__law_words.nd rfl (.inl rfl) (pe_op op_add pe_int (pe_cal c__law_draw (hr.mono (by omega)) rfl pass0 (pa_cons (pv 0) (pa_cons (pv 2) pa_nil)))))
      (pss_cons (ps_set (i := 8) sc__law_words.nd rfl (.inl rfl) (pe_join pe_str (pe_lc (own := [("_law_place", 11)]) (g := gName 11) (tt := tYes) rfl sc__law_words.nd (pi_range1 (by rfl) T.b_range (pa_cons (pv 7) pa_nil)) (blkOk_by (own := [("_law_place", 11)]) (N := ["_law_bag_here", "_law_many", "_law_most", "_law_taken", "_law_letters", "_law_words_here", "_law_k", "_law_size", "_law_word", "_law_shift", "_law_last", "_law_place"]) (sc := defScope s__law_words) (by decide +kernel)) (fun _ _ _ _ _ => (pg_name (i := 11) sc__law_words.nd rfl (.inl rfl))) (fun _ _ _ _ _ => pts_nil) (fun _ _ _ _ _ => (pe_ix ix_str (pv 4) (pe_cal c__law_draw (hr.mono (by omega)) rfl pass0 (pa_cons (pv 0) (pa_cons pe_int pa_nil))) (fun _ _ => rfl))))))
      (pss_cons (ps_for PassesOwn.never rfl (pi_range1 (by rfl) T.b_range (pa_cons pe_int pa_nil)) (pg_name (i := 9) sc__law_words.nd rfl (.inl rfl)) (pss_one (ps_if (PW.pt (pw_or (pt_cmpR op_in_seq (pv 8) (pv 3) (by rfl)) (pw_or1 (pt_cmpR op_in_seq (pv 8) (pv 5) (by rfl))))) (pss_cons (ps_set (i := 10) sc__law_words.nd rfl (.inl rfl) (pe_m1 PySem.F.slot_str_find PySem.F.type_str_find mt_find (pv 4) (pe_slice sl_str (pv 8) (po_some (pe_op op_sub (pe_callB call_len_str (by rfl) T.b_len (by decide +kernel) (pa_cons (pv 8) pa_nil)) pe_int)) po_none)))
      (pss_one (ps_set (i := 8) sc__law_words.nd rfl (.inl rfl) (pe_op op_add_str (pe_slice sl_str (pv 8) po_none (po_some (pe_op op_sub (pe_callB call_len_str (by rfl) T.b_len (by decide +kernel) (pa_cons (pv 8) pa_nil)) pe_int))) (pe_ix ix_str (pv 4) (pe_op op_modN (pe_op op_add (pv 10) pe_int) pe_int) (fun _ _ => rfl)))))) pss_nil)))
      (pss_one (ps_expr (pe_bm PySem.F.plainAttrs_list PySem.F.slot_list_append PySem.F.type_list_append mt_append (pv 5) (pa_cons (pv 8) pa_nil))))))))
      (pss_one (ps_ret (pv 5)))))), ?_⟩
    refine ⟨sz_lit (by decide), fun l hl => ?_⟩
    have s1 : Same H (upd H l (.lst [])) := Same.new hl
    have l1 : upd H l (.lst []) l = some (.lst (([] : List Str).map V.str)) := upd_same
    revert s1 l1
    generalize upd H l (.lst []) = H1
    intro s1 l1
    refine ⟨_, rfl, n, rfl, by omega, by omega, ?_⟩
    rw [Int.toNat_natCast]
    refine for_it (walk_range (lo := 0) (n := n)) (fun i σ H' => (∃ y6 y7 y8 y9 y10 : Option V, σ = [some (.ref p), some (.int n), some (.int most), some (.ref t), some (.str letters), some (.ref l), y6, y7, y8, y9, y10, none]) ∧ ∃ zs : List Str, H' l = some (.lst (zs.map V.str)) ∧ zs.length = i ∧ zs.Nodup ∧ (∀ z ∈ zs, isWordS z = true ∧ z ∉ ts) ∧ But p H H' ∧ Pl H' p pc) ⟨⟨_, _, _, _, _, rfl⟩, [], l1, rfl, List.nodup_nil, fun z hz => (List.not_mem_nil hz).elim, Same.but s1, hp.mono s1⟩ (fun _ _ _ _ _ => trivial) ?_ ?_
    · rintro i x σ H3 H2 hi ⟨⟨y6, y7, y8, y9, y10, rfl⟩, zs, hl2, hzl, hnd, hz, b2, pl2⟩ ⟨rfl, rfl⟩
      refine ⟨_, rfl, _, rfl, p, pc, most, rfl, pl2, by omega, fun r H3 r1 r2 b3 pl3 => ⟨_, _, rfl, rfl, ?_⟩⟩
      obtain ⟨sz, hsz⟩ : ∃ sz : Nat, (1 : Int) + r = sz := ⟨(1 + r).toNat, (Int.toNat_of_nonneg (by omega)).symm⟩
      have hs1 : 1 ≤ sz := by omega
      have hs2 : sz ≤ most := by omega
      show tSeq _ _ _ (List.set _ 7 (some (V.int (1 + r)))) H3
      rw [hsz]
      refine ⟨⟨_, rfl⟩, _, rfl, sz, rfl, by omega, by omega, fun D hD => ?_⟩
      rw [Int.toNat_natCast]
      have nlp : l ≠ p := fun e => by obtain ⟨_, h⟩ := pl2.at; rw [e, h] at hl2; cases hl2
      refine lc_it (walk_range (lo := 0) (n := sz)) (fun i H' => ∃ cs : List Nat, H' D = some (.lst ((cs.map fun c => (⟨#[c]⟩ : Str)).map V.str)) ∧ cs.length = i ∧ (∀ x ∈ cs, 97 ≤ x ∧ x < 123) ∧ But p H3 H' ∧ Pl H' p pc) ⟨[], upd_same, rfl, fun x hx => (List.not_mem_nil hx).elim, Same.but (Same.new hD), pl3.mono (Same.new hD)⟩ (fun _ _ _ _ => trivial) ?_ ?_
      · rintro i' x H5 H4 hi' ⟨cs, hD4, hcl, hcs, b4, pl4⟩ ⟨rfl, rfl⟩
        refine ⟨rfl, _, rfl, _, rfl, p, pc, 26, rfl, pl4, by decide, fun r H5 r1 r2 b5 pl5 => ?_⟩
        obtain ⟨j, rfl⟩ := Int.eq_ofNat_of_zero_le r1
        have hj : j < 26 := by omega
        have hDp : D ≠ p := fun e => by obtain ⟨_, h⟩ := pl4.at; rw [e, h] at hD4; cases hD4
        have hD5 := b5 _ _ hD4 hDp
        refine ⟨letters, j, 97 + j, rfl, rfl, sz_lit (by decide +kernel), atI_nat (letter_at j hj), _, hD5, lt_sz (by rw [List.length_map, List.length_map]; omega), cs ++ [97 + j], ?_, ?_, ?_, ?_, ?_⟩
        · rw [upd_same, List.map_append, List.map_append]
          rfl
        · rw [List.length_append, hcl]
          rfl
        · intro x hx
          rcases List.mem_append.mp hx with hx | hx
          · exact hcs x hx
          · rw [List.mem_singleton.mp hx]
            omega
        · intro b o hb n
          rw [L2.upd_ne (ne_of_none hb hD)]
          exact b5 b o (b4 b o hb n) n
        · exact pl5.put hDp (pl3.new hD).2
      · rintro H4 ⟨cs, hD4, hcl, hcs, b4, pl4⟩
        refine ⟨"", D, cs.map fun c => (⟨#[c]⟩ : Str), rfl, rfl, .inl (.inl (.inl hD4)), ?_, ?_⟩
        · rw [List.map_map, List.length_map]
          have : ∀ l : List Nat, (l.map ((fun x : Str => x.length) ∘ fun c => (⟨#[c]⟩ : Str))).sum = l.length := by
            intro l
            induction l with
            | nil => rfl
            | cons a r ih =>
              rw [List.map_cons, List.sum_cons, ih]
              show 1 + r.length = r.length + 1
              omega
          rw [this]
          show cs.length + cs.length * 0 ≤ 16777216
          omega
        rw [join_letters]
        obtain ⟨pre, c, e, hc, hpre, hpl⟩ := split_last (cs := cs) (by omega) hcs
        rw [e]
        have b24 : But p H H4 := b2.trans (b3.trans b4)
        have ht4 : SqL K H4 t (ts.map V.str) := ht.kp (hp.kp b24)
        have hl4 : H4 l = some (.lst (zs.map V.str)) := b4 _ _ (b3 _ _ hl2 nlp) nlp
        refine ⟨26, rfl, by omega, by omega, ?_⟩
        rw [show (26 : Int).toNat = 26 from rfl]
        refine for_it (walk_range (lo := 0) (n := 26)) (fun j σ H' => (∃ (z : Str) (y9 y10 : Option V), σ = [some (.ref p), some (.int n), some (.int most), some (.ref t), some (.str letters), some (.ref l), some (.int (0 + (i : Int))), some (.int sz), some (.str z), y9, y10, none] ∧ ShI pre c (ts ++ zs) j z) ∧ H' = H4) ⟨⟨_, _, _, rfl, ShI.start hc⟩, rfl⟩ (fun _ _ _ _ _ => trivial) ?_ ?_
        · rintro j x σ H6 H5 hj ⟨⟨z, y9, y10, rfl, hsh⟩, rfl⟩ ⟨rfl, rfl⟩
          refine ⟨_, rfl, _, rfl, t, _, rfl, .inl ht4, rfl, flat_strs ts, _, rfl, ?_⟩
          rw [if_neg Bool.false_ne_true, inV_strs]
          have body : z ∈ ts ++ zs → ∃ d, d < 26 ∧ z = wd pre d ∧ ShI pre c (ts ++ zs) (j + 1) (wd pre ((d + 1) % 26)) := fun hz => hsh.go hz
          have stay : z ∉ ts ++ zs → ShI pre c (ts ++ zs) (j + 1) z := fun hz => hsh.stay hz
          have hlen : ∀ d, (wd pre d).length ≤ sizeLine := fun d => by rw [wd_len]; exact sz_lit (by omega)
          have hlast : ∀ d, ((wd pre d).length : Int) - 1 = (pre.length : Int) := fun d => by rw [wd_len]; omega
          have hmod : ∀ d : Nat, ((d : Int) + 1).fmod 26 = (((d + 1) % 26 : Nat) : Int) := fun d => by
            rw [Int.fmod_eq_emod_of_nonneg _ (by decide)]
            omega
          have hcat : ∀ d e : Nat, (cutS (wd pre d) none (some ((pre.length : Nat) : Int))).length + (⟨#[97 + e]⟩ : Str).length ≤ sizeLine := fun d e => by
            have h1 : (cutS (wd pre d) none (some ((pre.length : Nat) : Int)) ++ (⟨#[97 + e]⟩ : Str)).length = pre.length + 1 := by rw [wd_init, wd_len]
            have h2 : (cutS (wd pre d) none (some ((pre.length : Nat) : Int)) ++ (⟨#[97 + e]⟩ : Str)).length = (cutS (wd pre d) none (some ((pre.length : Nat) : Int))).length + (⟨#[97 + e]⟩ : Str).length := Array.size_append
            rw [← h2, h1]
            exact sz_lit (by omega)
          by_cases e1 : z ∈ ts
          · refine ifT (decide_eq_true e1) ?_
            obtain ⟨d, hd, rfl, hnx⟩ := body (List.mem_append_left _ e1)
            refine ifT rfl ?_
            refine ⟨_, rfl, ⟨_, rfl⟩, _, rfl, _, rfl, _, rfl, hlen d, _, _, rfl, rfl, (pre.length : Int), congrArg V.int (hlast d), _, rfl, hlen d, _, _, rfl, rfl, ?_⟩
            rw [wd_last, find_letter d hd]
            refine ⟨_, rfl, _, rfl, _, rfl, hlen d, _, _, rfl, rfl, (pre.length : Int), congrArg V.int (hlast d), _, rfl, hlen d, _, rfl, _, rfl, _, _, rfl, rfl, _, _, rfl, rfl, (by show (26 : Int) ≠ 0; decide), letters, (((d + 1) % 26 : Nat) : Int), 97 + (d + 1) % 26, rfl, congrArg V.int (hmod d), sz_lit (by decide +kernel), atI_nat (letter_at _ (Nat.mod_lt _ (by decide))), _, _, rfl, rfl, hcat d _, ?_⟩
            rw [wd_init]
            exact ⟨⟨_, _, _, rfl, hnx⟩, rfl⟩
          · refine ifF (decide_eq_false e1) ?_
            refine ⟨_, rfl, _, rfl, l, _, rfl, .inl (.inl (.inl hl4)), rfl, flat_strs zs, _, rfl, ?_⟩
            rw [if_neg Bool.false_ne_true, inV_strs]
            by_cases e2 : z ∈ zs
            · refine ifT (decide_eq_true e2) ?_
              obtain ⟨d, hd, rfl, hnx⟩ := body (List.mem_append_right _ e2)
              refine ⟨_, rfl, ⟨_, rfl⟩, _, rfl, _, rfl, _, rfl, hlen d, _, _, rfl, rfl, (pre.length : Int), congrArg V.int (hlast d), _, rfl, hlen d, _, _, rfl, rfl, ?_⟩
              rw [wd_last, find_letter d hd]
              refine ⟨_, rfl, _, rfl, _, rfl, hlen d, _, _, rfl, rfl, (pre.length : Int), congrArg V.int (hlast d), _, rfl, hlen d, _, rfl, _, rfl, _, _, rfl, rfl, _, _, rfl, rfl, (by show (26 : Int) ≠ 0; decide), letters, (((d + 1) % 26 : Nat) : Int), 97 + (d + 1) % 26, rfl, congrArg V.int (hmod d), sz_lit (by decide +kernel), atI_nat (letter_at _ (Nat.mod_lt _ (by decide))), _, _, rfl, rfl, hcat d _, ?_⟩
              rw [wd_init]
              exact ⟨⟨_, _, _, rfl, hnx⟩, rfl⟩
            · refine ifF (decide_eq_false e2) ⟨⟨_, _, _, rfl, stay fun h => ?_⟩, rfl⟩
              rcases List.mem_append.mp h with h | h
              · exact e1 h
              · exact e2 h
        · rintro σ H5 ⟨⟨z, y9, y10, rfl, hsh⟩, rfl⟩
          obtain ⟨hfree, d, hd, rfl⟩ := hsh.done (by rw [List.length_append]; omega)
          have hw := wd_word (c := d) hpre hd (by omega)
          refine ⟨_, rfl, .inl ⟨rfl, _, .inl (.inl hl4)⟩, _, rfl, l, _, _, rfl, rfl, hl4, lt_sz (by rw [List.length_map]; omega), ⟨_, _, _, _, _, rfl⟩, zs ++ [wd pre d], ?_, ?_, ?_, ?_, ?_, ?_⟩
          · rw [upd_same, List.map_append]
            rfl
          · rw [List.length_append, hzl]
            rfl
          · refine List.nodup_append.mpr ⟨hnd, by simp, fun a ha b hb e => hfree (List.mem_append_right _ ?_)⟩
            rw [List.mem_singleton.mp hb] at e
            rw [← e]
            exact ha
          · intro z hz'
            rcases List.mem_append.mp hz' with h | h
            · exact hz z h
            · rw [List.mem_singleton.mp h]
              exact ⟨hw, fun h => hfree (List.mem_append_left _ h)⟩
          · intro b o hb n
            rw [L2.upd_ne (ne_of_none hb hl)]
            exact b24 b o hb n
          · exact pl4.put nlp (hp.new hl).2
    · rintro σ H2 ⟨⟨y6, y7, y8, y9, y10, rfl⟩, zs, hl2, hzl, hnd, hz, b2, pl2⟩
      exact ⟨_, rfl, k l zs H2 hl b2 pl2 hl2 hzl hnd hz⟩
end
end Op
namespace Op
open PySem L2 PyProof.Rows
/-! ### the table of rows, plainly -/
abbrev PT := List (List Int × PyData)
def inE (rec : List PyData → List Int → PT) (pre : List Int) : List PyData → Nat → PT
  | [], _ => []
  | d :: r, j => rec (listOf d) (pre ++ [(j : Int)]) ++ inE rec pre r (j + 1)
def rowE (rec : List PyData → List Int → PT) (pre : List Int) (d : PyData) (i : Nat) : PT :=
  match d with
  | .tuple (.str kind :: parts) => (pre ++ [(i : Int)], d) :: inE rec (pre ++ [(i : Int)]) (innerL kind parts) 0
  | _ => []
def rsE (row : PyData → Nat → PT) : List PyData → Nat → PT
  | [], _ => []
  | d :: r, i => row d i ++ rsE row r (i + 1)
def pathsL : Nat → List PyData → List Int → PT
  | 0, _, _ => []
  | n + 1, ds, pre => rsE (rowE (pathsL n) pre) ds 0
def FreeT (t : PT) (pre : List Int) (i : Nat) : Prop := ∀ e ∈ t, ∀ (j : Nat) (q : List Int), i ≤ j → e.1 ≠ pre ++ (j : Int) :: q
def ExtT (t : PT) (pre : List Int) (i : Nat) : Prop := ∀ e ∈ t, ∃ (j : Nat) (q : List Int), i ≤ j ∧ e.1 = pre ++ (j : Int) :: q
theorem putD_new {α : Type} {t : List (List Int × α)} {p : List Int} {a : α} (h : ∀ e ∈ t, e.1 ≠ p) : putD t p a = t ++ [(p, a)] := by
  unfold putD
  rw [if_neg]
  intro q
  obtain ⟨e, he, hp⟩ := List.any_eq_true.mp q
  exact h e he (of_decide_eq_true hp)
theorem pre_step {pre : List Int} {i j : Nat} {q q' : List Int} (h : pre ++ (i : Int) :: q = pre ++ (j : Int) :: q') : i = j := by
  have := List.append_cancel_left h
  injection this with h1 _
  omega
def AddP (rec : List PyData → List Int → Tb → Tb) (rp : List PyData → List Int → PT) : Prop := ∀ ds pre s, FreeT s.1 pre 0 → (rec ds pre s).1 = s.1 ++ rp ds pre ∧ ExtT (rp ds pre) pre 0
theorem addIn_eq {rec : List PyData → List Int → Tb → Tb} {rp : List PyData → List Int → PT} (hr : AddP rec rp) (pre : List Int) : ∀ (l : List PyData) (j : Nat) (s : Tb), FreeT s.1 pre j → (addIn rec pre l j s).1 = s.1 ++ inE rp pre l j ∧ ExtT (inE rp pre l j) pre j
  | [], j, s, _ => ⟨by rw [inE, List.append_nil]; rfl, fun e he => (List.not_mem_nil he).elim⟩
  | d :: r, j, s, hf => by
    have h1 := hr (listOf d) (pre ++ [(j : Int)]) s fun e he k q _ => by
      have := hf e he j ((k : Int) :: q) (Nat.le_refl _)
      rw [List.append_assoc]
      exact this
    have e1 : ExtT (rp (listOf d) (pre ++ [(j : Int)])) pre j := fun e he => by
      obtain ⟨k, q, _, h⟩ := h1.2 e he
      exact ⟨j, (k : Int) :: q, Nat.le_refl _, by rw [h, List.append_assoc]; rfl⟩
    have h2 := addIn_eq hr pre r (j + 1) (rec (listOf d) (pre ++ [(j : Int)]) s) fun e he k q hk => by
      rw [h1.1] at he
      rcases List.mem_append.mp he with he | he
      · exact hf e he k q (by omega)
      · obtain ⟨q', h'⟩ : ∃ q', e.1 = pre ++ (j : Int) :: q' := by
          obtain ⟨k, q, _, h⟩ := h1.2 e he
          exact ⟨(k : Int) :: q, by rw [h, List.append_assoc]; rfl⟩
        rw [h']
        intro h
        have := pre_step h
        omega
    refine ⟨?_, ?_⟩
    · show (addIn rec pre r (j + 1) (rec (listOf d) (pre ++ [(j : Int)]) s)).1 = _
      rw [h2.1, h1.1, List.append_assoc]
      rfl
    · intro e he
      rcases List.mem_append.mp (show e ∈ rp (listOf d) (pre ++ [(j : Int)]) ++ inE rp pre r (j + 1) from he) with he | he
      · exact e1 e he
      · obtain ⟨k, q, hk, h⟩ := h2.2 e he
        exact ⟨k, q, by omega, h⟩
theorem addRow_eq {rec : List PyData → List Int → Tb → Tb} {rp : List PyData → List Int → PT} (hr : AddP rec rp) (pre : List Int) (d : PyData) (i : Nat) (s : Tb) (hf : FreeT s.1 pre i) : (addRow rec pre d i s).1 = s.1 ++ rowE rp pre d i ∧ ∀ e ∈ rowE rp pre d i, ∃ q, e.1 = pre ++ (i : Int) :: q := by
  by_cases ht : ∃ kind parts, d = .tuple (.str kind :: parts)
  · obtain ⟨kind, parts, rfl⟩ := ht
    have hn : putD s.1 (pre ++ [(i : Int)]) (.tuple (.str kind :: parts)) = s.1 ++ [(pre ++ [(i : Int)], .tuple (.str kind :: parts))] := putD_new fun e he => hf e he i [] (Nat.le_refl _)
    have h1 := addIn_eq hr (pre ++ [(i : Int)]) (innerL kind parts) 0 (putD s.1 (pre ++ [(i : Int)]) (.tuple (.str kind :: parts)), s.2) fun e he k q _ => by
      rw [show (putD s.1 (pre ++ [(i : Int)]) (.tuple (.str kind :: parts)), s.2).1 = _ from hn] at he
      rcases List.mem_append.mp he with he | he
      · have := hf e he i ((k : Int) :: q) (Nat.le_refl _)
        rw [List.append_assoc]
        exact this
      · rw [List.mem_singleton.mp he]
        intro h
        have := congrArg List.length h
        simp at this
    refine ⟨?_, ?_⟩
    · show (addIn rec (pre ++ [(i : Int)]) (innerL kind parts) 0 (putD s.1 (pre ++ [(i : Int)]) (.tuple (.str kind :: parts)), s.2)).1 = _
      rw [h1.1, hn, List.append_assoc]
      rfl
    · intro e he
      rcases List.mem_cons.mp (show e ∈ (pre ++ [(i : Int)], PyData.tuple (.str kind :: parts)) :: inE rp (pre ++ [(i : Int)]) (innerL kind parts) 0 from he) with he | he
      · exact ⟨[], by rw [he]⟩
      · obtain ⟨k, q, _, h⟩ := h1.2 e he
        exact ⟨(k : Int) :: q, by rw [h, List.append_assoc]; rfl⟩
  · have e1 : addRow rec pre d i s = s := by
      unfold addRow
      split
      · exact (ht ⟨_, _, rfl⟩).elim
      · rfl
    have e2 : rowE rp pre d i = [] := by
      unfold rowE
      split
      · exact (ht ⟨_, _, rfl⟩).elim
      · rfl
    rw [e1, e2, List.append_nil]
    exact ⟨rfl, fun e he => (List.not_mem_nil he).elim⟩
theorem addRs_eq {rec : List PyData → List Int → Tb → Tb} {rp : List PyData → List Int → PT} (hr : AddP rec rp) (pre : List Int) : ∀ (ds : List PyData) (i : Nat) (s : Tb), FreeT s.1 pre i → (addRs (addRow rec pre) ds i s).1 = s.1 ++ rsE (rowE rp pre) ds i ∧ ExtT (rsE (rowE rp pre) ds i) pre i
  | [], i, s, _ => ⟨by rw [rsE, List.append_nil]; rfl, fun e he => (List.not_mem_nil he).elim⟩
  | d :: r, i, s, hf => by
    have h1 := addRow_eq hr pre d i s hf
    have h2 := addRs_eq hr pre r (i + 1) (addRow rec pre d i s) fun e he k q hk => by
      rw [h1.1] at he
      rcases List.mem_append.mp he with he | he
      · exact hf e he k q (by omega)
      · obtain ⟨q', h'⟩ := h1.2 e he
        rw [h']
        intro h
        have := pre_step h
        omega
    refine ⟨?_, ?_⟩
    · show (addRs (addRow rec pre) r (i + 1) (addRow rec pre d i s)).1 = _
      rw [h2.1, h1.1, List.append_assoc]
      rfl
    · intro e he
      rcases List.mem_append.mp (show e ∈ rowE rp pre d i ++ rsE (rowE rp pre) r (i + 1) from he) with he | he
      · obtain ⟨q, h⟩ := h1.2 e he
        exact ⟨i, q, Nat.le_refl _, h⟩
      · obtain ⟨k, q, hk, h⟩ := h2.2 e he
        exact ⟨k, q, by omega, h⟩
theorem addL_eq : ∀ n, AddP (addL n) (pathsL n)
  | 0 => fun ds pre s _ => ⟨by rw [pathsL, List.append_nil]; rfl, fun e he => (List.not_mem_nil he).elim⟩
  | n + 1 => fun ds pre s hf => addRs_eq (addL_eq n) pre ds 0 (s.1, putD s.2 pre (ds.length : Int)) hf
theorem addL_len (ds : List PyData) : (addL 5 ds [] ([], [])).1 = pathsL 5 ds [] := (addL_eq 5 ds [] ([], []) fun e he => (List.not_mem_nil he).elim).1
end Op
namespace Op
open PySem L2 PyProof.Rows
/-! ### the names of a law's program -/
structure Gn where
  labels : List Str
  slots : List Str
  words : List Str
  ids : List Str
  asks : List Str
  boxes : List Str
def nl (zs : List Str) : Prop := zs.length ≤ 3 ∧ zs.Nodup ∧ ∀ z ∈ zs, isWordS z = true
structure GnV (G : Gn) : Prop where
  labels : nl G.labels
  slots : nl G.slots
  noin : ("in" : Str) ∉ G.slots
  words : ∀ z ∈ G.words, isWordS z = true
  ids : nl G.ids
  asks : nl G.asks
  boxes : nl G.boxes
theorem name_word {z : Str} (h : isWordS z = true) : isWordS z = true := h
theorem wts_append : ∀ (A B : List PyData), wts (A ++ B) = wts A + wts B
  | [], B => by rw [wts_nil]; simp
  | a :: A, B => by rw [List.cons_append, wts_cons, wts_cons, wts_append A B]; omega
theorem wts_le {n : Nat} : ∀ {A : List PyData}, (∀ d ∈ A, wt d ≤ n) → wts A ≤ n * A.length
  | [], _ => by rw [wts_nil]; simp
  | a :: A, h => by
    have h1 := wts_le (A := A) fun d hd => h d (List.mem_cons_of_mem _ hd)
    have h2 := h a List.mem_cons_self
    rw [wts_cons, List.length_cons, Nat.mul_succ]
    omega
theorem word_len {z : Str} (h : isWordS z = true) : z.length ≤ 8 := by
  unfold isWordS at h
  exact (of_decide_eq_true (Bool.and_eq_true_iff.mp h).1).2
theorem wt_str (z : Str) : wt (.str z) = 1 + z.length := by rw [wt]
theorem words_ok {m : Int} {zs : List Str} (h1 : 1 ≤ zs.length) (h2 : (zs.length : Int) ≤ m) (h3 : zs.Nodup) (h4 : ∀ z ∈ zs, isWordS z = true) : areWords m (.tuple (zs.map .str)) = true := by
  show (decide (1 ≤ (zs.map PyData.str).length ∧ ((zs.map PyData.str).length : Int) ≤ m) && ((zs.map PyData.str).all isWord && decide (((zs.map PyData.str).map strOf).Nodup))) = true
  rw [map_strOf, List.length_map, decide_eq_true ⟨h1, h2⟩, decide_eq_true h3]
  have : ((zs.map PyData.str).all isWord) = true := List.all_eq_true.mpr fun d hd => by
    obtain ⟨z, hz, rfl⟩ := List.mem_map.mp hd
    exact h4 z hz
  rw [this]
  rfl
theorem dp_strs {K : PySem.W.Frag} {H : Hp} : ∀ zs : List Str, DpAll K H (zs.map V.str) (zs.map PyData.str)
  | [] => .nil
  | z :: r => .cons (.str z) (dp_strs r)
theorem wts_strs : ∀ {zs : List Str}, (∀ z ∈ zs, isWordS z = true) → wts (zs.map PyData.str) ≤ 9 * zs.length
  | [], _ => by rw [List.map_nil, wts_nil]; exact Nat.zero_le _
  | z :: r, h => by
    have h1 := wts_strs (zs := r) fun x hx => h x (List.mem_cons_of_mem _ hx)
    have h2 := word_len (h z List.mem_cons_self)
    rw [List.map_cons, wts_cons, wt_str, List.length_cons]
    omega
/-! ### the rows that a law draws -/
def inS (G : Gn) (r : Str) : Prop := r ∈ G.slots ∨ r = "in"
inductive GRow (G : Gn) (rec : Bool → List PyData → Prop) (lp : Bool) : PyData → Prop
  | ask {a l : Str} : a ∈ G.asks → l ∈ G.labels → GRow G rec lp (.tuple [.str "ask", .str a, .str l])
  | timer {l : Str} : l ∈ G.labels → GRow G rec lp (.tuple [.str "timer", .str l])
  | await {l s : Str} : l ∈ G.labels → s ∈ G.slots → GRow G rec lp (.tuple [.str "await", .str l, .str s])
  | first {ls : List Str} {s : Str} : (∀ l ∈ ls, l ∈ G.labels) → ls.Nodup → 1 ≤ ls.length → ls.length ≤ 3 → s ∈ G.slots → GRow G rec lp (.tuple [.str "first", .tuple (ls.map .str), .str s])
  | drop {l : Str} : l ∈ G.labels → GRow G rec lp (.tuple [.str "drop", .str l])
  | take {b s : Str} : b ∈ G.boxes → s ∈ G.slots → GRow G rec lp (.tuple [.str "take", .str b, .str s])
  | note {s : Str} {ws : List Str} : s ∈ G.slots → areWords 3 (.tuple (ws.map .str)) = true → GRow G rec lp (.tuple [.str "note", .str s, .tuple (ws.map .str)])
  | put {s v : Str} : s ∈ G.slots → isWordS v = true → GRow G rec lp (.tuple [.str "put", .str s, .str v])
  | fin {r : Str} : inS G r → GRow G rec lp (.tuple [.str "end", .str r])
  | anew {r : Str} : inS G r → GRow G rec lp (.tuple [.str "anew", .str r])
  | leave : lp = true → GRow G rec lp (.tuple [.str "leave"])
  | cond {r v : Str} {a b : List PyData} : inS G r → isWordS v = true → rec lp a → rec lp b → GRow G rec lp (.tuple [.str "if", .str r, .str v, .list a, .list b])
  | loop {a : List PyData} : rec true a → GRow G rec lp (.tuple [.str "loop", .list a])
  | part {a : List PyData} : rec lp a → GRow G rec lp (.tuple [.str "part", .list a])
  | both {ls : List (List PyData)} : 2 ≤ ls.length → ls.length ≤ 3 → (∀ a ∈ ls, rec false a) → GRow G rec lp (.tuple [.str "both", .tuple (ls.map .list)])
  | gate {i : Str} {a b : List PyData} : i ∈ G.ids → rec lp a → rec lp b → GRow G rec lp (.tuple [.str "gate", .str i, .list a, .list b])
  | past {i : Str} {a : List PyData} : i ∈ G.ids → rec lp a → GRow G rec lp (.tuple [.str "past", .str i, .list a])
def GRows (G : Gn) : Nat → Bool → List PyData → Prop
  | 0, _, _ => False
  | n + 1, lp, ds => ∀ d ∈ ds, GRow G (GRows G n) lp d
theorem GRows.app {G : Gn} {n : Nat} {lp : Bool} {a b : List PyData} (h : GRows G (n + 1) lp a) (k : GRows G (n + 1) lp b) : GRows G (n + 1) lp (a ++ b) := fun d hd => by
  rcases List.mem_append.mp hd with hd | hd
  · exact h d hd
  · exact k d hd
def innerOf : PyData → List PyData
  | .tuple (.str kind :: ps) => innerL kind ps
  | _ => []
/-- how many rows -/
def cntR (rec : List PyData → Nat) (d : PyData) : Nat := 1 + ((innerOf d).map fun x => rec (listOf x)).sum
def cntL : Nat → List PyData → Nat
  | 0, _ => 0
  | n + 1, ds => (ds.map (cntR (cntL n))).sum
theorem cntL_app (n : Nat) (a b : List PyData) : cntL n (a ++ b) = cntL n a + cntL n b := by
  cases n with
  | zero => rfl
  | succ n =>
    show ((a ++ b).map (cntR (cntL n))).sum = _
    rw [List.map_append, List.sum_append]
    rfl
/-- a row without lists -/
def GFlat (G : Gn) (d : PyData) : Prop := (∀ rec lp, GRow G rec lp d) ∧ innerOf d = []
theorem flat_in {kind : Str} {ps : List PyData} (hk : kind ≠ "both") (h : ∀ x ∈ ps, isList x = false) : innerOf (.tuple (.str kind :: ps)) = [] := by
  show innerL kind ps = []
  unfold innerL
  rw [if_neg hk]
  exact List.filter_eq_nil_iff.mpr fun x hx => by rw [h x hx]; exact Bool.false_ne_true
theorem flat1 {x : PyData} (h : isList x = false) : ∀ y ∈ [x], isList y = false := fun y hy => by rw [List.mem_singleton.mp hy]; exact h
theorem flat2 {x y : PyData} (h : isList x = false) (k : isList y = false) : ∀ z ∈ [x, y], isList z = false := fun z hz => by
  rcases List.mem_cons.mp hz with rfl | hz
  · exact h
  · rw [List.mem_singleton.mp hz]; exact k
theorem GFlat.rows {G : Gn} {n : Nat} {lp : Bool} {ds : List PyData} (h : ∀ d ∈ ds, GFlat G d) : GRows G (n + 1) lp ds := fun d hd => (h d hd).1 _ _
theorem GFlat.cnt {G : Gn} {n : Nat} : ∀ {ds : List PyData}, (∀ d ∈ ds, GFlat G d) → cntL (n + 1) ds = ds.length
  | [], _ => rfl
  | d :: r, h => by
    have h1 := GFlat.cnt (n := n) (ds := r) fun d hd => h d (List.mem_cons_of_mem _ hd)
    show cntR (cntL n) d + (r.map (cntR (cntL n))).sum = _
    have h2 : cntR (cntL n) d = 1 := by
      unfold cntR
      rw [(h d List.mem_cons_self).2]
      rfl
    have h1 : (r.map (cntR (cntL n))).sum = r.length := h1
    rw [h1, h2, List.length_cons]
    omega
theorem cnt_one {n : Nat} {d : PyData} : cntL (n + 1) [d] = cntR (cntL n) d := by
  show cntR (cntL n) d + 0 = _
  rw [Nat.add_zero]
theorem cntR1 {rec : List PyData → Nat} {kind : Str} {ps a : List PyData} (hk : kind ≠ "both") (h : ps.filter isList = [.list a]) : cntR rec (.tuple (.str kind :: ps)) = 1 + rec a := by
  show 1 + ((innerL kind ps).map fun x => rec (listOf x)).sum = _
  unfold innerL
  rw [if_neg hk, h]
  show 1 + (rec a + 0) = _
  rw [Nat.add_zero]
theorem cntR2 {rec : List PyData → Nat} {kind : Str} {ps a b : List PyData} (hk : kind ≠ "both") (h : ps.filter isList = [.list a, .list b]) : cntR rec (.tuple (.str kind :: ps)) = 1 + (rec a + rec b) := by
  show 1 + ((innerL kind ps).map fun x => rec (listOf x)).sum = _
  unfold innerL
  rw [if_neg hk, h]
  show 1 + (rec a + (rec b + 0)) = _
  rw [Nat.add_zero]
theorem cntRB {rec : List PyData → Nat} {a b : List PyData} : cntR rec (.tuple [.str "both", .tuple [.list a, .list b]]) = 1 + (rec a + rec b) := by
  show 1 + ((innerL "both" [.tuple [.list a, .list b]]).map fun x => rec (listOf x)).sum = _
  unfold innerL
  rw [if_pos rfl]
  show 1 + (rec a + (rec b + 0)) = _
  rw [Nat.add_zero]
theorem one_row {G : Gn} {n : Nat} {lp : Bool} {d : PyData} (h : GRow G (GRows G n) lp d) : GRows G (n + 1) lp [d] := fun x hx => by rw [List.mem_singleton.mp hx]; exact h
section
variable {E : Env0} {c : Chk} {kind sh : Str} {parts : List PyData} {depth : Int} {lp : Bool} {rec : Bool → List PyData → List Int → Chk → Out} {pre : List Int} {i : Nat}
theorem row_ok (h1 : shapes.lookup kind = some sh) (h2 : kind ≠ "edit") (h3 : kind = "leave" → lp = true) (h4 : parts.length = sh.length) (h5 : (hasC 98 sh || hasC 116 sh) = true → depth < 5) (h6 : fitAll E sh parts = true) (h7 : idFits c kind parts = true) :
    chkRow rec E depth lp pre (.tuple (.str kind :: parts)) i c = chkIn (rec (inside lp kind)) (pre ++ [(i : Int)]) (innerL kind parts) 0 (collect { c with total := c.total + 1 } kind sh parts) := by
  have hf : fits E c (.tuple (.str kind :: parts)) depth lp = true := by
    show (match shapes.lookup kind with | none => false | some sh => fitRow E c kind parts depth lp sh) = true
    rw [h1]
    show fitRow E c kind parts depth lp sh = true
    unfold fitRow
    rw [if_neg (fun z => h2 z.1), if_neg (fun z => by have := h3 z.1; rw [this] at z; exact absurd z.2 (by decide)), if_neg (fun z => z h4), if_neg (fun z => by have := z.2; have := h5 z.1; omega), if_pos h6]
    exact h7
  show (if fits E c (.tuple (.str kind :: parts)) depth lp = true then chkIn (rec (inside lp kind)) (pre ++ [(i : Int)]) (innerL kind parts) 0 (collect { c with total := c.total + 1 } kind (shapeOf kind) parts) else .error (pre ++ [(i : Int)])) = _
  rw [if_pos hf]
  have e : shapeOf kind = sh := by unfold shapeOf; rw [h1]; rfl
  rw [e]
end
theorem id_plain {c : Chk} {kind : Str} {parts : List PyData} (h1 : kind ≠ "edit") (h2 : ¬ (kind = "gate" ∨ kind = "past")) : idFits c kind parts = true := by
  unfold idFits
  rw [if_neg h1, if_neg h2]
theorem id_gate0 {c : Chk} {kind : Str} {parts : List PyData} (h1 : kind ≠ "edit") (h2 : c.edits = []) : idFits c kind parts = true := by
  unfold idFits
  rw [if_neg h1, h2]
  split
  · rw [decide_eq_false (fun z => (List.not_mem_nil z).elim)]
    rfl
  · rfl
/-! ### parts -/
theorem pq_a {E : Env0} {d : PyData} : partFits E ⟨#[97]⟩ d = (isWord d && decide (strOf d ∈ E.asks)) := by
  unfold partFits
  rw [if_pos (by decide +kernel)]
theorem pq_g {E : Env0} {d : PyData} : partFits E ⟨#[103]⟩ d = (isWord d && decide (strOf d ∈ E.sigs)) := by
  unfold partFits
  rw [if_neg (by decide +kernel), if_pos (by decide +kernel)]
theorem pq_s {E : Env0} {d : PyData} : partFits E ⟨#[115]⟩ d = (isWord d && !decide (strOf d = "in")) := by
  unfold partFits
  rw [if_neg (by decide +kernel), if_neg (by decide +kernel), if_pos (by decide +kernel)]
theorem pq_m {E : Env0} {d : PyData} : partFits E ⟨#[109]⟩ d = areWords 3 d := by
  unfold partFits
  rw [if_neg (by decide +kernel), if_neg (by decide +kernel), if_neg (by decide +kernel), if_pos (by decide +kernel)]
theorem pq_v {E : Env0} {d : PyData} : partFits E ⟨#[118]⟩ d = areWords 3 d := by
  unfold partFits
  rw [if_neg (by decide +kernel), if_neg (by decide +kernel), if_neg (by decide +kernel), if_pos (by decide +kernel)]
theorem pq_b {E : Env0} {d : PyData} : partFits E ⟨#[98]⟩ d = isList d := by
  unfold partFits
  rw [if_neg (by decide +kernel), if_neg (by decide +kernel), if_neg (by decide +kernel), if_neg (by decide +kernel), if_pos (by decide +kernel)]
theorem pq_t {E : Env0} {d : PyData} : partFits E ⟨#[116]⟩ d = isBranches d := by
  unfold partFits
  rw [if_neg (by decide +kernel), if_neg (by decide +kernel), if_neg (by decide +kernel), if_neg (by decide +kernel), if_neg (by decide +kernel), if_pos (by decide +kernel)]
theorem pq_l {E : Env0} {d : PyData} : partFits E ⟨#[108]⟩ d = isWord d := by
  unfold partFits
  rw [if_neg (by decide +kernel), if_neg (by decide +kernel), if_neg (by decide +kernel), if_neg (by decide +kernel), if_neg (by decide +kernel), if_neg (by decide +kernel)]
theorem pq_w {E : Env0} {d : PyData} : partFits E ⟨#[119]⟩ d = isWord d := by
  unfold partFits
  rw [if_neg (by decide +kernel), if_neg (by decide +kernel), if_neg (by decide +kernel), if_neg (by decide +kernel), if_neg (by decide +kernel), if_neg (by decide +kernel)]
theorem pq_r {E : Env0} {d : PyData} : partFits E ⟨#[114]⟩ d = isWord d := by
  unfold partFits
  rw [if_neg (by decide +kernel), if_neg (by decide +kernel), if_neg (by decide +kernel), if_neg (by decide +kernel), if_neg (by decide +kernel), if_neg (by decide +kernel)]
theorem pq_i {E : Env0} {d : PyData} : partFits E ⟨#[105]⟩ d = isWord d := by
  unfold partFits
  rw [if_neg (by decide +kernel), if_neg (by decide +kernel), if_neg (by decide +kernel), if_neg (by decide +kernel), if_neg (by decide +kernel), if_neg (by decide +kernel)]
/-! ### what is collected stays within the names -/
def InS (zs xs : List Str) : Prop := xs.Nodup ∧ ∀ x ∈ xs, x ∈ zs
theorem InS.put {zs xs : List Str} {s : Str} (h : InS zs xs) (hs : s ∈ zs) : InS zs (putW xs s) := by
  unfold putW
  split
  · exact h
  · rename_i n
    refine ⟨List.nodup_append.mpr ⟨h.1, by simp, fun a ha b hb => ?_⟩, fun y hy => ?_⟩
    · rw [List.mem_singleton.mp hb]
      exact fun e => n (by rw [← e]; exact ha)
    · rcases List.mem_append.mp hy with hy | hy
      · exact h.2 y hy
      · rw [List.mem_singleton.mp hy]
        exact hs
theorem InS.fold {zs : List Str} : ∀ {ys xs : List Str}, InS zs xs → (∀ y ∈ ys, y ∈ zs) → InS zs (ys.foldl putW xs)
  | [], xs, h, _ => h
  | y :: r, xs, h, k => InS.fold (ys := r) (h.put (k y List.mem_cons_self)) fun z hz => k z (List.mem_cons_of_mem _ hz)
theorem nodup_sub : ∀ {l m : List Str}, l.Nodup → (∀ x ∈ l, x ∈ m) → l.length ≤ m.length
  | [], _, _, _ => Nat.zero_le _
  | x :: r, m, h, s => by
    obtain ⟨h1, h2⟩ := List.nodup_cons.mp h
    have hx := s x List.mem_cons_self
    have := nodup_sub (l := r) (m := m.erase x) h2 fun y hy => by
      have hne : y ≠ x := fun e => h1 (by rw [← e]; exact hy)
      exact (List.mem_erase_of_ne hne).mpr (s y (List.mem_cons_of_mem _ hy))
    rw [List.length_erase_of_mem hx] at this
    have hp := List.length_pos_of_mem hx
    rw [List.length_cons]
    omega
structure Mv (G : Gn) (c c' : Chk) (k : Nat) : Prop where
  lab : InS G.labels c.labels → InS G.labels c'.labels
  slo : InS G.slots c.slots → InS G.slots c'.slots
  gat : InS G.ids c.gates → InS G.ids c'.gates
  edi : c'.edits = c.edits
  tot : c'.total = c.total + k
theorem Mv.refl (G : Gn) (c : Chk) : Mv G c c 0 := ⟨fun z => z, fun z => z, fun z => z, rfl, by omega⟩
theorem Mv.trans {G : Gn} {a b c : Chk} {k m : Nat} (h : Mv G a b k) (h' : Mv G b c m) : Mv G a c (k + m) := ⟨fun z => h'.lab (h.lab z), fun z => h'.slo (h.slo z), fun z => h'.gat (h.gat z), h'.edi.trans h.edi, by rw [h'.tot, h.tot]; omega⟩
theorem Mv.one {G : Gn} {c c' : Chk} (h : Mv G { c with total := c.total + 1 } c' 0) : Mv G c c' 1 := ⟨h.lab, h.slo, h.gat, h.edi, by rw [h.tot]; show c.total + 1 + 0 = _; omega⟩
section
variable {G : Gn} {c : Chk} {kind : Str}
theorem mv_l {x : Str} (h : x ∈ G.labels) : Mv G c (colPart kind c ⟨#[108]⟩ (.str x)) 0 := by
  unfold colPart
  rw [if_pos (by decide +kernel)]
  exact ⟨fun z => z.put h, fun z => z, fun z => z, rfl, by show c.total = c.total + 0; omega⟩
theorem mv_m {ls : List Str} (h : ∀ l ∈ ls, l ∈ G.labels) : Mv G c (colPart kind c ⟨#[109]⟩ (.tuple (ls.map .str))) 0 := by
  unfold colPart
  rw [if_neg (by decide +kernel), if_pos (by decide +kernel)]
  refine ⟨fun z => ?_, fun z => z, fun z => z, rfl, by show c.total = c.total + 0; omega⟩
  show InS G.labels (((ls.map PyData.str).map strOf).foldl putW c.labels)
  rw [map_strOf]
  exact z.fold h
theorem mv_sr {ch : Nat} {x : Str} (hc : ch = 115 ∨ ch = 114) (h : inS G x) : Mv G c (colPart kind c ⟨#[ch]⟩ (.str x)) 0 := by
  unfold colPart
  rw [if_neg (by rcases hc with rfl | rfl <;> decide +kernel), if_neg (by rcases hc with rfl | rfl <;> decide +kernel)]
  by_cases e : x = "in"
  · rw [if_neg (fun z => z.2 e), if_neg (fun z => by rcases hc with rfl | rfl <;> exact absurd z.1 (by decide +kernel)), if_neg (by rcases hc with rfl | rfl <;> decide +kernel)]
    exact Mv.refl G c
  · rw [if_pos ⟨by rcases hc with rfl | rfl <;> decide +kernel, e⟩]
    exact ⟨fun z => z, fun z => z.put (h.elim id fun w => absurd w e), fun z => z, rfl, by show c.total = c.total + 0; omega⟩
theorem mv_i {x : Str} (hk : kind ≠ "edit") (h : x ∈ G.ids) : Mv G c (colPart kind c ⟨#[105]⟩ (.str x)) 0 := by
  unfold colPart
  rw [if_neg (by decide +kernel), if_neg (by decide +kernel), if_neg (fun z => absurd z.1 (by decide +kernel)), if_neg (fun z => hk z.2), if_pos (by decide +kernel)]
  exact ⟨fun z => z, fun z => z, fun z => z.put h, rfl, by show c.total = c.total + 0; omega⟩
theorem mv_a {d : PyData} : Mv G c (colPart kind c ⟨#[97]⟩ d) 0 := by
  unfold colPart
  rw [if_neg (by decide +kernel), if_neg (by decide +kernel), if_neg (fun z => absurd z.1 (by decide +kernel)), if_neg (fun z => absurd z.1 (by decide +kernel)), if_neg (by decide +kernel)]
  exact Mv.refl G c
theorem mv_g {d : PyData} : Mv G c (colPart kind c ⟨#[103]⟩ d) 0 := by
  unfold colPart
  rw [if_neg (by decide +kernel), if_neg (by decide +kernel), if_neg (fun z => absurd z.1 (by decide +kernel)), if_neg (fun z => absurd z.1 (by decide +kernel)), if_neg (by decide +kernel)]
  exact Mv.refl G c
theorem mv_w {d : PyData} : Mv G c (colPart kind c ⟨#[119]⟩ d) 0 := by
  unfold colPart
  rw [if_neg (by decide +kernel), if_neg (by decide +kernel), if_neg (fun z => absurd z.1 (by decide +kernel)), if_neg (fun z => absurd z.1 (by decide +kernel)), if_neg (by decide +kernel)]
  exact Mv.refl G c
theorem mv_v {d : PyData} : Mv G c (colPart kind c ⟨#[118]⟩ d) 0 := by
  unfold colPart
  rw [if_neg (by decide +kernel), if_neg (by decide +kernel), if_neg (fun z => absurd z.1 (by decide +kernel)), if_neg (fun z => absurd z.1 (by decide +kernel)), if_neg (by decide +kernel)]
  exact Mv.refl G c
theorem mv_b {d : PyData} : Mv G c (colPart kind c ⟨#[98]⟩ d) 0 := by
  unfold colPart
  rw [if_neg (by decide +kernel), if_neg (by decide +kernel), if_neg (fun z => absurd z.1 (by decide +kernel)), if_neg (fun z => absurd z.1 (by decide +kernel)), if_neg (by decide +kernel)]
  exact Mv.refl G c
theorem mv_t {d : PyData} : Mv G c (colPart kind c ⟨#[116]⟩ d) 0 := by
  unfold colPart
  rw [if_neg (by decide +kernel), if_neg (by decide +kernel), if_neg (fun z => absurd z.1 (by decide +kernel)), if_neg (fun z => absurd z.1 (by decide +kernel)), if_neg (by decide +kernel)]
  exact Mv.refl G c
end
/-- lists of rows, checked one after another -/
theorem in_ok {G : Gn} {f : List PyData → List Int → Chk → Out} {cn : List PyData → Nat} : ∀ (ls : List (List PyData)) (pre : List Int) (j : Nat) (c : Chk), c.edits = [] → (∀ a ∈ ls, ∀ pre c, c.edits = [] → ∃ c', f a pre c = .ok c' ∧ Mv G c c' (cn a)) → ∃ c', chkIn f pre (ls.map .list) j c = .ok c' ∧ Mv G c c' ((ls.map cn).sum)
  | [], pre, j, c, _, _ => ⟨c, rfl, Mv.refl G c⟩
  | a :: r, pre, j, c, he, h => by
    obtain ⟨c1, h1, m1⟩ := h a List.mem_cons_self (pre ++ [(j : Int)]) c he
    obtain ⟨c2, h2, m2⟩ := in_ok r pre (j + 1) c1 (m1.edi.trans he) fun a ha => h a (List.mem_cons_of_mem _ ha)
    refine ⟨c2, ?_, ?_⟩
    · rw [List.map_cons, chkIn_cons]
      show contR _ (f a (pre ++ [(j : Int)]) c) = _
      rw [h1]
      exact h2
    · rw [List.map_cons, List.sum_cons]
      exact m1.trans m2
structure EnvV (E : Env0) (G : Gn) : Prop where
  a : ∀ x ∈ G.asks, x ∈ E.asks
  b : ∀ x ∈ G.boxes, x ∈ E.sigs
  w : E.we = false
theorem in_not {G : Gn} (gv : GnV G) {s : Str} (h : s ∈ G.slots) : ¬ s = "in" := fun e => gv.noin (e ▸ h)
theorem inS_word {G : Gn} (gv : GnV G) {s : Str} (h : inS G s) : isWordS s = true := by
  rcases h with h | rfl
  · exact name_word (gv.slots.2.2 s h)
  · decide +kernel
theorem and2 {a b : Bool} (h1 : a = true) (h2 : b = true) : (a && b) = true := by rw [h1, h2]; rfl
theorem npos {G : Gn} {n : Nat} {lp : Bool} {ds : List PyData} (h : GRows G n lp ds) : 1 ≤ n := by
  cases n with
  | zero => exact h.elim
  | succ n => omega
theorem box_word {G : Gn} (gv : GnV G) {b : Str} (h : b ∈ G.boxes) : isWordS b = true := gv.boxes.2.2 b h
theorem br_ok {ls : List (List PyData)} (h1 : 2 ≤ ls.length) (h2 : ls.length ≤ 3) : isBranches (.tuple (ls.map .list)) = true := by
  show (decide (2 ≤ (ls.map PyData.list).length ∧ (ls.map PyData.list).length ≤ 3) && (ls.map PyData.list).all isList) = true
  rw [List.length_map, decide_eq_true ⟨h1, h2⟩]
  exact List.all_eq_true.mpr fun x hx => by
    obtain ⟨a, _, rfl⟩ := List.mem_map.mp hx
    rfl
theorem in_same {lp : Bool} {kind : Str} (h1 : kind ≠ "both") (h2 : kind ≠ "loop") : inside lp kind = lp := by
  unfold inside
  rw [if_neg h1, decide_eq_false h2, Bool.or_false]
theorem in_loop {lp : Bool} : inside lp "loop" = true := by
  unfold inside
  rw [if_neg (by decide +kernel), decide_eq_true rfl, Bool.or_true]
theorem in_both {lp : Bool} : inside lp "both" = false := by
  unfold inside
  rw [if_pos rfl]
theorem flat_innerL {kind : Str} {ps : List PyData} (hk : kind ≠ "both") (h : ∀ x ∈ ps, isList x = false) : innerL kind ps = [] := flat_in hk h
theorem flat_cnt {rec : List PyData → Nat} {kind : Str} {ps : List PyData} (hk : kind ≠ "both") (h : ∀ x ∈ ps, isList x = false) : cntR rec (.tuple (.str kind :: ps)) = 1 := by
  unfold cntR
  rw [flat_in hk h]
  rfl
theorem grow_chk {G : Gn} (gv : GnV G) {E : Env0} (ev : EnvV E G) {n : Nat} (hn : n < 5) (ih : ∀ lp ds, GRows G n lp ds → ∀ pre c, c.edits = [] → ∃ c', chkL E n lp ds pre c = .ok c' ∧ Mv G c c' (cntL n ds)) {lp : Bool} {d : PyData} (h : GRow G (GRows G n) lp d) (pre : List Int) (i0 : Nat) (c : Chk) (he : c.edits = []) : ∃ c', chkRow (chkL E n) E (5 - (n : Int)) lp pre d i0 c = .ok c' ∧ Mv G c c' (cntR (cntL n) d) := by
  cases h with
  | @ask a l ha hl =>
    have hm : Mv G { c with total := c.total + 1 } (collect { c with total := c.total + 1 } "ask" "al" [.str a, .str l]) 0 := by
      show Mv G _ (colPart "ask" (colPart "ask" { c with total := c.total + 1 } ⟨#[97]⟩ (.str a)) ⟨#[108]⟩ (.str l)) 0
      exact (mv_a.trans (mv_l hl))
    have hf : fitAll E "al" [.str a, .str l] = true := by
      show (partFits E ⟨#[97]⟩ (.str a) && (partFits E ⟨#[108]⟩ (.str l) && true)) = true
      exact (and2 (by rw [pq_a]; show (isWordS a && decide (a ∈ E.asks)) = true; rw [name_word (gv.asks.2.2 a ha), decide_eq_true (ev.a a ha)]; rfl) (and2 (by rw [pq_l]; exact name_word (gv.labels.2.2 l hl)) rfl))
    rw [row_ok (sh := "al") (by decide +kernel) (by decide +kernel) (fun z => absurd z (by decide +kernel)) (by show 2 = _; decide +kernel) (fun z => absurd z (by decide +kernel)) hf (id_gate0 (by decide +kernel) he)]
    rw [flat_innerL (kind := "ask") (by decide +kernel) (by intro x hx; simp only [List.mem_cons, List.not_mem_nil, or_false] at hx; rcases hx with rfl | rfl <;> rfl)]
    refine ⟨_, rfl, ?_⟩
    rw [flat_cnt (kind := "ask") (by decide +kernel) (by intro x hx; simp only [List.mem_cons, List.not_mem_nil, or_false] at hx; rcases hx with rfl | rfl <;> rfl)]
    exact hm.one
  | @timer l hl =>
    have hm : Mv G { c with total := c.total + 1 } (collect { c with total := c.total + 1 } "timer" "l" [.str l]) 0 := by
      show Mv G _ (colPart "timer" { c with total := c.total + 1 } ⟨#[108]⟩ (.str l)) 0
      exact (mv_l hl)
    have hf : fitAll E "l" [.str l] = true := by
      show (partFits E ⟨#[108]⟩ (.str l) && true) = true
      exact (and2 (by rw [pq_l]; exact name_word (gv.labels.2.2 l hl)) rfl)
    rw [row_ok (sh := "l") (by decide +kernel) (by decide +kernel) (fun z => absurd z (by decide +kernel)) (by show 1 = _; decide +kernel) (fun z => absurd z (by decide +kernel)) hf (id_gate0 (by decide +kernel) he)]
    rw [flat_innerL (kind := "timer") (by decide +kernel) (by intro x hx; simp only [List.mem_cons, List.not_mem_nil, or_false] at hx; rcases hx with rfl <;> rfl)]
    refine ⟨_, rfl, ?_⟩
    rw [flat_cnt (kind := "timer") (by decide +kernel) (by intro x hx; simp only [List.mem_cons, List.not_mem_nil, or_false] at hx; rcases hx with rfl <;> rfl)]
    exact hm.one
  | @await l s hl hs =>
    have hm : Mv G { c with total := c.total + 1 } (collect { c with total := c.total + 1 } "await" "ls" [.str l, .str s]) 0 := by
      show Mv G _ (colPart "await" (colPart "await" { c with total := c.total + 1 } ⟨#[108]⟩ (.str l)) ⟨#[115]⟩ (.str s)) 0
      exact ((mv_l hl).trans (mv_sr (.inl rfl) (.inl hs)))
    have hf : fitAll E "ls" [.str l, .str s] = true := by
      show (partFits E ⟨#[108]⟩ (.str l) && (partFits E ⟨#[115]⟩ (.str s) && true)) = true
      exact (and2 (by rw [pq_l]; exact name_word (gv.labels.2.2 l hl)) (and2 (by rw [pq_s]; show (isWordS s && !decide (s = "in")) = true; rw [name_word (gv.slots.2.2 s hs), decide_eq_false (in_not gv hs)]; rfl) rfl))
    rw [row_ok (sh := "ls") (by decide +kernel) (by decide +kernel) (fun z => absurd z (by decide +kernel)) (by show 2 = _; decide +kernel) (fun z => absurd z (by decide +kernel)) hf (id_gate0 (by decide +kernel) he)]
    rw [flat_innerL (kind := "await") (by decide +kernel) (by intro x hx; simp only [List.mem_cons, List.not_mem_nil, or_false] at hx; rcases hx with rfl | rfl <;> rfl)]
    refine ⟨_, rfl, ?_⟩
    rw [flat_cnt (kind := "await") (by decide +kernel) (by intro x hx; simp only [List.mem_cons, List.not_mem_nil, or_false] at hx; rcases hx with rfl | rfl <;> rfl)]
    exact hm.one
  | @first ls s hls hnd h1 h3 hs =>
    have hm : Mv G { c with total := c.total + 1 } (collect { c with total := c.total + 1 } "first" "ms" [.tuple (ls.map .str), .str s]) 0 := by
      show Mv G _ (colPart "first" (colPart "first" { c with total := c.total + 1 } ⟨#[109]⟩ (.tuple (ls.map .str))) ⟨#[115]⟩ (.str s)) 0
      exact ((mv_m hls).trans (mv_sr (.inl rfl) (.inl hs)))
    have hf : fitAll E "ms" [.tuple (ls.map .str), .str s] = true := by
      show (partFits E ⟨#[109]⟩ (.tuple (ls.map .str)) && (partFits E ⟨#[115]⟩ (.str s) && true)) = true
      exact (and2 (by rw [pq_m]; exact words_ok h1 (by omega) hnd fun z hz => name_word (gv.labels.2.2 z (hls z hz))) (and2 (by rw [pq_s]; show (isWordS s && !decide (s = "in")) = true; rw [name_word (gv.slots.2.2 s hs), decide_eq_false (in_not gv hs)]; rfl) rfl))
    rw [row_ok (sh := "ms") (by decide +kernel) (by decide +kernel) (fun z => absurd z (by decide +kernel)) (by show 2 = _; decide +kernel) (fun z => absurd z (by decide +kernel)) hf (id_gate0 (by decide +kernel) he)]
    rw [flat_innerL (kind := "first") (by decide +kernel) (by intro x hx; simp only [List.mem_cons, List.not_mem_nil, or_false] at hx; rcases hx with rfl | rfl <;> rfl)]
    refine ⟨_, rfl, ?_⟩
    rw [flat_cnt (kind := "first") (by decide +kernel) (by intro x hx; simp only [List.mem_cons, List.not_mem_nil, or_false] at hx; rcases hx with rfl | rfl <;> rfl)]
    exact hm.one
  | @drop l hl =>
    have hm : Mv G { c with total := c.total + 1 } (collect { c with total := c.total + 1 } "drop" "l" [.str l]) 0 := by
      show Mv G _ (colPart "drop" { c with total := c.total + 1 } ⟨#[108]⟩ (.str l)) 0
      exact (mv_l hl)
    have hf : fitAll E "l" [.str l] = true := by
      show (partFits E ⟨#[108]⟩ (.str l) && true) = true
      exact (and2 (by rw [pq_l]; exact name_word (gv.labels.2.2 l hl)) rfl)
    rw [row_ok (sh := "l") (by decide +kernel) (by decide +kernel) (fun z => absurd z (by decide +kernel)) (by show 1 = _; decide +kernel) (fun z => absurd z (by decide +kernel)) hf (id_gate0 (by decide +kernel) he)]
    rw [flat_innerL (kind := "drop") (by decide +kernel) (by intro x hx; simp only [List.mem_cons, List.not_mem_nil, or_false] at hx; rcases hx with rfl <;> rfl)]
    refine ⟨_, rfl, ?_⟩
    rw [flat_cnt (kind := "drop") (by decide +kernel) (by intro x hx; simp only [List.mem_cons, List.not_mem_nil, or_false] at hx; rcases hx with rfl <;> rfl)]
    exact hm.one
  | @take b s hb hs =>
    have hm : Mv G { c with total := c.total + 1 } (collect { c with total := c.total + 1 } "take" "gs" [.str b, .str s]) 0 := by
      show Mv G _ (colPart "take" (colPart "take" { c with total := c.total + 1 } ⟨#[103]⟩ (.str b)) ⟨#[115]⟩ (.str s)) 0
      exact (mv_g.trans (mv_sr (.inl rfl) (.inl hs)))
    have hf : fitAll E "gs" [.str b, .str s] = true := by
      show (partFits E ⟨#[103]⟩ (.str b) && (partFits E ⟨#[115]⟩ (.str s) && true)) = true
      exact (and2 (by rw [pq_g]; show (isWordS b && decide (b ∈ E.sigs)) = true; rw [box_word gv hb, decide_eq_true (ev.b b hb)]; rfl) (and2 (by rw [pq_s]; show (isWordS s && !decide (s = "in")) = true; rw [name_word (gv.slots.2.2 s hs), decide_eq_false (in_not gv hs)]; rfl) rfl))
    rw [row_ok (sh := "gs") (by decide +kernel) (by decide +kernel) (fun z => absurd z (by decide +kernel)) (by show 2 = _; decide +kernel) (fun z => absurd z (by decide +kernel)) hf (id_gate0 (by decide +kernel) he)]
    rw [flat_innerL (kind := "take") (by decide +kernel) (by intro x hx; simp only [List.mem_cons, List.not_mem_nil, or_false] at hx; rcases hx with rfl | rfl <;> rfl)]
    refine ⟨_, rfl, ?_⟩
    rw [flat_cnt (kind := "take") (by decide +kernel) (by intro x hx; simp only [List.mem_cons, List.not_mem_nil, or_false] at hx; rcases hx with rfl | rfl <;> rfl)]
    exact hm.one
  | @note s ws hs hw =>
    have hm : Mv G { c with total := c.total + 1 } (collect { c with total := c.total + 1 } "note" "sv" [.str s, .tuple (ws.map .str)]) 0 := by
      show Mv G _ (colPart "note" (colPart "note" { c with total := c.total + 1 } ⟨#[115]⟩ (.str s)) ⟨#[118]⟩ (.tuple (ws.map .str))) 0
      exact ((mv_sr (.inl rfl) (.inl hs)).trans mv_v)
    have hf : fitAll E "sv" [.str s, .tuple (ws.map .str)] = true := by
      show (partFits E ⟨#[115]⟩ (.str s) && (partFits E ⟨#[118]⟩ (.tuple (ws.map .str)) && true)) = true
      exact (and2 (by rw [pq_s]; show (isWordS s && !decide (s = "in")) = true; rw [name_word (gv.slots.2.2 s hs), decide_eq_false (in_not gv hs)]; rfl) (and2 (by rw [pq_v]; exact hw) rfl))
    rw [row_ok (sh := "sv") (by decide +kernel) (by decide +kernel) (fun z => absurd z (by decide +kernel)) (by show 2 = _; decide +kernel) (fun z => absurd z (by decide +kernel)) hf (id_gate0 (by decide +kernel) he)]
    rw [flat_innerL (kind := "note") (by decide +kernel) (by intro x hx; simp only [List.mem_cons, List.not_mem_nil, or_false] at hx; rcases hx with rfl | rfl <;> rfl)]
    refine ⟨_, rfl, ?_⟩
    rw [flat_cnt (kind := "note") (by decide +kernel) (by intro x hx; simp only [List.mem_cons, List.not_mem_nil, or_false] at hx; rcases hx with rfl | rfl <;> rfl)]
    exact hm.one
  | @put s v hs hv =>
    have hm : Mv G { c with total := c.total + 1 } (collect { c with total := c.total + 1 } "put" "sw" [.str s, .str v]) 0 := by
      show Mv G _ (colPart "put" (colPart "put" { c with total := c.total + 1 } ⟨#[115]⟩ (.str s)) ⟨#[119]⟩ (.str v)) 0
      exact ((mv_sr (.inl rfl) (.inl hs)).trans mv_w)
    have hf : fitAll E "sw" [.str s, .str v] = true := by
      show (partFits E ⟨#[115]⟩ (.str s) && (partFits E ⟨#[119]⟩ (.str v) && true)) = true
      exact (and2 (by rw [pq_s]; show (isWordS s && !decide (s = "in")) = true; rw [name_word (gv.slots.2.2 s hs), decide_eq_false (in_not gv hs)]; rfl) (and2 (by rw [pq_w]; exact hv) rfl))
    rw [row_ok (sh := "sw") (by decide +kernel) (by decide +kernel) (fun z => absurd z (by decide +kernel)) (by show 2 = _; decide +kernel) (fun z => absurd z (by decide +kernel)) hf (id_gate0 (by decide +kernel) he)]
    rw [flat_innerL (kind := "put") (by decide +kernel) (by intro x hx; simp only [List.mem_cons, List.not_mem_nil, or_false] at hx; rcases hx with rfl | rfl <;> rfl)]
    refine ⟨_, rfl, ?_⟩
    rw [flat_cnt (kind := "put") (by decide +kernel) (by intro x hx; simp only [List.mem_cons, List.not_mem_nil, or_false] at hx; rcases hx with rfl | rfl <;> rfl)]
    exact hm.one
  | @fin r hr =>
    have hm : Mv G { c with total := c.total + 1 } (collect { c with total := c.total + 1 } "end" "r" [.str r]) 0 := by
      show Mv G _ (colPart "end" { c with total := c.total + 1 } ⟨#[114]⟩ (.str r)) 0
      exact (mv_sr (.inr rfl) hr)
    have hf : fitAll E "r" [.str r] = true := by
      show (partFits E ⟨#[114]⟩ (.str r) && true) = true
      exact (and2 (by rw [pq_r]; exact inS_word gv hr) rfl)
    rw [row_ok (sh := "r") (by decide +kernel) (by decide +kernel) (fun z => absurd z (by decide +kernel)) (by show 1 = _; decide +kernel) (fun z => absurd z (by decide +kernel)) hf (id_gate0 (by decide +kernel) he)]
    rw [flat_innerL (kind := "end") (by decide +kernel) (by intro x hx; simp only [List.mem_cons, List.not_mem_nil, or_false] at hx; rcases hx with rfl <;> rfl)]
    refine ⟨_, rfl, ?_⟩
    rw [flat_cnt (kind := "end") (by decide +kernel) (by intro x hx; simp only [List.mem_cons, List.not_mem_nil, or_false] at hx; rcases hx with rfl <;> rfl)]
    exact hm.one
  | @anew r hr =>
    have hm : Mv G { c with total := c.total + 1 } (collect { c with total := c.total + 1 } "anew" "r" [.str r]) 0 := by
      show Mv G _ (colPart "anew" { c with total := c.total + 1 } ⟨#[114]⟩ (.str r)) 0
      exact (mv_sr (.inr rfl) hr)
    have hf : fitAll E "r" [.str r] = true := by
      show (partFits E ⟨#[114]⟩ (.str r) && true) = true
      exact (and2 (by rw [pq_r]; exact inS_word gv hr) rfl)
    rw [row_ok (sh := "r") (by decide +kernel) (by decide +kernel) (fun z => absurd z (by decide +kernel)) (by show 1 = _; decide +kernel) (fun z => absurd z (by decide +kernel)) hf (id_gate0 (by decide +kernel) he)]
    rw [flat_innerL (kind := "anew") (by decide +kernel) (by intro x hx; simp only [List.mem_cons, List.not_mem_nil, or_false] at hx; rcases hx with rfl <;> rfl)]
    refine ⟨_, rfl, ?_⟩
    rw [flat_cnt (kind := "anew") (by decide +kernel) (by intro x hx; simp only [List.mem_cons, List.not_mem_nil, or_false] at hx; rcases hx with rfl <;> rfl)]
    exact hm.one
  | leave hlp =>
    have hm : Mv G { c with total := c.total + 1 } (collect { c with total := c.total + 1 } "leave" "" []) 0 := by
      show Mv G _ { c with total := c.total + 1 } 0
      exact (Mv.refl G _)
    have hf : fitAll E "" [] = true := by
      show true = true
      exact rfl
    rw [row_ok (sh := "") (by decide +kernel) (by decide +kernel) (fun _ => hlp) (by show 0 = _; decide +kernel) (fun z => absurd z (by decide +kernel)) hf (id_gate0 (by decide +kernel) he)]
    rw [flat_innerL (kind := "leave") (by decide +kernel) (by intro x hx; cases hx)]
    refine ⟨_, rfl, ?_⟩
    rw [flat_cnt (kind := "leave") (by decide +kernel) (by intro x hx; cases hx)]
    exact hm.one
  | @cond r v a b hr hv ga gb =>
    have hm : Mv G { c with total := c.total + 1 } (collect { c with total := c.total + 1 } "if" "rwbb" [.str r, .str v, .list a, .list b]) 0 := by
      show Mv G _ (colPart "if" (colPart "if" (colPart "if" (colPart "if" { c with total := c.total + 1 } ⟨#[114]⟩ (.str r)) ⟨#[119]⟩ (.str v)) ⟨#[98]⟩ (.list a)) ⟨#[98]⟩ (.list b)) 0
      exact ((((mv_sr (.inr rfl) hr).trans mv_w).trans mv_b).trans mv_b)
    have hf : fitAll E "rwbb" [.str r, .str v, .list a, .list b] = true := by
      show (partFits E ⟨#[114]⟩ (.str r) && (partFits E ⟨#[119]⟩ (.str v) && (partFits E ⟨#[98]⟩ (.list a) && (partFits E ⟨#[98]⟩ (.list b) && true)))) = true
      exact (and2 (by rw [pq_r]; exact inS_word gv hr) (and2 (by rw [pq_w]; exact hv) (and2 (by rw [pq_b]; rfl) (and2 (by rw [pq_b]; rfl) rfl))))
    have hn1 : 1 ≤ n := npos ga
    rw [row_ok (sh := "rwbb") (by decide +kernel) (by decide +kernel) (fun z => absurd z (by decide +kernel)) (by show 4 = _; decide +kernel) (fun _ => by omega) hf (id_gate0 (by decide +kernel) he)]
    rw [show innerL "if" [.str r, .str v, .list a, .list b] = ([a, b] : List (List PyData)).map .list by unfold innerL; rw [if_neg (by decide +kernel)]; rfl, in_same (by decide +kernel) (by decide +kernel)]
    obtain ⟨c2, h2, m2⟩ := in_ok (G := G) (f := chkL E n lp) (cn := cntL n) [a, b] (pre ++ [(i0 : Int)]) 0 (collect { c with total := c.total + 1 } "if" "rwbb" [.str r, .str v, .list a, .list b]) (hm.edi.trans he) (fun x hx => by
      simp only [List.mem_cons, List.not_mem_nil, or_false] at hx
      rcases hx with rfl | rfl
      · exact ih lp _ ga
      · exact ih lp _ gb)
    refine ⟨c2, h2, ?_⟩
    rw [cntR2 (by decide +kernel) rfl]
    have := hm.one.trans m2
    simpa [List.sum_cons] using this
  | @loop a ga =>
    have hm : Mv G { c with total := c.total + 1 } (collect { c with total := c.total + 1 } "loop" "b" [.list a]) 0 := by
      show Mv G _ (colPart "loop" { c with total := c.total + 1 } ⟨#[98]⟩ (.list a)) 0
      exact mv_b
    have hf : fitAll E "b" [.list a] = true := by
      show (partFits E ⟨#[98]⟩ (.list a) && true) = true
      exact (and2 (by rw [pq_b]; rfl) rfl)
    have hn1 : 1 ≤ n := npos ga
    rw [row_ok (sh := "b") (by decide +kernel) (by decide +kernel) (fun z => absurd z (by decide +kernel)) (by show 1 = _; decide +kernel) (fun _ => by omega) hf (id_gate0 (by decide +kernel) he)]
    rw [show innerL "loop" [.list a] = ([a] : List (List PyData)).map .list by unfold innerL; rw [if_neg (by decide +kernel)]; rfl, in_loop]
    obtain ⟨c2, h2, m2⟩ := in_ok (G := G) (f := chkL E n true) (cn := cntL n) [a] (pre ++ [(i0 : Int)]) 0 (collect { c with total := c.total + 1 } "loop" "b" [.list a]) (hm.edi.trans he) (fun x hx => by
      simp only [List.mem_cons, List.not_mem_nil, or_false] at hx
      rcases hx with rfl
      · exact ih true _ ga)
    refine ⟨c2, h2, ?_⟩
    rw [cntR1 (by decide +kernel) rfl]
    have := hm.one.trans m2
    simpa [List.sum_cons] using this
  | @part a ga =>
    have hm : Mv G { c with total := c.total + 1 } (collect { c with total := c.total + 1 } "part" "b" [.list a]) 0 := by
      show Mv G _ (colPart "part" { c with total := c.total + 1 } ⟨#[98]⟩ (.list a)) 0
      exact mv_b
    have hf : fitAll E "b" [.list a] = true := by
      show (partFits E ⟨#[98]⟩ (.list a) && true) = true
      exact (and2 (by rw [pq_b]; rfl) rfl)
    have hn1 : 1 ≤ n := npos ga
    rw [row_ok (sh := "b") (by decide +kernel) (by decide +kernel) (fun z => absurd z (by decide +kernel)) (by show 1 = _; decide +kernel) (fun _ => by omega) hf (id_gate0 (by decide +kernel) he)]
    rw [show innerL "part" [.list a] = ([a] : List (List PyData)).map .list by unfold innerL; rw [if_neg (by decide +kernel)]; rfl, in_same (by decide +kernel) (by decide +kernel)]
    obtain ⟨c2, h2, m2⟩ := in_ok (G := G) (f := chkL E n lp) (cn := cntL n) [a] (pre ++ [(i0 : Int)]) 0 (collect { c with total := c.total + 1 } "part" "b" [.list a]) (hm.edi.trans he) (fun x hx => by
      simp only [List.mem_cons, List.not_mem_nil, or_false] at hx
      rcases hx with rfl
      · exact ih lp _ ga)
    refine ⟨c2, h2, ?_⟩
    rw [cntR1 (by decide +kernel) rfl]
    have := hm.one.trans m2
    simpa [List.sum_cons] using this
  | @both ls h1 h2 hls =>
    have hm : Mv G { c with total := c.total + 1 } (collect { c with total := c.total + 1 } "both" "t" [.tuple (ls.map .list)]) 0 := by
      show Mv G _ (colPart "both" { c with total := c.total + 1 } ⟨#[116]⟩ (.tuple (ls.map .list))) 0
      exact mv_t
    have hf : fitAll E "t" [.tuple (ls.map .list)] = true := by
      show (partFits E ⟨#[116]⟩ (.tuple (ls.map .list)) && true) = true
      exact (and2 (by rw [pq_t]; exact br_ok h1 h2) rfl)
    obtain ⟨x0, hx0⟩ : ∃ x0, x0 ∈ ls := by
      cases ls with
      | nil => exact absurd h1 (by decide)
      | cons x r => exact ⟨x, List.mem_cons_self⟩
    have hn1 : 1 ≤ n := npos (hls x0 hx0)
    rw [row_ok (sh := "t") (by decide +kernel) (by decide +kernel) (fun z => absurd z (by decide +kernel)) (by show 1 = _; decide +kernel) (fun _ => by omega) hf (id_gate0 (by decide +kernel) he)]
    rw [show innerL "both" [.tuple (ls.map .list)] = ls.map .list by unfold innerL; rw [if_pos rfl], in_both]
    obtain ⟨c2, h2', m2⟩ := in_ok (G := G) (f := chkL E n false) (cn := cntL n) ls (pre ++ [(i0 : Int)]) 0 (collect { c with total := c.total + 1 } "both" "t" [.tuple (ls.map .list)]) (hm.edi.trans he) (fun x hx => ih false x (hls x hx))
    refine ⟨c2, h2', ?_⟩
    have e : cntR (cntL n) (.tuple [.str "both", .tuple (ls.map .list)]) = 1 + (ls.map (cntL n)).sum := by
      show 1 + ((innerL "both" [.tuple (ls.map .list)]).map fun x => cntL n (listOf x)).sum = _
      unfold innerL
      rw [if_pos rfl]
      show 1 + ((ls.map PyData.list).map fun x => cntL n (listOf x)).sum = _
      rw [List.map_map]
      rfl
    rw [e]
    exact hm.one.trans m2
  | @gate i a b hi ga gb =>
    have hm : Mv G { c with total := c.total + 1 } (collect { c with total := c.total + 1 } "gate" "ibb" [.str i, .list a, .list b]) 0 := by
      show Mv G _ (colPart "gate" (colPart "gate" (colPart "gate" { c with total := c.total + 1 } ⟨#[105]⟩ (.str i)) ⟨#[98]⟩ (.list a)) ⟨#[98]⟩ (.list b)) 0
      exact (((mv_i (by decide +kernel) hi).trans mv_b).trans mv_b)
    have hf : fitAll E "ibb" [.str i, .list a, .list b] = true := by
      show (partFits E ⟨#[105]⟩ (.str i) && (partFits E ⟨#[98]⟩ (.list a) && (partFits E ⟨#[98]⟩ (.list b) && true))) = true
      exact (and2 (by rw [pq_i]; exact name_word (gv.ids.2.2 i hi)) (and2 (by rw [pq_b]; rfl) (and2 (by rw [pq_b]; rfl) rfl)))
    have hn1 : 1 ≤ n := npos ga
    rw [row_ok (sh := "ibb") (by decide +kernel) (by decide +kernel) (fun z => absurd z (by decide +kernel)) (by show 3 = _; decide +kernel) (fun _ => by omega) hf (id_gate0 (by decide +kernel) he)]
    rw [show innerL "gate" [.str i, .list a, .list b] = ([a, b] : List (List PyData)).map .list by unfold innerL; rw [if_neg (by decide +kernel)]; rfl, in_same (by decide +kernel) (by decide +kernel)]
    obtain ⟨c2, h2, m2⟩ := in_ok (G := G) (f := chkL E n lp) (cn := cntL n) [a, b] (pre ++ [(i0 : Int)]) 0 (collect { c with total := c.total + 1 } "gate" "ibb" [.str i, .list a, .list b]) (hm.edi.trans he) (fun x hx => by
      simp only [List.mem_cons, List.not_mem_nil, or_false] at hx
      rcases hx with rfl | rfl
      · exact ih lp _ ga
      · exact ih lp _ gb)
    refine ⟨c2, h2, ?_⟩
    rw [cntR2 (by decide +kernel) rfl]
    have := hm.one.trans m2
    simpa [List.sum_cons] using this
  | @past i a hi ga =>
    have hm : Mv G { c with total := c.total + 1 } (collect { c with total := c.total + 1 } "past" "ib" [.str i, .list a]) 0 := by
      show Mv G _ (colPart "past" (colPart "past" { c with total := c.total + 1 } ⟨#[105]⟩ (.str i)) ⟨#[98]⟩ (.list a)) 0
      exact ((mv_i (by decide +kernel) hi).trans mv_b)
    have hf : fitAll E "ib" [.str i, .list a] = true := by
      show (partFits E ⟨#[105]⟩ (.str i) && (partFits E ⟨#[98]⟩ (.list a) && true)) = true
      exact (and2 (by rw [pq_i]; exact name_word (gv.ids.2.2 i hi)) (and2 (by rw [pq_b]; rfl) rfl))
    have hn1 : 1 ≤ n := npos ga
    rw [row_ok (sh := "ib") (by decide +kernel) (by decide +kernel) (fun z => absurd z (by decide +kernel)) (by show 2 = _; decide +kernel) (fun _ => by omega) hf (id_gate0 (by decide +kernel) he)]
    rw [show innerL "past" [.str i, .list a] = ([a] : List (List PyData)).map .list by unfold innerL; rw [if_neg (by decide +kernel)]; rfl, in_same (by decide +kernel) (by decide +kernel)]
    obtain ⟨c2, h2, m2⟩ := in_ok (G := G) (f := chkL E n lp) (cn := cntL n) [a] (pre ++ [(i0 : Int)]) 0 (collect { c with total := c.total + 1 } "past" "ib" [.str i, .list a]) (hm.edi.trans he) (fun x hx => by
      simp only [List.mem_cons, List.not_mem_nil, or_false] at hx
      rcases hx with rfl
      · exact ih lp _ ga)
    refine ⟨c2, h2, ?_⟩
    rw [cntR1 (by decide +kernel) rfl]
    have := hm.one.trans m2
    simpa [List.sum_cons] using this
theorem gen_chk {G : Gn} (gv : GnV G) {E : Env0} (ev : EnvV E G) : ∀ (n : Nat), n ≤ 5 → ∀ (lp : Bool) (ds : List PyData), GRows G n lp ds → ∀ (pre : List Int) (c : Chk), c.edits = [] → ∃ c', chkL E n lp ds pre c = .ok c' ∧ Mv G c c' (cntL n ds)
  | 0, _, _, _, h => h.elim
  | n + 1, hn, lp, ds, h => by
    have key : ∀ (l : List PyData) (i : Nat) (pre : List Int) (c : Chk), (∀ d ∈ l, GRow G (GRows G n) lp d) → c.edits = [] → ∃ c', chkRows (chkRow (chkL E n) E (5 - (n : Int)) lp pre) l i c = .ok c' ∧ Mv G c c' ((l.map (cntR (cntL n))).sum) := by
      intro l
      induction l with
      | nil => intro i pre c _ _; exact ⟨c, rfl, Mv.refl G c⟩
      | cons d r ih =>
        intro i pre c hl he
        obtain ⟨c1, h1, m1⟩ := grow_chk gv ev (by omega) (fun lp ds hd => gen_chk gv ev n (by omega) lp ds hd) (hl d List.mem_cons_self) pre i c he
        obtain ⟨c2, h2, m2⟩ := ih (i + 1) pre c1 (fun d hd => hl d (List.mem_cons_of_mem _ hd)) (m1.edi.trans he)
        refine ⟨c2, ?_, ?_⟩
        · rw [chkRows_cons]
          rw [h1]
          exact h2
        · rw [List.map_cons, List.sum_cons]
          exact m1.trans m2
    exact fun pre c he => key ds 0 pre c h he
end Op
namespace L2
open PySem PySem.Spec PyProof.Rows
section
variable {X : Cx}
/-- list(d.keys()) -/
theorem call_listKV (hcalm : X.calm = true) : CallR X (.type "list") (fun xs H Q => ∃ (p a : Addr) (kvs : List (Key × V)), xs = [.ref p] ∧ H p = some (keysO p a) ∧ Rd H a (.dK kvs) ∧ ∀ q, H q = none → Q (.ref q) (upd H q (.lst (kvs.map fun kv => kV kv.1)))) := by
  intro pins s σ H xs us Q I r q
  obtain ⟨p, a, kvs, rfl, hp, hd, q⟩ := q
  obtain ⟨u, rfl, rx⟩ := vals1 r
  cases rx
  have hview : PySem.W.KdlKeysView s.heap p a := (I.hok p _ hp).1
  obtain ⟨z, lo, vs, rel, dd⟩ := dk_rd I.hok hd
  obtain ⟨ep, hat⟩ := dd.dictAt
  have ek : (kvs.map fun kv => kV kv.1) = vs.map fun p => kV p.1 := by
    have e := congrArg (List.map kV) rel.keys
    rw [List.map_map, List.map_map] at e
    exact e
  refine PySem.W.kdl_call (PySem.W.kdl_keys (knd := mixKind X.prog X.w) (r := p) (d := a) (kvs := vs) (ep := ep)) (I.ok.hd hcalm) ⟨hview, hat⟩ (by rw [← rel.length]; exact z) fun h' tk acc c' hk hD hacc => ?_
  have hv : Vals (vs.map fun p => kV p.1) acc.toList := keys_at (by rw [Array.length_toList]; exact hacc.1) fun j v e => hacc.2 j v (by rw [← Array.getElem?_toList]; exact e)
  refine ⟨.ref s.heap.objs.size, upd H s.heap.objs.size (.lst (kvs.map fun kv => kV kv.1)), I.laid (t' := tk) hk (Nat.le_refl _)
    (show ObjOk X.prog X.w _ _ _ (.lst (kvs.map fun kv => kV kv.1)) from ⟨by rw [List.length_map]; exact z, acc.toList, c', by rw [ek]; exact hv, by rw [Array.toArray_toList]; exact hD⟩), rfl, q _ (I.hok.fresh (Nat.le_refl _))⟩
end
end L2
namespace Op
open PySem L2 PyProof.Rows
theorem KvsR.snoc {K : PySem.W.Frag} {H : Hp} {x : Str} {v : V} {d : PyData} (hv : Dp K H v d) : ∀ {vs : List (Key × V)} {kvs : List (Str × PyData)}, KvsR K H vs kvs → KvsR K H (vs ++ [(.inr x, v)]) (kvs ++ [(x, d)])
  | [], [], _ => ⟨rfl, hv, trivial⟩
  | (k, u) :: r, (y, e) :: t, ⟨h1, h2, h3⟩ => ⟨h1, h2, KvsR.snoc hv h3⟩
theorem KvsR.none {K : PySem.W.Frag} {H : Hp} {x : Str} {vs : List (Key × V)} {kvs : List (Str × PyData)} (h : KvsR K H vs kvs) (n : x ∉ kvs.map (·.1)) : valV vs (.inr x) = none := by
  have := h.has x
  rw [decide_eq_false n] at this
  cases q : valV vs (.inr x) with
  | none => rfl
  | some o => rw [q] at this; cases this
/-! ### a table with one more entry -/
def putP (t : List (Str × PyData)) (x : Str) (d : PyData) : List (Str × PyData) := if (t.any fun q => decide (q.1 = x)) = true then t.map (fun q => if q.1 = x then (q.1, d) else q) else t ++ [(x, d)]
section
variable {K : PySem.W.Frag} {H : Hp} {x : Str} {v : V} {d : PyData}
theorem KvsR.any : ∀ {vs : List (Key × V)} {t : List (Str × PyData)}, KvsR K H vs t → (vs.any fun kv => decide (kv.1 = (.inr x : Key))) = t.any fun q => decide (q.1 = x)
  | [], [], _ => rfl
  | (k, u) :: r, (y, e) :: t, ⟨h1, _, h3⟩ => by
    rw [List.any_cons, List.any_cons, KvsR.any h3, h1]
    congr 1
    by_cases z : y = x
    · rw [z, decide_eq_true rfl, decide_eq_true rfl]
    · rw [decide_eq_false z, decide_eq_false fun w => z (Sum.inr.inj w)]
theorem KvsR.set (hv : Dp K H v d) : ∀ {vs : List (Key × V)} {t : List (Str × PyData)}, KvsR K H vs t → KvsR K H (vs.map fun kv => if kv.1 = (.inr x : Key) then (kv.1, v) else kv) (t.map fun q => if q.1 = x then (q.1, d) else q)
  | [], [], _ => trivial
  | (k, u) :: r, (y, e) :: t, ⟨h1, h2, h3⟩ => by
    rw [List.map_cons, List.map_cons]
    by_cases z : y = x
    · rw [if_pos z, if_pos (h1.trans (congrArg Sum.inr z))]
      exact ⟨h1, hv, KvsR.set hv h3⟩
    · rw [if_neg z, if_neg fun w => z (Sum.inr.inj (h1.symm.trans w))]
      exact ⟨h1, h2, KvsR.set hv h3⟩
theorem KvsR.put {vs : List (Key × V)} {t : List (Str × PyData)} (h : KvsR K H vs t) (hv : Dp K H v d) : KvsR K H (putK vs (.inr x) v) (putP t x d) := by
  unfold putK putP
  rw [h.any]
  split
  · exact h.set hv
  · exact h.snoc hv
end
section
variable {t : List (Str × PyData)} {x : Str} {d : PyData}
theorem putP_keys : (putP t x d).map (·.1) = if x ∈ t.map (·.1) then t.map (·.1) else t.map (·.1) ++ [x] := by
  unfold putP
  by_cases z : x ∈ t.map (·.1)
  · rw [if_pos z, if_pos]
    · rw [List.map_map]
      refine List.map_congr_left fun q _ => ?_
      show (if q.1 = x then (q.1, d) else q).1 = q.1
      split <;> rfl
    · obtain ⟨q, hq, e⟩ := List.mem_map.mp z
      exact List.any_eq_true.mpr ⟨q, hq, decide_eq_true e⟩
  · rw [if_neg z, if_neg]
    · rw [List.map_append]
      rfl
    · intro h
      obtain ⟨q, hq, e⟩ := List.any_eq_true.mp h
      exact z (List.mem_map.mpr ⟨q, hq, of_decide_eq_true e⟩)
theorem putP_len : (putP t x d).length ≤ t.length + 1 := by
  unfold putP
  split
  · rw [List.length_map]; omega
  · rw [List.length_append]; exact Nat.le_refl _
theorem putP_nodup (h : (t.map (·.1)).Nodup) : ((putP t x d).map (·.1)).Nodup := by
  rw [putP_keys]
  split
  · exact h
  · rename_i z
    exact List.nodup_append.mpr ⟨h, List.nodup_cons.mpr ⟨List.not_mem_nil, List.nodup_nil⟩, fun a ha b hb e => z (by rw [← List.mem_singleton.mp hb, ← e]; exact ha)⟩
theorem putP_sub {y : Str} (h : y ∈ t.map (·.1)) : y ∈ (putP t x d).map (·.1) := by
  rw [putP_keys]
  split
  · exact h
  · exact List.mem_append.mpr (.inl h)
theorem putP_all {R : Str × PyData → Prop} (h : ∀ q ∈ t, R q) (hx : R (x, d)) : ∀ q ∈ putP t x d, R q := by
  intro q hq
  unfold putP at hq
  split at hq
  · obtain ⟨q', h1, rfl⟩ := List.mem_map.mp hq
    by_cases e : q'.1 = x
    · rw [if_pos e, e]; exact hx
    · rw [if_neg e]; exact h q' h1
  · rcases List.mem_append.mp hq with hq | hq
    · exact h q hq
    · rw [List.mem_singleton.mp hq]; exact hx
end

section
variable {t : List (Str × PyData)} {x : Str} {d : PyData}
theorem mem_putP : (x, d) ∈ putP t x d := by
  unfold putP
  split
  · rename_i h
    obtain ⟨q, hq, e⟩ := List.any_eq_true.mp h
    refine List.mem_map.mpr ⟨q, hq, ?_⟩
    rw [if_pos (of_decide_eq_true e), of_decide_eq_true e]
  · exact List.mem_append_right _ (List.mem_singleton.mpr rfl)
theorem tab_bad {ok : PyData → Bool} {most : Nat} {q : Str × PyData} (hq : q ∈ t) (h : isWordS q.1 = false ∨ ok q.2 = false) : okTab ok most (.dict t) = none := if_neg fun z => by
  have := Bool.and_eq_true_iff.mp (List.all_eq_true.mp z.2 q hq)
  rcases h with h | h
  · rw [h] at this
    exact absurd this.1 (by decide)
  · rw [h] at this
    exact absurd this.2 (by decide)
theorem tab_long {ok : PyData → Bool} {most : Nat} (h : most < t.length) : okTab ok most (.dict t) = none := if_neg fun z => by omega
theorem tab_good {ok : PyData → Bool} {most : Nat} (h : t.length ≤ most) (ha : ∀ q ∈ t, isWordS q.1 = true ∧ ok q.2 = true) : okTab ok most (.dict t) = some t := if_pos ⟨h, List.all_eq_true.mpr fun q hq => Bool.and_eq_true_iff.mpr (ha q hq)⟩
end
/-- a table of the law: n entries, all right -/
structure TbV (K : PySem.W.Frag) (H : Hp) (d : Addr) (ws : List (Key × V)) (kvs : List (Str × PyData)) (ok : PyData → Bool) (n : Nat) : Prop where
  at' : H d = some (.dK ws)
  kv : KvsR K H ws kvs
  nd : (kvs.map (·.1)).Nodup
  len : kvs.length = n
  all : ∀ q ∈ kvs, isWordS q.1 = true ∧ ok q.2 = true ∧ wt q.2 ≤ 1000
theorem TbV.txt {K : PySem.W.Frag} {H : Hp} {d : Addr} {ws : List (Key × V)} {kvs : List (Str × PyData)} {ok : PyData → Bool} {n : Nat} (h : TbV K H d ws kvs ok n) : ws.map (fun kv => kV kv.1) = (kvs.map (·.1)).map V.str := by
  have := congrArg (List.map kV) h.kv.keys
  rw [List.map_map, List.map_map] at this
  rw [show (fun kv : Key × V => kV kv.1) = kV ∘ (fun x => x.1) from rfl, this]
  rfl
theorem argSmall_of {kvs : List (Str × PyData)} (hl : kvs.length ≤ 60) (h : ∀ q ∈ kvs, q.1.length ≤ 100 ∧ wt q.2 ≤ 1000) : argSmall (.dict kvs) := ⟨hl, fun q hq => ⟨by have := (h q hq).1; omega, by have := (h q hq).2; omega⟩⟩
theorem TbV.keep {K : PySem.W.Frag} {H H' : Hp} {d : Addr} {ws : List (Key × V)} {kvs : List (Str × PyData)} {ok : PyData → Bool} {n : Nat} (h : TbV K H d ws kvs ok n) (hd : H' d = some (.dK ws)) (kp : Kp H H') : TbV K H' d ws kvs ok n := ⟨hd, h.kv.mono kp, h.nd, h.len, h.all⟩
theorem dp_pick {K : PySem.W.Frag} {H : Hp} {vs : List V} {ds : List PyData} {n : Nat} (h : L2.DpAll K H vs ds) (hn : n < ds.length) : ∃ v, atI vs (n : Int) = some v ∧ Dp K H v ds[n] := by
  have hl := h.len
  have hv : vs[n]? = some vs[n] := List.getElem?_eq_getElem (by omega)
  exact ⟨vs[n], atI_nat hv, DpAll.at h hv (List.getElem?_eq_getElem hn)⟩
theorem putP_new {t : List (Str × PyData)} {x : Str} {d : PyData} (h : x ∉ t.map (·.1)) : putP t x d = t ++ [(x, d)] := by
  unfold putP
  rw [if_neg]
  intro z
  obtain ⟨q, hq, e⟩ := List.any_eq_true.mp z
  exact h (List.mem_map.mpr ⟨q, hq, of_decide_eq_true e⟩)
/-- a table under way: the first i names have their entries -/
structure TbI (K : PySem.W.Frag) (H : Hp) (d : Addr) (ws : List (Key × V)) (kvs : List (Str × PyData)) (ok : PyData → Bool) (zs : List Str) (i : Nat) : Prop where
  at' : H d = some (.dK ws)
  kv : KvsR K H ws kvs
  ks : kvs.map (·.1) = zs.take i
  all : ∀ q ∈ kvs, ok q.2 = true ∧ wt q.2 ≤ 1000
theorem TbI.next {K : PySem.W.Frag} {H H' : Hp} {d : Addr} {ws : List (Key × V)} {kvs : List (Str × PyData)} {ok : PyData → Bool} {zs : List Str} {i : Nat} {z : Str} {v : V} {dd : PyData} (h : TbI K H d ws kvs ok zs i) (hn : zs.Nodup) (hz : zs[i]? = some z) (hd : H' d = some (.dK ws)) (kp : Kp H H') (hv : Dp K H' v dd) (hok : ok dd = true) (hw : wt dd ≤ 1000) :
    TbI K (upd H' d (.dK (putK ws (.inr z) v))) d (putK ws (.inr z) v) (putP kvs z dd) ok zs (i + 1) := by
  have kp2 : Kp H' (upd H' d (.dK (putK ws (.inr z) v))) := fun b o hb ho => by
    rw [L2.upd_ne (fun e => by rw [e, hd] at hb; cases hb; cases ho)]
    exact hb
  have hni : z ∉ kvs.map (·.1) := by rw [h.ks]; exact nodup_take hn hz
  refine ⟨upd_same, ((h.kv.mono kp).mono kp2).put (hv.kp kp2), ?_, putP_all (R := fun q => ok q.2 = true ∧ wt q.2 ≤ 1000) h.all ⟨hok, hw⟩⟩
  rw [putP_new hni, List.map_append, h.ks, TS.take_one hz]
  rfl
theorem same_cut {H H' : Hp} {l : Addr} (h : H l = none) (s : Same H H') : Same H (cutH (· = l) H') := fun b o hb => by
  rw [cut_not (S := (· = l)) (fun e => by rw [e, h] at hb; cases hb)]
  exact s b o hb
theorem But.free {H H' : Hp} {p b : Addr} (h : But p H H') (hb : H' b = none) (hp : b ≠ p) : H b = none := by
  cases q : H b with
  | none => rfl
  | some o => rw [h b o q hp] at hb; cases hb
theorem dp_take {K : PySem.W.Frag} {H : Hp} : ∀ {vs : List V} {ds : List PyData} (n : Nat), L2.DpAll K H vs ds → L2.DpAll K H (vs.take n) (ds.take n)
  | _, _, 0, _ => .nil
  | _, _, n + 1, .nil => .nil
  | _, _, n + 1, .cons h t => .cons h (dp_take n t)

theorem But.updN {p d : Addr} {H H' : Hp} {o : HO} (h : But p H H') (hd : H d = none) : But p H (L2.upd H' d o) := fun b u hb n => by
  rw [L2.upd_ne (ne_of_none hb hd)]
  exact h b u hb n
section
variable {K : PySem.W.Frag} {σ : L2.St} {H : Hp} {Q : VK} {p c : Addr} {k0 : Int}
theorem rd_words (hσ : σ[0]? = some (some (.ref p))) (pl : Pl H p c) (h0 : 0 ≤ k0) (h5 : k0 ≤ 5) (h : ∀ (l : Addr) (zs : List Str) H', H l = none → But p H H' → Pl H' p c → H' l = some (.lst (zs.map V.str)) → k0 ≤ zs.length → (zs.length : Int) ≤ k0 + 1 → zs.Nodup → (∀ z ∈ zs, isWordS z = true) → Q (.ref l) H') :
    tCall (spWords K) [] E0 (tCons (tVar 0) (tCons (tOp (rI0 fun i j => V.int (i + j)) (tC (V.int k0)) (tCall spD [] E0 (tCons (tVar 0) (tCons (tC (V.int 2)) tNil)))) (tCons (tC (V.int 2)) (tCons (tLst tNil) tNil)))) σ H Q := by
  refine ⟨_, hσ, _, hσ, p, c, 2, rfl, pl, by decide, fun r H1 r1 r2 b1 pl1 => ⟨_, _, rfl, rfl, sz_lit (by decide), fun e he => ?_⟩⟩
  have s2 := Same.new (o := .lst []) he
  have l2 := at_new (o := .lst []) he
  revert s2 l2
  generalize upd H1 e _ = H2
  intro s2 l2
  obtain ⟨n, hn⟩ : ∃ n : Nat, k0 + r = n := ⟨(k0 + r).toNat, (Int.toNat_of_nonneg (by omega)).symm⟩
  refine ⟨p, c, e, n, 2, [], congrArg (fun n => [V.ref p, V.int n, V.int 2, V.ref e]) hn, pl1.mono s2, .inl (.inl l2), by decide, by decide, by show 0 + n ≤ 25; omega, fun l zs H3 hl b3 pl3 f3 hz hnd hw => ?_⟩
  have b13 : But p H H3 := b1.trans ((Same.but s2).trans b3)
  refine h l zs H3 (But.free (b1.trans (Same.but s2)) hl ((pl1.mono s2).new hl).1) b13 pl3 f3 (by omega) (by omega) hnd fun z hz => (hw z hz).1
theorem rd_wordsIn (hσ : σ[0]? = some (some (.ref p))) (pl : Pl H p c) (h0 : 0 ≤ k0) (h5 : k0 ≤ 5) (h : ∀ (l : Addr) (zs : List Str) H', H l = none → But p H H' → Pl H' p c → H' l = some (.lst (zs.map V.str)) → k0 ≤ zs.length → (zs.length : Int) ≤ k0 + 1 → zs.Nodup → (∀ z ∈ zs, isWordS z = true) → ("in" : Str) ∉ zs → Q (.ref l) H') :
    tCall (spWords K) [] E0 (tCons (tVar 0) (tCons (tOp (rI0 fun i j => V.int (i + j)) (tC (V.int k0)) (tCall spD [] E0 (tCons (tVar 0) (tCons (tC (V.int 2)) tNil)))) (tCons (tC (V.int 2)) (tCons (tLst (tCons (tC (V.str "in")) tNil)) tNil)))) σ H Q := by
  refine ⟨_, hσ, _, hσ, p, c, 2, rfl, pl, by decide, fun r H1 r1 r2 b1 pl1 => ⟨_, _, rfl, rfl, sz_lit (by decide), fun e he => ?_⟩⟩
  have s2 := Same.new (o := .lst [.str "in"]) he
  have l2 := at_new (o := .lst [.str "in"]) he
  revert s2 l2
  generalize upd H1 e _ = H2
  intro s2 l2
  obtain ⟨n, hn⟩ : ∃ n : Nat, k0 + r = n := ⟨(k0 + r).toNat, (Int.toNat_of_nonneg (by omega)).symm⟩
  refine ⟨p, c, e, n, 2, ["in"], congrArg (fun n => [V.ref p, V.int n, V.int 2, V.ref e]) hn, pl1.mono s2, .inl (.inl l2), by decide, by decide, by show 1 + n ≤ 25; omega, fun l zs H3 hl b3 pl3 f3 hz hnd hw => ?_⟩
  have b13 : But p H H3 := b1.trans ((Same.but s2).trans b3)
  refine h l zs H3 (But.free (b1.trans (Same.but s2)) hl ((pl1.mono s2).new hl).1) b13 pl3 f3 (by omega) (by omega) hnd (fun z hz => (hw z hz).1) fun hin => (hw _ hin).2 (List.mem_singleton.mpr rfl)
end
end Op
set_option pp.maxSteps 1500
namespace Op
open PySem L2 PyProof.Rows
/-! ### the kit -/
structure KtA where
  pa : Addr
  ps : Addr
  ag : Addr
  iv : Addr
  al : Addr
  as : Addr
  aw : Addr
structure Kt where
  G : Gn
  ka : List (Str × PyData)
  ks : List (Str × PyData)
  ins : List Str
  deep : Int
def kt0 (pa ps ag : Addr) (rm dp : Int) : List (Key × V) := [(.inr "asks", .ref pa), (.inr "signals", .ref ps), (.inr "room", .int rm), (.inr "deepest", .int dp), (.inr "gates", .ref ag)]
def kt1 (pa ps ag iv : Addr) (rm dp : Int) : List (Key × V) := [(.inr "asks", .ref pa), (.inr "signals", .ref ps), (.inr "room", .int rm), (.inr "deepest", .int dp), (.inr "gates", .ref ag), (.inr "inputs", .ref iv)]
def kt2 (pa ps ag iv al : Addr) (rm dp : Int) : List (Key × V) := [(.inr "asks", .ref pa), (.inr "signals", .ref ps), (.inr "room", .int rm), (.inr "deepest", .int dp), (.inr "gates", .ref ag), (.inr "inputs", .ref iv), (.inr "labels", .ref al)]
def kt3 (pa ps ag iv al as : Addr) (rm dp : Int) : List (Key × V) := [(.inr "asks", .ref pa), (.inr "signals", .ref ps), (.inr "room", .int rm), (.inr "deepest", .int dp), (.inr "gates", .ref ag), (.inr "inputs", .ref iv), (.inr "labels", .ref al), (.inr "slots", .ref as)]
def kt4 (A : KtA) (rm dp : Int) : List (Key × V) := [(.inr "asks", .ref A.pa), (.inr "signals", .ref A.ps), (.inr "room", .int rm), (.inr "deepest", .int dp), (.inr "gates", .ref A.ag), (.inr "inputs", .ref A.iv), (.inr "labels", .ref A.al), (.inr "slots", .ref A.as), (.inr "words", .ref A.aw)]
def nr2 : List Str := ["none", "rang"]
theorem lk_in {kvs : List (Str × PyData)} {x : Str} (h : x ∈ kvs.map (·.1)) : (x, lk kvs x) ∈ kvs := by
  unfold lk
  induction kvs with
  | nil => cases h
  | cons q r ih =>
    obtain ⟨y, d⟩ := q
    rw [List.lookup_cons]
    by_cases z : x = y
    · rw [z, beq_self_eq_true]
      exact List.mem_cons_self
    · rw [beq_false_of_ne z]
      refine List.mem_cons_of_mem _ (ih ?_)
      rcases List.mem_cons.mp h with h | h
      · exact absurd h z
      · exact h
theorem strs_inj : ∀ {a b : List Str}, a.map PyData.str = b.map PyData.str → a = b
  | [], [], _ => rfl
  | x :: a, y :: b, h => by
    rw [List.map_cons, List.map_cons] at h
    injection h with h1 h2
    injection h1 with h1
    rw [h1, strs_inj h2]
theorem Kp.upd2 {H H' : Hp} {a : Addr} {w : List (Key × V)} (h : Kp H H') : Kp (upd H a (.dK w)) (upd H' a (.dK w)) := fun b o hb ho => by
  by_cases e : b = a
  · subst e
    rw [upd_same] at hb ⊢
    exact hb
  · rw [L2.upd_ne e] at hb ⊢
    exact h b o hb ho
theorem kt_0 (pa ps ag : Addr) (rm dp : Int) : mergeK [] (kt0 pa ps ag rm dp) = kt0 pa ps ag rm dp := by first | rfl | kernel_rfl
theorem kt_1 (pa ps ag iv : Addr) (rm dp : Int) : putK (kt0 pa ps ag rm dp) (.inr "inputs") (.ref iv) = kt1 pa ps ag iv rm dp := by first | rfl | kernel_rfl
theorem kt_2 (pa ps ag iv al : Addr) (rm dp : Int) : putK (kt1 pa ps ag iv rm dp) (.inr "labels") (.ref al) = kt2 pa ps ag iv al rm dp := by first | rfl | kernel_rfl
theorem kt_3 (pa ps ag iv al as : Addr) (rm dp : Int) : putK (kt2 pa ps ag iv al rm dp) (.inr "slots") (.ref as) = kt3 pa ps ag iv al as rm dp := by first | rfl | kernel_rfl
theorem kt_g (pa ps ag iv al as ag' : Addr) (rm dp : Int) : putK (kt3 pa ps ag iv al as rm dp) (.inr "gates") (.ref ag') = kt3 pa ps ag' iv al as rm dp := by first | rfl | kernel_rfl
theorem kt_4 (pa ps ag iv al as aw : Addr) (rm dp : Int) : putK (kt3 pa ps ag iv al as rm dp) (.inr "words") (.ref aw) = kt4 ⟨pa, ps, ag, iv, al, as, aw⟩ rm dp := by first | rfl | kernel_rfl
theorem kt_w (A : KtA) (aw : Addr) (rm dp : Int) : putK (kt4 A rm dp) (.inr "words") (.ref aw) = kt4 { A with aw := aw } rm dp := by first | rfl | kernel_rfl
theorem kt_r (A : KtA) (rm dp rm' : Int) : putK (kt4 A rm dp) (.inr "room") (.int rm') = kt4 A rm' dp := by first | rfl | kernel_rfl
/-- the kit at kd -/
structure KtO (K : PySem.W.Frag) (H : Hp) (kd : Addr) (A : KtA) (t : Kt) (rm : Int) : Prop where
  at' : H kd = some (.dK (kt4 A rm t.deep))
  asks : ∃ ws, H A.pa = some (.dK ws) ∧ KvsR K H ws t.ka
  sigs : ∃ ws, H A.ps = some (.dK ws) ∧ KvsR K H ws t.ks
  gates : H A.ag = some (.lst (t.G.ids.map V.str))
  ins : H A.iv = some (.tup (t.ins.map V.str))
  labels : H A.al = some (.lst (t.G.labels.map V.str))
  slots : H A.as = some (.lst (t.G.slots.map V.str))
  words : H A.aw = some (.lst (t.G.words.map V.str))
structure KtV (t : Kt) : Prop where
  gn : GnV t.G
  ak : t.ka.map (·.1) = t.G.asks
  av : ∀ q ∈ t.ka, areWords 4 q.2 = true ∧ wt q.2 ≤ 1000
  bk : t.ks.map (·.1) = t.G.boxes
  bv : ∀ q ∈ t.ks, isBox q.2 = true ∧ wt q.2 ≤ 1000
  il : 1 ≤ t.ins.length ∧ t.ins.length ≤ 2
  ind : t.ins.Nodup
  iw : ∀ z ∈ t.ins, isWordS z = true
  l1 : 2 ≤ t.G.labels.length
  s1 : 1 ≤ t.G.slots.length
  a1 : 1 ≤ t.G.asks.length
  w1 : 1 ≤ t.G.words.length ∧ t.G.words.length ≤ 40
def spKit (K : PySem.W.Frag) : Sp := fun vs H Q _ => ∃ (p c : Addr) (rm dp : Int) (gt : Bool), vs = [.ref p, .int rm, .int dp, .bl gt] ∧ Pl H p c ∧
  ∀ (kd : Addr) (A : KtA) (t : Kt) (H' : Hp), H kd = none → H A.pa = none → H A.ps = none → But p H H' → Pl H' p c → KtO K H' kd A t rm → KtV t → t.deep = dp → Q (.ref kd) H'
section
variable {P : Program} {w : World} {K : PySem.W.Frag} {mg : Str → Option Value} {base : Heap}
theorem sc__law_kit : FnScope ["_law_bag_here", "_law_room", "_law_deepest", "_law_gated", "_law_kit_here", "_law_name"] ["_law_bag_here", "_law_room", "_law_deepest", "_law_gated"] (defScope s__law_kit) := ⟨rfl, rfl, rfl, by decide +kernel, rfl, by decide +kernel, by decide +kernel⟩
theorem ok_kit {f : Addr} {fd : FuncData} (F : Fun K "_law_kit" "_law_kit" s__law_kit f fd) (T : Txt mg) (c__law_draw : Cal P w K mg base CX0 1 "_law_draw" ["_law_bag_here", "_law_many"] spD) (c__law_words : Cal P w K mg base CX0 2 "_law_words" ["_law_bag_here", "_law_many", "_law_most", "_law_taken"] (spWords K)) : FnOk P w K mg base CX0 3 f fd ["_law_bag_here", "_law_room", "_law_deepest", "_law_gated"] (spKit K) := by
  refine F.ok sc__law_kit (fun vs H Q E h => ?_) (fun cdv A0 outer s H vs Q E hr h => ?_)
  · obtain ⟨p, c, rm, dp, gt, rfl, _⟩ := h
    rfl
  · obtain ⟨p, c, rm, dp, gt, rfl, hp, k⟩ := h
    have hu := hu_of hr
    refine ⟨_, (pss_cons (ps_set (i := 4) sc__law_kit.nd rfl (.inl rfl) (pe_disp (pps_cons pe_str pe_dnewK (pps_cons pe_str pe_dnewK (pps_cons pe_str (pv 1) (pps_cons pe_str (pv 2) (pps_cons pe_str (pe_lst pa_nil) pps_nil))))) (by rfl) (by rfl) (fun z => by cases z) (by decide)))
      (pss_cons (ps_for PassesOwn.never rfl (pi_list (pe_cal c__law_words (hr.mono (by omega)) rfl pass0 (pa_cons (pv 0) (pa_cons (pe_op op_add pe_int (pe_cal c__law_draw (hr.mono (by omega)) rfl pass0 (pa_cons (pv 0) (pa_cons pe_int pa_nil)))) (pa_cons pe_int (pa_cons (pe_lst pa_nil) pa_nil)))))) (pg_name (i := 5) sc__law_kit.nd rfl (.inl rfl)) (pss_one (ps_dput hu (pe_dget hu (pv 4) pe_str (fun _ _ => rfl)) (pv 5) (pe_callTy call_tuple_of (by rfl) T.b_tuple (by decide +kernel) (pa_cons (pe_cal c__law_words (hr.mono (by omega)) rfl pass0 (pa_cons (pv 0) (pa_cons (pe_op op_add pe_int (pe_cal c__law_draw (hr.mono (by omega)) rfl pass0 (pa_cons (pv 0) (pa_cons pe_int pa_nil)))) (pa_cons pe_int (pa_cons (pe_lst pa_nil) pa_nil))))) pa_nil)) rfl)))
      (pss_cons (ps_for PassesOwn.never rfl (pi_list (pe_cal c__law_words (hr.mono (by omega)) rfl pass0 (pa_cons (pv 0) (pa_cons (pe_cal c__law_draw (hr.mono (by omega)) rfl pass0 (pa_cons (pv 0) (pa_cons pe_int pa_nil))) (pa_cons pe_int (pa_cons (pe_lst pa_nil) pa_nil)))))) (pg_name (i := 5) sc__law_kit.nd rfl (.inl rfl)) (pss_one (ps_dput hu (pe_dget hu (pv 4) pe_str (fun _ _ => rfl)) (pv 5) (pe_tup (pa_cons (pe_op op_add pe_int (pe_cal c__law_draw (hr.mono (by omega)) rfl pass0 (pa_cons (pv 0) (pa_cons pe_int pa_nil)))) (pa_cons (pe_callTy call_tuple_of (by rfl) T.b_tuple (by decide +kernel) (pa_cons (pe_cal c__law_words (hr.mono (by omega)) rfl pass0 (pa_cons (pv 0) (pa_cons (pe_op op_add pe_int (pe_cal c__law_draw (hr.mono (by omega)) rfl pass0 (pa_cons (pv 0) (pa_cons pe_int pa_nil)))) (pa_cons pe_int (pa_cons (pe_lst pa_nil) pa_nil))))) pa_nil)) pa_nil))) rfl)))
      (pss_cons (ps_dput hu (pv 4) pe_str (pe_callTy call_tuple_of (by rfl) T.b_tuple (by decide +kernel) (pa_cons (pe_cal c__law_words (hr.mono (by omega)) rfl pass0 (pa_cons (pv 0) (pa_cons (pe_op op_add pe_int (pe_cal c__law_draw (hr.mono (by omega)) rfl pass0 (pa_cons (pv 0) (pa_cons pe_int pa_nil)))) (pa_cons pe_int (pa_cons (pe_lst pa_nil) pa_nil))))) pa_nil)) rfl)
      (pss_cons (ps_dput hu (pv 4) pe_str (pe_cal c__law_words (hr.mono (by omega)) rfl pass0 (pa_cons (pv 0) (pa_cons (pe_op op_add pe_int (pe_cal c__law_draw (hr.mono (by omega)) rfl pass0 (pa_cons (pv 0) (pa_cons pe_int pa_nil)))) (pa_cons pe_int (pa_cons (pe_lst pa_nil) pa_nil))))) rfl)
      (pss_cons (ps_dput hu (pv 4) pe_str (pe_cal c__law_words (hr.mono (by omega)) rfl pass0 (pa_cons (pv 0) (pa_cons (pe_op op_add pe_int (pe_cal c__law_draw (hr.mono (by omega)) rfl pass0 (pa_cons (pv 0) (pa_cons pe_int pa_nil)))) (pa_cons pe_int (pa_cons (pe_lst (pa_cons pe_str pa_nil)) pa_nil))))) rfl)
      (Evl.pss_cut (ps_if (pt_val (pv 3)) (pss_one (ps_dput hu (pv 4) pe_str (pe_cal c__law_words (hr.mono (by omega)) rfl pass0 (pa_cons (pv 0) (pa_cons (pe_op op_add pe_int (pe_cal c__law_draw (hr.mono (by omega)) rfl pass0 (pa_cons (pv 0) (pa_cons pe_int pa_nil)))) (pa_cons pe_int (pa_cons (pe_lst pa_nil) pa_nil))))) rfl)) pss_nil)
      (pss_cons (ps_dput hu (pv 4) pe_str (pe_op op_cat (pe_op op_cat (pe_lst (pa_cons pe_str (pa_cons pe_str pa_nil))) (pe_callTy call_list_of (by rfl) T.b_list (by decide +kernel) (pa_cons (pe_dget hu (pv 4) pe_str (fun _ _ => rfl)) pa_nil))) (pe_dget hu (pv 4) pe_str (fun _ _ => rfl))) rfl)
      (pss_cons (ps_lock (ps_for PassesOwn.never rfl (pi_keys (pe_dget hu (pv 4) pe_str (fun _ _ => rfl))) (pg_name (i := 5) sc__law_kit.nd rfl (.inl rfl)) (pss_one (ps_dput hu (pv 4) pe_str (pe_op op_cat (pe_dget hu (pv 4) pe_str (fun _ _ => rfl)) (pe_callTy call_list_of (by rfl) T.b_list (by decide +kernel) (pa_cons (pe_dget hu (pe_dget hu (pv 4) pe_str (fun _ _ => rfl)) (pv 5) (fun _ _ => rfl)) pa_nil))) rfl))))
      (pss_one (ps_ret (pv 4)))))))))))), ?_⟩
    intro kd hkd
    have nkd := hp.new hkd
    have s1 := Same.new (o := .dK []) hkd
    have k1 := at_new (o := .dK []) hkd
    revert s1 k1
    generalize upd H kd _ = H1
    intro s1 k1
    intro pa hpa
    have npa := (hp.mono s1).new hpa
    have s2 := Same.new (o := .dK []) hpa
    have a2 := at_new (o := .dK []) hpa
    have nak : pa ≠ kd := fun e => by rw [e, k1] at hpa; cases hpa
    revert s2 a2
    generalize upd H1 pa _ = H2
    intro s2 a2
    intro ps hps
    have nps := ((hp.mono s1).mono s2).new hps
    have nsk : ps ≠ kd := fun e => by rw [e, s2 _ _ k1] at hps; cases hps
    have nsa : ps ≠ pa := fun e => by rw [e, a2] at hps; cases hps
    have s3 := Same.new (o := .dK []) hps
    have b3 := at_new (o := .dK []) hps
    revert s3 b3
    generalize upd H2 ps _ = H3
    intro s3 b3
    refine ⟨_, rfl, _, rfl, sz_lit (by decide), fun ag hag => ?_⟩
    have nag : ag ≠ kd := fun e => by rw [e, s3 _ _ (s2 _ _ k1)] at hag; cases hag
    have s4 := Same.new (o := .lst []) hag
    have g4 := at_new (o := .lst []) hag
    revert s4 g4
    generalize upd H3 ag _ = H4
    intro s4 g4
    have s14 := (s2.trans s3).trans s4
    refine ⟨s14 _ _ k1, kt0 pa ps ag rm dp, rfl, (by show 5 ≤ 15; decide), ?_⟩
    rw [kt_0]
    have hpaH : H pa = none := s1.free hpa
    have hpsH : H ps = none := (s1.trans s2).free hps
    have K5 : upd H4 kd (.dK (kt0 pa ps ag rm dp)) kd = some (.dK (kt0 pa ps ag rm dp)) := upd_same
    have A5 : upd H4 kd (.dK (kt0 pa ps ag rm dp)) pa = some (.dK []) := by rw [L2.upd_ne nak]; exact s4 _ _ (s3 _ _ a2)
    have B5 : upd H4 kd (.dK (kt0 pa ps ag rm dp)) ps = some (.dK []) := by rw [L2.upd_ne nsk]; exact s4 _ _ b3
    have G5 : upd H4 kd (.dK (kt0 pa ps ag rm dp)) ag = some (.lst []) := by rw [L2.upd_ne nag]; exact g4
    have bt5 : But p H (upd H4 kd (.dK (kt0 pa ps ag rm dp))) := But.updN (Same.but (s1.trans s14)) hkd
    have pl5 : Pl (upd H4 kd (.dK (kt0 pa ps ag rm dp))) p c := (hp.mono (s1.trans s14)).put nkd.1 nkd.2
    revert K5 A5 B5 G5 bt5 pl5
    generalize upd H4 kd _ = H5
    intro K5 A5 B5 G5 bt5 pl5
    refine rd_words rfl pl5 (by decide) (by decide) fun l1 zs H7 hl1 b7 pl7 f7 z1 z2 znd zw => ?_
    refine ⟨l1, rfl, ⟨_, .inl (.inl f7)⟩, ?_⟩
    have nl1p : l1 ≠ p := (pl5.new hl1).1
    have nl1a : l1 ≠ pa := fun e => by rw [e, A5] at hl1; cases hl1
    refine for_it (walk_list (xs := zs.map V.str)) (fun i σ H' => (∃ y5 : Option V, σ = [some (.ref p), some (.int rm), some (.int dp), some (.bl gt), some (.ref kd), y5]) ∧ ∃ ws kvs, TbI K H' pa ws kvs (areWords 4) zs i ∧ H' kd = some (.dK (kt0 pa ps ag rm dp)) ∧ H' ps = some (.dK []) ∧ H' ag = some (.lst []) ∧ H' l1 = some (.lst (zs.map V.str)) ∧ But p H H' ∧ Pl H' p c) ⟨⟨_, rfl⟩, [], [], ⟨b7 _ _ A5 npa.1, trivial, rfl, fun q hq => (List.not_mem_nil hq).elim⟩, b7 _ _ K5 nkd.1, b7 _ _ B5 nps.1, pl5.kp b7 _ _ G5 rfl, f7, bt5.trans b7, pl7⟩ (fun i σ H' _ q => by obtain ⟨_, ws, kvs, _, _, _, _, f, _⟩ := q; exact .inl (.inl f)) ?_ ?_
    · rintro i x σ H9 H8 hi ⟨⟨y5, rfl⟩, ws, kvs, tb, K8, B8, G8, f8, bt8, pl8⟩ ⟨rfl, hx⟩
      have hi' : i < zs.length := by rw [List.length_map] at hi; exact hi
      have hzi : zs[i]? = some zs[i] := List.getElem?_eq_getElem hi'
      obtain rfl : x = .str zs[i] := by
        rw [List.getElem?_map, hzi] at hx
        exact (Option.some.inj hx).symm
      refine rd_words rfl pl8 (by decide) (by decide) fun l2 us H9 hl2 b9 pl9 f9 u1 u2 und uw => ?_
      refine ⟨l2, _, rfl, .inl ⟨.inl (.inl f9), fun t ht => ?_⟩⟩
      have s10 := Same.new (o := .tup (us.map V.str)) ht
      have l10 := at_new (o := .tup (us.map V.str)) ht
      revert s10 l10
      generalize upd H9 t _ = H10
      intro s10 l10
      have kp10 : Kp H8 H10 := (pl8.kp b9).trans s10.kp
      have K10 := s10 _ _ (b9 _ _ K8 nkd.1)
      have A10 := s10 _ _ (b9 _ _ tb.at' npa.1)
      have hlw : ws.length ≤ 60 := by
        have := tb.kv.len
        have h2 := congrArg List.length tb.ks
        rw [List.length_map, List.length_take] at h2
        omega
      have nx := tb.next znd hzi A10 kp10 (dd := .tuple (us.map .str)) (.tup (.inl (.inl l10)) (dp_strs us)) (words_ok (by omega) (by omega) und uw) (by rw [wt_tuple]; have := wts_strs uw; omega)
      refine ⟨_, rfl, kd, _, rfl, DGet.k (k := (.inr "asks" : Key)) K10, _, rfl, pa, _, rfl, DPut.k (k := (.inr zs[i] : Key)) A10 (lt_sz (by omega)), ⟨_, rfl⟩, _, _, nx, ?_, ?_, ?_, ?_, But.updN (bt8.trans (b9.trans (Same.but s10))) hpaH, (pl9.mono s10).put npa.1 npa.2⟩
      · rw [L2.upd_ne nak.symm]
        exact K10
      · rw [L2.upd_ne nsa]
        exact s10 _ _ (b9 _ _ B8 nps.1)
      · have := kp10 _ _ G8 rfl
        rw [L2.upd_ne (fun e => by rw [e, A10] at this; cases this)]
        exact this
      · have := kp10 _ _ f8 rfl
        rw [L2.upd_ne nl1a]
        exact this
    · rintro σ H8 ⟨⟨y5, rfl⟩, wsA, ka, tbA, K8, B8, G8, f8, bt8, pl8⟩
      rw [List.length_map] at tbA
      have ksA := tbA.ks
      rw [List.take_length] at ksA
      have allA := tbA.all
      have A8 := tbA.at'
      have kvA := tbA.kv
      clear tbA f8 f7 hl1
      refine ⟨_, rfl, _, rfl, p, c, 2, rfl, pl8, by decide, fun r H9 r1 r2 b9 pl9 => ⟨sz_lit (by decide), fun e9 he9 => ?_⟩⟩
      have s10 := Same.new (o := .lst []) he9
      have l10 := at_new (o := .lst []) he9
      revert s10 l10
      generalize upd H9 e9 _ = H10
      intro s10 l10
      obtain ⟨nb, hnb⟩ := Int.eq_ofNat_of_zero_le r1
      have pl10 := pl9.mono s10
      refine ⟨p, c, e9, nb, 2, [], congrArg (fun n => [V.ref p, V.int n, V.int 2, V.ref e9]) hnb, pl10, .inl (.inl l10), by decide, by decide, by show 0 + nb ≤ 25; omega, fun l2 zs2 H11 hl2 b11 pl11 f11 hzl2 znd2 hz2 => ?_⟩
      have kp11 : Kp H8 H11 := ((pl8.kp b9).trans s10.kp).trans (pl10.kp b11)
      have b811 : But p H8 H11 := b9.trans ((Same.but s10).trans b11)
      have nl2b : l2 ≠ ps := fun e => by rw [e, s10 _ _ (b9 _ _ B8 nps.1)] at hl2; cases hl2
      refine ⟨l2, rfl, ⟨_, .inl (.inl f11)⟩, ?_⟩
      refine for_it (walk_list (xs := zs2.map V.str)) (fun i σ H' => (∃ y5 : Option V, σ = [some (.ref p), some (.int rm), some (.int dp), some (.bl gt), some (.ref kd), y5]) ∧ ∃ ws kvs, TbI K H' ps ws kvs isBox zs2 i ∧ H' kd = some (.dK (kt0 pa ps ag rm dp)) ∧ H' pa = some (.dK wsA) ∧ KvsR K H' wsA ka ∧ H' ag = some (.lst []) ∧ H' l2 = some (.lst (zs2.map V.str)) ∧ But p H H' ∧ Pl H' p c) ⟨⟨_, rfl⟩, [], [], ⟨b811 _ _ B8 nps.1, trivial, rfl, fun q hq => (List.not_mem_nil hq).elim⟩, b811 _ _ K8 nkd.1, b811 _ _ A8 npa.1, kvA.mono kp11, kp11 _ _ G8 rfl, f11, bt8.trans b811, pl11⟩ (fun i σ H' _ q => by obtain ⟨_, ws, kvs, _, _, _, _, _, f, _⟩ := q; exact .inl (.inl f)) ?_ ?_
      · rintro i x σ H13 H12 hi ⟨⟨y5, rfl⟩, ws, kvs, tb, K12, A12, kv12, G12, f12, bt12, pl12⟩ ⟨rfl, hx⟩
        have hi' : i < zs2.length := by rw [List.length_map] at hi; exact hi
        have hzi : zs2[i]? = some zs2[i] := List.getElem?_eq_getElem hi'
        obtain rfl : x = .str zs2[i] := by
          rw [List.getElem?_map, hzi] at hx
          exact (Option.some.inj hx).symm
        refine ⟨_, rfl, p, c, 2, rfl, pl12, by decide, fun r H13 r1' r2' b13 pl13 => ⟨_, _, rfl, rfl, ?_⟩⟩
        refine rd_words rfl pl13 (by decide) (by decide) fun l3 us H14 hl3 b14 pl14 f14 u1 u2 und uw => ?_
        refine ⟨l3, _, rfl, .inl ⟨.inl (.inl f14), fun t ht => ⟨sz2 _ _, fun t2 ht2 => ?_⟩⟩⟩
        have q1 := Same.new (o := .tup (us.map V.str)) ht
        have q2 := Same.new (o := .tup [.int (1 + r), .ref t]) ht2
        have v1 := at_new (o := .tup (us.map V.str)) ht
        have v2 := at_new (o := .tup [.int (1 + r), .ref t]) ht2
        have s15 := q1.trans q2
        have dv : Dp K (upd (upd H14 t (.tup (us.map V.str))) t2 (.tup [.int (1 + r), .ref t])) (.ref t2) (.tuple [.int (1 + r), .tuple (us.map .str)]) := .tup (.inl (.inl v2)) (.cons (.int _) (.cons (.tup (.inl (.inl (q2 _ _ v1))) (dp_strs us)) .nil))
        clear q1 q2 v1 v2
        revert s15 dv
        show Same H14 (upd (upd H14 t (.tup (us.map V.str))) t2 (.tup [.int (1 + r), .ref t])) → Dp K (upd (upd H14 t (.tup (us.map V.str))) t2 (.tup [.int (1 + r), .ref t])) (.ref t2) (.tuple [.int (1 + r), .tuple (us.map .str)]) → _
        generalize upd (upd H14 t _) t2 _ = H15
        intro s15 dv
        have b1215 : But p H12 H15 := b13.trans (b14.trans (Same.but s15))
        have kp15 : Kp H12 H15 := ((pl12.kp b13).trans (pl13.kp b14)).trans s15.kp
        have K15 := b1215 _ _ K12 nkd.1
        have B15 := b1215 _ _ tb.at' nps.1
        have A15 := b1215 _ _ A12 npa.1
        have hlw : ws.length ≤ 60 := by
          have := tb.kv.len
          have h2 := congrArg List.length tb.ks
          rw [List.length_map, List.length_take] at h2
          omega
        have kpB : ∀ {o : HO}, Kp H15 (upd H15 ps o) := fun b o hb ho => by
          rw [L2.upd_ne (fun e => by rw [e, B15] at hb; cases hb; cases ho)]
          exact hb
        have nx := tb.next znd2 hzi B15 kp15 dv (by
          show (decide (1 ≤ 1 + r ∧ 1 + r ≤ 3) && areWords 3 (.tuple (us.map .str))) = true
          rw [words_ok (by omega) (by omega) und uw, decide_eq_true ⟨by omega, by omega⟩]
          rfl) (by
          rw [wt_tuple, wts_cons, wts_cons, wts_nil, wt_tuple]
          have := wts_strs uw
          show 1 + (1 + (1 + wts (us.map PyData.str) + 0)) ≤ 1000
          omega)
        refine ⟨_, rfl, kd, _, rfl, DGet.k (k := (.inr "signals" : Key)) K15, _, rfl, ps, _, rfl, DPut.k (k := (.inr zs2[i] : Key)) B15 (lt_sz (by omega)), ⟨_, rfl⟩, _, _, nx, ?_, ?_, (kv12.mono kp15).mono kpB, ?_, ?_, But.updN (bt12.trans b1215) hpsH, (pl14.mono s15).put nps.1 nps.2⟩
        · rw [L2.upd_ne nsk.symm]
          exact K15
        · rw [L2.upd_ne nsa.symm]
          exact A15
        · exact kpB _ _ (kp15 _ _ G12 rfl) rfl
        · exact kpB _ _ (kp15 _ _ f12 rfl) rfl
      · rintro σ H12 ⟨⟨y5, rfl⟩, wsB, kb, tbB, K12, A12, kv12, G12, f12, bt12, pl12⟩
        rw [List.length_map] at tbB
        have ksB := tbB.ks
        rw [List.take_length] at ksB
        have allB := tbB.all
        have B12 := tbB.at'
        have kvB := tbB.kv
        have hlB : zs2.length ≤ 1 := by omega
        have zw2 : ∀ z ∈ zs2, isWordS z = true := fun z hz => (hz2 z hz).1
        clear tbB f12 f11 hl2 hz2 kvA
        -- inputs
        refine rd_words rfl pl12 (by decide) (by decide) fun l3 ins H13 hl3 b13 pl13 f13 i1 i2 ind iw => ?_
        refine ⟨l3, _, rfl, .inl ⟨.inl (.inl f13), fun iv hiv => ?_⟩⟩
        have s14 := Same.new (o := .tup (ins.map V.str)) hiv
        have V14 := at_new (o := .tup (ins.map V.str)) hiv
        revert s14 V14
        generalize upd H13 iv _ = H14
        intro s14 V14
        have b1214 : But p H12 H14 := b13.trans (Same.but s14)
        have kp14 : Kp H12 H14 := (pl12.kp b13).trans s14.kp
        have K14 := b1214 _ _ K12 nkd.1
        refine ⟨_, rfl, kd, _, rfl, DPut.k (k := (.inr "inputs" : Key)) K14 (lt_sz (by show 5 < 100000; decide)), ?_⟩
        rw [kt_1]
        have kpk : ∀ {G : Hp} {us : List (Key × V)} {o : HO}, G kd = some (.dK us) → Kp G (upd G kd o) := fun hG b o hb ho => by
          rw [L2.upd_ne (fun e => by rw [e, hG] at hb; cases hb; cases ho)]
          exact hb
        have K15 : upd H14 kd (.dK (kt1 pa ps ag iv rm dp)) kd = some (.dK (kt1 pa ps ag iv rm dp)) := upd_same
        have A15 : upd H14 kd (.dK (kt1 pa ps ag iv rm dp)) pa = some (.dK wsA) := by rw [L2.upd_ne nak]; exact b1214 _ _ A12 npa.1
        have B15 : upd H14 kd (.dK (kt1 pa ps ag iv rm dp)) ps = some (.dK wsB) := by rw [L2.upd_ne nsk]; exact b1214 _ _ B12 nps.1
        have kp15 : Kp H12 (upd H14 kd (.dK (kt1 pa ps ag iv rm dp))) := kp14.trans (kpk K14)
        have V15 := kpk (o := .dK (kt1 pa ps ag iv rm dp)) K14 _ _ V14 rfl
        have bt15 : But p H (upd H14 kd (.dK (kt1 pa ps ag iv rm dp))) := But.updN (bt12.trans b1214) hkd
        have pl15 : Pl (upd H14 kd (.dK (kt1 pa ps ag iv rm dp))) p c := (pl13.mono s14).put nkd.1 nkd.2
        have kvA15 := kv12.mono kp15
        have kvB15 := kvB.mono kp15
        have G15 := kp15 _ _ G12 rfl
        revert K15 A15 B15 V15 bt15 pl15 kvA15 kvB15 G15 kp15
        generalize upd H14 kd _ = H15
        intro K15 A15 B15 kp15 V15 bt15 pl15 kvA15 kvB15 G15
        clear K14 K12 A12 B12 kv12 kvB G12 kp15 kp14
        -- labels
        refine rd_words rfl pl15 (by decide) (by decide) fun al labs H16 hal b16 pl16 L16 c1 c2 lnd lw => ?_
        have kp16 : Kp H15 H16 := pl15.kp b16
        have K16 := b16 _ _ K15 nkd.1
        refine ⟨_, rfl, kd, _, rfl, DPut.k (k := (.inr "labels" : Key)) K16 (lt_sz (by show 6 < 100000; decide)), ?_⟩
        rw [kt_2]
        have K17 : upd H16 kd (.dK (kt2 pa ps ag iv al rm dp)) kd = some (.dK (kt2 pa ps ag iv al rm dp)) := upd_same
        have A17 : upd H16 kd (.dK (kt2 pa ps ag iv al rm dp)) pa = some (.dK wsA) := by rw [L2.upd_ne nak]; exact b16 _ _ A15 npa.1
        have B17 : upd H16 kd (.dK (kt2 pa ps ag iv al rm dp)) ps = some (.dK wsB) := by rw [L2.upd_ne nsk]; exact b16 _ _ B15 nps.1
        have kpx := kpk (o := .dK (kt2 pa ps ag iv al rm dp)) K16
        have kp17 : Kp H15 (upd H16 kd (.dK (kt2 pa ps ag iv al rm dp))) := kp16.trans kpx
        have L17 := kpx _ _ L16 rfl
        have bt17 : But p H (upd H16 kd (.dK (kt2 pa ps ag iv al rm dp))) := But.updN (bt15.trans b16) hkd
        have pl17 : Pl (upd H16 kd (.dK (kt2 pa ps ag iv al rm dp))) p c := pl16.put nkd.1 nkd.2
        have kvA17 := kvA15.mono kp17
        have kvB17 := kvB15.mono kp17
        have G17 := kp17 _ _ G15 rfl
        have V17 := kp17 _ _ V15 rfl
        revert K17 A17 B17 L17 bt17 pl17 kvA17 kvB17 G17 V17
        clear kp17 kpx
        generalize upd H16 kd _ = H17
        intro K17 A17 B17 L17 bt17 pl17 kvA17 kvB17 G17 V17
        clear K16 K15 A15 B15 V15 kvA15 kvB15 G15 L16 kp16
        -- slots
        refine rd_wordsIn rfl pl17 (by decide) (by decide) fun as slo H18 has b18 pl18 S18 d1 d2 snd' sw sin => ?_
        have kp18 : Kp H17 H18 := pl17.kp b18
        have K18 := b18 _ _ K17 nkd.1
        refine ⟨_, rfl, kd, _, rfl, DPut.k (k := (.inr "slots" : Key)) K18 (lt_sz (by show 7 < 100000; decide)), ?_⟩
        rw [kt_3]
        have K19 : upd H18 kd (.dK (kt3 pa ps ag iv al as rm dp)) kd = some (.dK (kt3 pa ps ag iv al as rm dp)) := upd_same
        have A19 : upd H18 kd (.dK (kt3 pa ps ag iv al as rm dp)) pa = some (.dK wsA) := by rw [L2.upd_ne nak]; exact b18 _ _ A17 npa.1
        have B19 : upd H18 kd (.dK (kt3 pa ps ag iv al as rm dp)) ps = some (.dK wsB) := by rw [L2.upd_ne nsk]; exact b18 _ _ B17 nps.1
        have kpx := kpk (o := .dK (kt3 pa ps ag iv al as rm dp)) K18
        have kp19 : Kp H17 (upd H18 kd (.dK (kt3 pa ps ag iv al as rm dp))) := kp18.trans kpx
        have S19 := kpx _ _ S18 rfl
        have bt19 : But p H (upd H18 kd (.dK (kt3 pa ps ag iv al as rm dp))) := But.updN (bt17.trans b18) hkd
        have pl19 : Pl (upd H18 kd (.dK (kt3 pa ps ag iv al as rm dp))) p c := pl18.put nkd.1 nkd.2
        have kvA19 := kvA17.mono kp19
        have kvB19 := kvB17.mono kp19
        have G19 := kp19 _ _ G17 rfl
        have V19 := kp19 _ _ V17 rfl
        have L19 := kp19 _ _ L17 rfl
        revert K19 A19 B19 S19 bt19 pl19 kvA19 kvB19 G19 V19 L19
        clear kp19 kpx
        generalize upd H18 kd _ = H19
        intro K19 A19 B19 S19 bt19 pl19 kvA19 kvB19 G19 V19 L19
        clear K18 K17 A17 B17 V17 kvA17 kvB17 G17 L17 S18 kp18
        -- gates
        refine ⟨fun σ H' => ∃ (y5 : Option V) (ag' : Addr) (gs : List Str), σ = [some (.ref p), some (.int rm), some (.int dp), some (.bl gt), some (.ref kd), y5] ∧ nl gs ∧ H' kd = some (.dK (kt3 pa ps ag' iv al as rm dp)) ∧ H' pa = some (.dK wsA) ∧ H' ps = some (.dK wsB) ∧ KvsR K H' wsA ka ∧ KvsR K H' wsB kb ∧ H' ag' = some (.lst (gs.map V.str)) ∧ H' iv = some (.tup (ins.map V.str)) ∧ H' al = some (.lst (labs.map V.str)) ∧ H' as = some (.lst (slo.map V.str)) ∧ But p H H' ∧ Pl H' p c, ?_, ?_⟩
        · refine ⟨_, rfl, gt, rfl, ?_⟩
          cases gt with
          | false => exact ifF rfl ⟨_, ag, [], rfl, ⟨by decide, List.nodup_nil, fun z hz => (List.not_mem_nil hz).elim⟩, K19, A19, B19, kvA19, kvB19, G19, V19, L19, S19, bt19, pl19⟩
          | true =>
            refine ifT rfl ?_
            refine rd_words rfl pl19 (by decide) (by decide) fun ag' gs H20 hag' b20 pl20 g20 e1 e2 gnd gw => ?_
            have kp20 : Kp H19 H20 := pl19.kp b20
            have K20 := b20 _ _ K19 nkd.1
            refine ⟨_, rfl, kd, _, rfl, DPut.k (k := (.inr "gates" : Key)) K20 (lt_sz (by show 8 < 100000; decide)), ?_⟩
            rw [kt_g]
            have kpx := kpk (o := .dK (kt3 pa ps ag' iv al as rm dp)) K20
            have kp21 := kp20.trans kpx
            refine ⟨_, ag', gs, rfl, ⟨by omega, gnd, gw⟩, upd_same, ?_, ?_, kvA19.mono kp21, kvB19.mono kp21, kpx _ _ g20 rfl, kp21 _ _ V19 rfl, kp21 _ _ L19 rfl, kp21 _ _ S19 rfl, But.updN (bt19.trans b20) hkd, pl20.put nkd.1 nkd.2⟩
            · rw [L2.upd_ne nak]
              exact b20 _ _ A19 npa.1
            · rw [L2.upd_ne nsk]
              exact b20 _ _ B19 nps.1
        · rintro σ H20 ⟨y5', ag', gs, rfl, hgs, K20, A20, B20, kvA20, kvB20, G20, V20, L20, S20, bt20, pl20⟩
          have hka : ∀ q ∈ ka, ∃ us : List Str, q.2 = .tuple (us.map PyData.str) ∧ (us.length : Int) ≤ 4 ∧ ∀ z ∈ us, isWordS z = true := fun q hq => by
            obtain ⟨us, h1, h2, h3, _⟩ := aw_tup (allA q hq).1
            exact ⟨us, h1, h2, h3⟩
          have hkl : ka.length ≤ 2 := by
            have := congrArg List.length ksA
            rw [List.length_map] at this
            omega
          -- words
          refine ⟨sz_lit (by decide), fun e1 he1 => ?_⟩
          have s21 := Same.new (o := .lst [.str "none", .str "rang"]) he1
          have E21 := at_new (o := .lst [.str "none", .str "rang"]) he1
          revert s21 E21
          generalize upd H20 e1 _ = H21
          intro s21 E21
          refine ⟨_, rfl, kd, _, rfl, DGet.k (k := (.inr "inputs" : Key)) (s21 _ _ K20), iv, _, rfl, .inr (.inl (.inl (s21 _ _ V20))), fun e2 he2 => ?_⟩
          have s22 := Same.new (o := .lst (ins.map V.str)) he2
          have E22 := at_new (o := .lst (ins.map V.str)) he2
          revert s22 E22
          generalize upd H21 e2 _ = H22
          intro s22 E22
          refine ⟨e1, e2, _, _, rfl, rfl, s22 _ _ E21, E22, sz_lit (by rw [List.length_map]; show 2 + ins.length ≤ 100000; omega), fun e3 he3 => ?_⟩
          have s23 := Same.new (o := .lst ([.str "none", .str "rang"] ++ ins.map V.str)) he3
          have E23 := at_new (o := .lst ([.str "none", .str "rang"] ++ ins.map V.str)) he3
          revert s23 E23
          generalize upd H22 e3 _ = H23
          intro s23 E23
          have s2023 := (s21.trans s22).trans s23
          refine ⟨_, rfl, kd, _, rfl, DGet.k (k := (.inr "labels" : Key)) (s2023 _ _ K20), e3, al, _, _, rfl, rfl, E23, s2023 _ _ L20, sz_lit (by rw [List.length_append, List.length_map, List.length_map]; show 2 + ins.length + labs.length ≤ 100000; omega), fun aw haw => ?_⟩
          have s24 := Same.new (o := .lst ([.str "none", .str "rang"] ++ ins.map V.str ++ labs.map V.str)) haw
          have E24 := at_new (o := .lst ([.str "none", .str "rang"] ++ ins.map V.str ++ labs.map V.str)) haw
          revert s24 E24
          generalize upd H23 aw _ = H24
          intro s24 E24
          have s2024 := s2023.trans s24
          have K24 := s2024 _ _ K20
          have E24' : H24 aw = some (.lst ((nr2 ++ ins ++ labs).map V.str)) := by rw [E24, List.map_append, List.map_append]; rfl
          have hW0 : ∀ z ∈ (nr2 ++ ins ++ labs), isWordS z = true := fun z hz => by
            rcases List.mem_append.mp hz with hz | hz
            · rcases List.mem_append.mp hz with hz | hz
              · rcases List.mem_cons.mp hz with rfl | hz
                · decide +kernel
                · rw [List.mem_singleton.mp hz]; decide +kernel
              · exact iw z hz
            · exact lw z hz
          have hW1 : (nr2 ++ ins ++ labs).length ≤ 7 + 4 * 0 := by
            rw [List.length_append, List.length_append]
            show 2 + ins.length + labs.length ≤ 7
            omega
          have hW2 : 1 ≤ (nr2 ++ ins ++ labs).length := by
            rw [List.length_append, List.length_append]
            show 1 ≤ 2 + ins.length + labs.length
            omega
          revert E24' hW0 hW1 hW2
          generalize (nr2 ++ ins ++ labs) = W0
          intro E24' hW0 hW1 hW2
          refine ⟨_, rfl, kd, _, rfl, DPut.k (k := (.inr "words" : Key)) K24 (lt_sz (by show 8 < 100000; decide)), ?_⟩
          rw [kt_4]
          have kpx := kpk (o := .dK (kt4 ⟨pa, ps, ag', iv, al, as, aw⟩ rm dp)) K24
          have kp25 : Kp H20 (upd H24 kd (.dK (kt4 ⟨pa, ps, ag', iv, al, as, aw⟩ rm dp))) := s2024.kp.trans kpx
          have K25 : upd H24 kd (.dK (kt4 ⟨pa, ps, ag', iv, al, as, aw⟩ rm dp)) kd = some (.dK (kt4 ⟨pa, ps, ag', iv, al, as, aw⟩ rm dp)) := upd_same
          have A25 : upd H24 kd (.dK (kt4 ⟨pa, ps, ag', iv, al, as, aw⟩ rm dp)) pa = some (.dK wsA) := by rw [L2.upd_ne nak]; exact s2024 _ _ A20
          have B25 : upd H24 kd (.dK (kt4 ⟨pa, ps, ag', iv, al, as, aw⟩ rm dp)) ps = some (.dK wsB) := by rw [L2.upd_ne nsk]; exact s2024 _ _ B20
          have W25 := kpx _ _ E24' rfl
          have bt25 : But p H (upd H24 kd (.dK (kt4 ⟨pa, ps, ag', iv, al, as, aw⟩ rm dp))) := But.updN (bt20.trans (Same.but s2024)) hkd
          have pl25 : Pl (upd H24 kd (.dK (kt4 ⟨pa, ps, ag', iv, al, as, aw⟩ rm dp))) p c := (pl20.mono s2024).put nkd.1 nkd.2
          have kvA25 := kvA20.mono kp25
          have kvB25 := kvB20.mono kp25
          have G25 := kp25 _ _ G20 rfl
          have V25 := kp25 _ _ V20 rfl
          have L25 := kp25 _ _ L20 rfl
          have S25 := kp25 _ _ S20 rfl
          revert K25 A25 B25 W25 bt25 pl25 kvA25 kvB25 G25 V25 L25 S25
          clear kp25 kpx
          generalize upd H24 kd _ = H25
          intro K25 A25 B25 W25 bt25 pl25 kvA25 kvB25 G25 V25 L25 S25
          clear K24 K20 A20 B20 kvA20 kvB20 G20 V20 L20 S20 E24' E24 E23 E22 E21
          refine ⟨pa, _, A25, trivial, fun od => ?_⟩
          have kpz : Kp H25 (upd H25 pa (.frz od (.dK wsA))) := fun b o hb ho => by
            rw [L2.upd_ne (fun e => by rw [e, A25] at hb; cases hb; cases ho)]
            exact hb
          have kpy : Kp H25 (upd (upd H25 pa (.frz od (.dK wsA))) pa (.dK wsA)) := fun b o hb ho => by
            have : b ≠ pa := fun e => by rw [e, A25] at hb; cases hb; cases ho
            rw [L2.upd_ne this, L2.upd_ne this]
            exact hb
          have KZ25 : upd H25 pa (.frz od (.dK wsA)) kd = some (.dK (kt4 ⟨pa, ps, ag', iv, al, as, aw⟩ rm dp)) := by rw [L2.upd_ne nak.symm]; exact K25
          refine ⟨_, rfl, kd, _, rfl, DGet.k (k := (.inr "asks" : Key)) KZ25, pa, od, rfl, .inl ⟨wsA, upd_same, ?_⟩⟩
          refine for_it walk_keys (fun i σ H' => (∃ y5 : Option V, σ = [some (.ref p), some (.int rm), some (.int dp), some (.bl gt), some (.ref kd), y5]) ∧ ∃ (aw' : Addr) (W : List Str), H' kd = some (.dK (kt4 ⟨pa, ps, ag', iv, al, as, aw'⟩ rm dp)) ∧ H' pa = some (.frz od (.dK wsA)) ∧ H' ps = some (.dK wsB) ∧ KvsR K H' wsA ka ∧ KvsR K (upd H' pa (.dK wsA)) wsA ka ∧ KvsR K (upd H' pa (.dK wsA)) wsB kb ∧ H' ag' = some (.lst (gs.map V.str)) ∧ H' iv = some (.tup (ins.map V.str)) ∧ H' al = some (.lst (labs.map V.str)) ∧ H' as = some (.lst (slo.map V.str)) ∧ H' aw' = some (.lst (W.map V.str)) ∧ (∀ z ∈ W, isWordS z = true) ∧ W.length ≤ 7 + 4 * i ∧ 1 ≤ W.length ∧ But p H H' ∧ Pl H' p c) ⟨⟨_, rfl⟩, aw, W0, ?_, upd_same, ?_, kvA25.mono kpz, kvA25.mono kpy, kvB25.mono kpy, kpz _ _ G25 rfl, kpz _ _ V25 rfl, kpz _ _ L25 rfl, kpz _ _ S25 rfl, kpz _ _ W25 rfl, hW0, hW1, hW2, But.updN bt25 hpaH, pl25.put npa.1 npa.2⟩ (fun i σ H' _ q => by obtain ⟨_, _, _, _, f, _⟩ := q; exact f) ?_ ?_
          · rw [L2.upd_ne nak.symm]; exact K25
          · rw [L2.upd_ne nsa]; exact B25
          · rintro i x σ H27 H26 hi ⟨⟨y5, rfl⟩, aw', W, K26, A26, B26, kvA26, kvU26, kvB26, G26, V26, L26, S26, W26, hW, hWl, hWp, bt26, pl26⟩ ⟨rfl, kk, vv, hkv, rfl⟩
            obtain ⟨x, dd, hx, rfl, hv⟩ := kvA26.get hkv
            have hxm : x ∈ ka.map (·.1) := List.mem_map.mpr ⟨_, List.mem_of_getElem? hx, rfl⟩
            obtain ⟨v2, ev, dv⟩ := kvA26.val x hxm
            obtain ⟨us, eu, ul, uw⟩ := hka (x, lk ka x) (lk_in hxm)
            rw [show lk ka x = .tuple (us.map PyData.str) from eu] at dv
            obtain ⟨t, rfl, ts⟩ : ∃ t, v2 = .ref t ∧ SqT K H26 t (us.map V.str) := by
              cases dv with
              | tup h1 h2 =>
                rename_i xs
                obtain ⟨zs', ez, rfl⟩ := strs_of (by
                  refine List.all_eq_true.mpr fun d hd => ?_
                  obtain ⟨z, hz, rfl⟩ := List.mem_map.mp hd
                  exact uw z hz) h2
                obtain rfl : us = zs' := strs_inj ez
                exact ⟨_, rfl, h1⟩
            have hg : DGet H26 pa (kV (.inr x)) (some (.ref t)) := .inl ⟨wsA, .inr x, .inr ⟨od, A26⟩, rfl, ev.symm⟩
            refine ⟨_, rfl, kd, _, rfl, DGet.k (k := (.inr "words" : Key)) K26, _, rfl, kd, _, rfl, DGet.k (k := (.inr "asks" : Key)) K26, _, rfl, pa, _, rfl, hg, t, _, rfl, .inr ts, fun e1 he1 => ?_⟩
            have s27 := Same.new (o := .lst (us.map V.str)) he1
            have E27 := at_new (o := .lst (us.map V.str)) he1
            revert s27 E27
            generalize upd H26 e1 _ = H28
            intro s27 E27
            have hwl : wsA.length ≤ 2 := by rw [kvA26.len]; exact hkl
            refine ⟨aw', e1, _, _, rfl, rfl, s27 _ _ W26, E27, sz_lit (by rw [List.length_map, List.length_map]; omega), fun e2 he2 => ?_⟩
            have s28 := Same.new (o := .lst (W.map V.str ++ us.map V.str)) he2
            have E28 := at_new (o := .lst (W.map V.str ++ us.map V.str)) he2
            revert s28 E28
            generalize upd H28 e2 _ = H29
            intro s28 E28
            have s2729 := s27.trans s28
            have K29 := s2729 _ _ K26
            refine ⟨_, rfl, kd, _, rfl, DPut.k (k := (.inr "words" : Key)) K29 (lt_sz (by show 9 < 100000; decide)), ⟨_, rfl⟩, e2, W ++ us, ?_⟩
            rw [kt_w]
            have kpx := kpk (o := .dK (kt4 ⟨pa, ps, ag', iv, al, as, e2⟩ rm dp)) K29
            have kp30 := s2729.kp.trans kpx
            refine ⟨upd_same, ?_, ?_, kvA26.mono kp30, kvU26.mono (Kp.upd2 kp30), kvB26.mono (Kp.upd2 kp30), kp30 _ _ G26 rfl, kp30 _ _ V26 rfl, kp30 _ _ L26 rfl, kp30 _ _ S26 rfl, ?_, ?_, ?_, ?_, But.updN (bt26.trans (Same.but s2729)) hkd, (pl26.mono s2729).put nkd.1 nkd.2⟩
            · rw [L2.upd_ne nak]; exact s2729 _ _ A26
            · rw [L2.upd_ne nsk]; exact s2729 _ _ B26
            · rw [List.map_append]; exact kpx _ _ E28 rfl
            · intro z hz
              rcases List.mem_append.mp hz with hz | hz
              · exact hW z hz
              · exact uw z hz
            · rw [List.length_append]; omega
            · rw [List.length_append]; omega
          · rintro σ H26 ⟨⟨y5, rfl⟩, aw', W, K26, A26, B26, kvA26, kvU26, kvB26, G26, V26, L26, S26, W26, hW, hWl, hWp, bt26, pl26⟩
            have hwl : wsA.length ≤ 2 := by rw [kvA26.len]; exact hkl
            have kpz : ∀ b o, H26 b = some o → o ≠ .frz od (.dK wsA) → upd H26 pa (.dK wsA) b = some o := fun b o hb ho => by
              rw [L2.upd_ne (fun e => by rw [e, A26] at hb; exact ho (Option.some.inj hb).symm)]
              exact hb
            refine ⟨A26, _, rfl, ?_⟩
            refine k kd ⟨pa, ps, ag', iv, al, as, aw'⟩ ⟨⟨labs, slo, W, gs, zs, zs2⟩, ka, kb, ins, dp⟩ _ hkd hpaH hpsH (But.updN bt26 hpaH) (pl26.put npa.1 npa.2) ⟨?_, ⟨wsA, upd_same, kvU26⟩, ⟨wsB, ?_, kvB26⟩, kpz _ _ G26 (fun z => by cases z), kpz _ _ V26 (fun z => by cases z), kpz _ _ L26 (fun z => by cases z), kpz _ _ S26 (fun z => by cases z), kpz _ _ W26 (fun z => by cases z)⟩ ⟨⟨⟨by show labs.length ≤ 3; omega, lnd, lw⟩, ⟨by show slo.length ≤ 3; omega, snd', sw⟩, sin, hW, hgs, ⟨by show zs.length ≤ 3; omega, znd, zw⟩, ⟨by show zs2.length ≤ 3; omega, znd2, zw2⟩⟩, ksA, allA, ksB, allB, ⟨by show 1 ≤ ins.length; omega, by show ins.length ≤ 2; omega⟩, ind, iw, by show 2 ≤ labs.length; omega, by show 1 ≤ slo.length; omega, by show 1 ≤ zs.length; omega, ⟨hWp, by show W.length ≤ 40; omega⟩⟩ rfl
            · rw [L2.upd_ne nak.symm]; exact K26
            · rw [L2.upd_ne nsa]; exact B26
end
end Op
set_option pp.maxSteps 1500
namespace Op
open PySem L2 PyProof.Rows
theorem wt2 {k a : Str} (h1 : k.length ≤ 8) (h2 : a.length ≤ 8) : wt (.tuple [.str k, .str a]) ≤ 19 := by
  rw [wt_tuple, wts_cons, wts_cons, wts_nil, wt_str, wt_str]; omega
theorem wt3 {k a b : Str} (h1 : k.length ≤ 8) (h2 : a.length ≤ 8) (h3 : b.length ≤ 8) : wt (.tuple [.str k, .str a, .str b]) ≤ 28 := by
  rw [wt_tuple, wts_cons, wts_cons, wts_cons, wts_nil, wt_str, wt_str, wt_str]; omega
theorem two_mem {α : Type} {P : α → Prop} {a b : α} (h1 : P a) (h2 : P b) : ∀ x ∈ [a, b], P x := fun x hx => by
  rcases List.mem_cons.mp hx with rfl | hx
  · exact h1
  · rw [List.mem_singleton.mp hx]; exact h2
theorem wtf {k a : Str} {zs : List Str} (h1 : k.length ≤ 8) (h2 : a.length ≤ 8) (h3 : zs.length ≤ 3) (h4 : ∀ z ∈ zs, isWordS z = true) : wt (.tuple [.str k, .tuple (zs.map .str), .str a]) ≤ 60 ∧ wt (.tuple [.str k, .str a, .tuple (zs.map .str)]) ≤ 60 := by
  have h5 := wts_strs h4
  rw [wt_tuple, wt_tuple, wts_cons, wts_cons, wts_cons, wts_nil, wts_cons, wts_cons, wts_cons, wts_nil, wt_str, wt_str, wt_tuple]
  omega
/-! ### the generator's heap: the bag and the kit -/
structure KS (K : PySem.W.Frag) (H : Hp) (p c kd : Addr) (A : KtA) (t : Kt) (rm : Int) : Prop where
  pl : Pl H p c
  kt : KtO K H kd A t rm
  kp' : kd ≠ p
  ap : A.pa ≠ p
  sp : A.ps ≠ p
  ak : A.pa ≠ kd
  sk : A.ps ≠ kd
section
variable {K : PySem.W.Frag} {H H' : Hp} {p c kd : Addr} {A : KtA} {t : Kt} {rm : Int}
theorem KtO.of (h : KtO K H kd A t rm) (hk : H' kd = H kd) (ha : H' A.pa = H A.pa) (hs : H' A.ps = H A.ps) (k : Kp H H') : KtO K H' kd A t rm := by
  obtain ⟨ws, a1, a2⟩ := h.asks
  obtain ⟨wz, b1, b2⟩ := h.sigs
  exact ⟨hk.trans h.at', ⟨ws, ha.trans a1, a2.mono k⟩, ⟨wz, hs.trans b1, b2.mono k⟩, k _ _ h.gates rfl, k _ _ h.ins rfl, k _ _ h.labels rfl, k _ _ h.slots rfl, k _ _ h.words rfl⟩
theorem KS.but (h : KS K H p c kd A t rm) (b : But p H H') (pl : Pl H' p c) : KS K H' p c kd A t rm := by
  obtain ⟨ws, a1, a2⟩ := h.kt.asks
  obtain ⟨wz, b1, b2⟩ := h.kt.sigs
  refine ⟨pl, h.kt.of ?_ ?_ ?_ (h.pl.kp b), h.kp', h.ap, h.sp, h.ak, h.sk⟩
  · rw [h.kt.at']; exact b _ _ h.kt.at' h.kp'
  · rw [a1]; exact b _ _ a1 h.ap
  · rw [b1]; exact b _ _ b1 h.sp
theorem KS.mono (h : KS K H p c kd A t rm) (s : Same H H') : KS K H' p c kd A t rm := h.but (Same.but s) (h.pl.mono s)
theorem KS.kc (h : KS K H p c kd A t rm) : kd ≠ c := fun e => by
  obtain ⟨xs, hx⟩ := h.pl.cells
  rw [← e, h.kt.at'] at hx
  cases hx
theorem KS.kp (h : KS K H p c kd A t rm) (f : Fr [p, kd] H H') : Kp H H' := fun b o hb ho => f b o hb fun m => by
  rcases List.mem_cons.mp m with e | m
  · obtain ⟨_, hh⟩ := h.pl.at
    rw [e, hh] at hb
    cases hb
    cases ho
  · rw [List.mem_singleton.mp m, h.kt.at'] at hb
    cases hb
    cases ho
theorem But.fr2 (b : But p H H') : Fr [p, kd] H H' := fun c o hc hn => b c o hc fun e => hn (by rw [e]; exact List.mem_cons_self)
theorem KS.room (h : KS K H p c kd A t rm) (rm' : Int) : KS K (upd H kd (.dK (kt4 A rm' t.deep))) p c kd A t rm' := by
  have k : Kp H (upd H kd (.dK (kt4 A rm' t.deep))) := kp_upd h.kt.at' rfl
  obtain ⟨ws, a1, a2⟩ := h.kt.asks
  obtain ⟨wz, b1, b2⟩ := h.kt.sigs
  refine ⟨h.pl.put h.kp' h.kc, ⟨upd_same, ⟨ws, (L2.upd_ne h.ak).trans a1, a2.mono k⟩, ⟨wz, (L2.upd_ne h.sk).trans b1, b2.mono k⟩, k _ _ h.kt.gates rfl, k _ _ h.kt.ins rfl, k _ _ h.kt.labels rfl, k _ _ h.kt.slots rfl, k _ _ h.kt.words rfl⟩, h.kp', h.ap, h.sp, h.ak, h.sk⟩
theorem Same.updN {D : Addr} {o : HO} (s : Same H H') (h : H D = none) : Same H (upd H' D o) := fun b u hb => by
  rw [L2.upd_ne (ne_of_none hb h)]
  exact s b u hb
theorem cut_take (xs : List V) (n : Nat) : cutV xs none (some (n : Int)) = xs.take n := by
  unfold cutV
  rw [HT.sIx_nat, HT.sIx_none, List.drop_zero, Nat.sub_zero]
  rcases Nat.le_total n xs.length with h | h
  · rw [Nat.min_eq_left h]
  · rw [Nat.min_eq_right h, List.take_of_length_le (Nat.le_refl _), List.take_of_length_le h]
theorem rd_or2 {σ : L2.St} {H : Hp} {Z : Bool → Hp → Prop} {j : Nat} {x a b : Int} (h : σ[j]? = some (some (.int x))) (k : Z (decide (x = a ∨ x = b)) H) : tOr (tTest (tOp rEq (tVar j) (tC (V.int a)))) (tTest (tOp rEq (tVar j) (tC (V.int b)))) σ H Z := by
  refine ⟨_, h, rfl, _, rfl, ?_⟩
  by_cases e : x = a
  · refine ifT (decide_eq_true (congrArg V.int e)) ?_
    rw [decide_eq_true (Or.inl e)] at k
    exact k
  · refine ifF (decide_eq_false fun z => e (V.int.inj z)) ⟨_, h, rfl, _, rfl, ?_⟩
    by_cases f : x = b
    · rw [decide_eq_true (congrArg V.int f)]
      rw [decide_eq_true (Or.inr f)] at k
      exact k
    · rw [decide_eq_false fun z => f (V.int.inj z)]
      rw [decide_eq_false (not_or.mpr ⟨e, f⟩)] at k
      exact k
theorem strV {zs : List Str} {v : V} (h : v ∈ zs.map V.str) : ∃ z ∈ zs, v = .str z := by
  obtain ⟨z, h1, rfl⟩ := List.mem_map.mp h
  exact ⟨z, h1, rfl⟩
end
def spStart (K : PySem.W.Frag) : Sp := fun vs H Q _ => ∃ (p c kd : Addr) (A : KtA) (t : Kt) (rm : Int) (lab : Str), vs = [.ref p, .ref kd, .str lab] ∧ KS K H p c kd A t rm ∧ KtV t ∧ lab ∈ t.G.labels ∧
  ∀ (v : V) (d : PyData) H', But p H H' → Pl H' p c → Dp K H' v d → wt d ≤ 60 → GFlat t.G d → Q v H'
def spPlain (K : PySem.W.Frag) : Sp := fun vs H Q _ => ∃ (p c kd : Addr) (A : KtA) (t : Kt) (rm pk : Int) (lp : Bool), vs = [.ref p, .ref kd, .int pk, .bl lp] ∧ KS K H p c kd A t rm ∧ KtV t ∧
  ∀ (v : V) (d : PyData) H', But p H H' → Pl H' p c → Dp K H' v d → wt d ≤ 60 → (∀ rec, GRow t.G rec lp d) → innerOf d = [] → Q v H'
section
variable {P : Program} {w : World} {K : PySem.W.Frag} {mg : Str → Option Value} {base : Heap}
/-- one(bag, sorted(kit[..].keys())) -/
theorem sorted_mem {ys ks : List Str} (h : ys.Perm ks) {z : Str} (hz : z ∈ ys) : z ∈ ks := h.mem_iff.mp hz
theorem sc__law_start_row : FnScope ["_law_bag_here", "_law_kit_here", "_law_label"] ["_law_bag_here", "_law_kit_here", "_law_label"] (defScope s__law_start_row) := ⟨rfl, rfl, rfl, by decide +kernel, rfl, by decide +kernel, by decide +kernel⟩
theorem ok_start {f : Addr} {fd : FuncData} (F : Fun K "_law_start_row" "_law_start_row" s__law_start_row f fd) (T : Txt mg) (c__law_draw : Cal P w K mg base CX0 1 "_law_draw" ["_law_bag_here", "_law_many"] spD) (c__law_one : Cal P w K mg base CX0 2 "_law_one" ["_law_bag_here", "_law_items"] (spOne K)) : FnOk P w K mg base CX0 3 f fd ["_law_bag_here", "_law_kit_here", "_law_label"] (spStart K) := by
  refine F.ok sc__law_start_row (fun vs H Q E h => ?_) (fun cdv A0 outer s H vs Q E hr h => ?_)
  · obtain ⟨p, c, kd, A, t, rm, lab, rfl, _⟩ := h
    rfl
  · obtain ⟨p, c, kd, A, t, rm, lab, rfl, ks, kv, hlab, k⟩ := h
    have hu := hu_of hr
    have wlab := word_len (kv.gn.labels.2.2 _ hlab)
    refine ⟨_, (pss_cons (ps_if (pt_cmpR op_eq (pe_cal c__law_draw (hr.mono (by omega)) rfl pass0 (pa_cons (pv 0) (pa_cons pe_int pa_nil))) pe_int (nomark _)) (pss_one (ps_ret (pe_tup (pa_cons pe_str (pa_cons (pv 2) pa_nil))))) pss_nil)
      (pss_one (ps_ret (pe_tup (pa_cons pe_str (pa_cons (pe_cal c__law_one (hr.mono (by omega)) rfl pass0 (pa_cons (pv 0) (pa_cons (pe_callB (call_sortedKV rfl) (by rfl) T.b_sorted (by decide +kernel) (pa_cons (pe_bm0 PySem.F.plainAttrs_dict PySem.F.slot_dict_keys PySem.F.type_dict_keys mt_keysV (pe_dget hu (pv 1) pe_str (fun _ _ => rfl))) pa_nil)) pa_nil))) (pa_cons (pv 2) pa_nil))))))), ?_⟩
    refine ⟨_, rfl, p, c, 3, rfl, ks.pl, by decide, fun r H1 r1 r2 b1 pl1 => ⟨rfl, _, rfl, ?_⟩⟩
    by_cases c0 : r = 0
    · refine ifT (decide_eq_true (congrArg V.int c0)) ⟨_, rfl, sz2 _ _, fun q hq => ?_⟩
      exact k _ _ _ (b1.trans (Same.but (Same.new hq))) (pl1.mono (Same.new hq)) (.tup (.inl (.inl upd_same)) (.cons (.str _) (.cons (.str _) .nil))) (by have := wt2 (k := "timer") (by decide +kernel) wlab; omega) ⟨fun _ _ => .timer hlab, flat_in (by decide +kernel) (flat1 rfl)⟩
    refine ifF (decide_eq_false fun z => c0 (V.int.inj z)) ?_
    have ks1 := ks.but b1 pl1
    obtain ⟨ws, a1, a2⟩ := ks1.kt.asks
    have hl : t.G.asks.length ≤ 3 := kv.gn.asks.1
    have hkeys : ws.map (·.1) = t.G.asks.map Sum.inr := by rw [a2.keys, kv.ak]
    refine ⟨_, rfl, _, rfl, kd, _, rfl, DGet.k (k := (.inr "asks" : Key)) ks1.kt.at', tyV_dK a1, A.pa, ws, rfl, rfl, .inl a1, fun q hq => ?_⟩
    have s2 := Same.new (o := keysO q A.pa) hq
    have q2 := at_new (o := keysO q A.pa) hq
    revert s2 q2
    generalize upd H1 q _ = H2
    intro s2 q2
    refine ⟨q, A.pa, ws, t.G.asks, rfl, q2, .inl (s2 _ _ a1), hkeys, by omega, fun ys l hp hs hl => ?_⟩
    have s3 := Same.new (o := .lst (ys.map V.str)) hl
    have l3 := at_new (o := .lst (ys.map V.str)) hl
    revert s3 l3
    generalize upd H2 l _ = H3
    intro s3 l3
    have hyl := hp.length_eq
    have ha1 := kv.a1
    refine ⟨p, c, l, _, rfl, (pl1.mono s2).mono s3, .inl (.inl l3), by rw [List.length_map]; omega, by rw [List.length_map]; omega, fun z H4 hz b4 pl4 => ?_⟩
    obtain ⟨a, ha, rfl⟩ := strV hz
    have ha := sorted_mem hp ha
    have wask := word_len (kv.gn.asks.2.2 _ ha)
    refine ⟨_, rfl, sz_lit (by show 3 ≤ 100000; decide), fun q hq => ?_⟩
    exact k _ _ _ (b1.trans ((Same.but (s2.trans s3)).trans (b4.trans (Same.but (Same.new hq))))) (pl4.mono (Same.new hq)) (.tup (.inl (.inl upd_same)) (.cons (.str _) (.cons (.str _) (.cons (.str _) .nil)))) (by have := wt3 (k := "ask") (by decide +kernel) wask wlab; omega) ⟨fun _ _ => .ask ha hlab, flat_in (by decide +kernel) (flat2 rfl rfl)⟩
theorem sc__law_plain_row : FnScope ["_law_bag_here", "_law_kit_here", "_law_pick", "_law_inside", "_law_label", "_law_slot", "_law_others", "_law_name"] ["_law_bag_here", "_law_kit_here", "_law_pick", "_law_inside"] (defScope s__law_plain_row) := ⟨rfl, rfl, rfl, by decide +kernel, rfl, by decide +kernel, by decide +kernel⟩
theorem ok_plain {f : Addr} {fd : FuncData} (F : Fun K "_law_plain_row" "_law_plain_row" s__law_plain_row f fd) (T : Txt mg) (c__law_draw : Cal P w K mg base CX0 1 "_law_draw" ["_law_bag_here", "_law_many"] spD) (c__law_one : Cal P w K mg base CX0 2 "_law_one" ["_law_bag_here", "_law_items"] (spOne K)) (c__law_words : Cal P w K mg base CX0 2 "_law_words" ["_law_bag_here", "_law_many", "_law_most", "_law_taken"] (spWords K)) (c__law_start_row : Cal P w K mg base CX0 3 "_law_start_row" ["_law_bag_here", "_law_kit_here", "_law_label"] (spStart K)) : FnOk P w K mg base CX0 4 f fd ["_law_bag_here", "_law_kit_here", "_law_pick", "_law_inside"] (spPlain K) := by
  refine F.ok sc__law_plain_row (fun vs H Q E h => ?_) (fun cdv A0 outer s H vs Q E hr h => ?_)
  · obtain ⟨p, c, kd, A, t, rm, pk, lp, rfl, _⟩ := h
    rfl
  · obtain ⟨p, c, kd, A, t, rm, pk, lp, rfl, ks, kv, k⟩ := h
    have hu := hu_of hr
    have gl := kv.gn.labels
    have gs := kv.gn.slots
    have e1 := kv.l1
    have e2 := kv.s1
    have e3 := kv.w1
    have e4 := kv.a1
    have e5 := gl.1
    have e6 := gs.1
    refine ⟨_, (pss_cons (ps_set (i := 4) sc__law_plain_row.nd rfl (.inr rfl) (pe_cal c__law_one (hr.mono (by omega)) rfl pass0 (pa_cons (pv 0) (pa_cons (pe_dget hu (pv 1) pe_str (fun _ _ => rfl)) pa_nil))))
      (pss_cons (ps_set (i := 5) sc__law_plain_row.nd rfl (.inl rfl) (pe_cal c__law_one (hr.mono (by omega)) rfl pass0 (pa_cons (pv 0) (pa_cons (pe_dget hu (pv 1) pe_str (fun _ _ => rfl)) pa_nil))))
      (pss_cons (ps_if (pt_cmpR op_eq (pv 2) pe_int (nomark _)) (pss_one (ps_ret (pe_cal c__law_start_row (hr.mono (by omega)) rfl pass0 (pa_cons (pv 0) (pa_cons (pv 1) (pa_cons (pv 4) pa_nil)))))) pss_nil)
      (pss_cons (ps_if (pt_cmpR op_eq (pv 2) pe_int (nomark _)) (pss_cons (ps_setLc (i := 6) (own := [("_law_name", 7)]) (g := gName 7)  rfl sc__law_plain_row.nd rfl rfl (sw_true rfl rfl rfl (by decide +kernel)) (pi_list (pe_dget hu (pv 1) pe_str (fun _ _ => rfl))) (blkOk_by (own := [("_law_name", 7)]) (N := ["_law_bag_here", "_law_kit_here", "_law_pick", "_law_inside", "_law_label", "_law_slot", "_law_others", "_law_name"]) (sc := defScope s__law_plain_row) (by decide +kernel)) (fun _ _ _ _ _ => (pg_name (i := 7) sc__law_plain_row.nd rfl (.inl rfl))) (fun _ _ _ _ _ => (pts_one (pt_cmpR op_ne (pv 7) (pv 4) (nomark _)))) (fun _ _ _ _ _ => (pv 7)))
      (pss_one (ps_ret (pe_tup (pa_cons pe_str (pa_cons (pe_callTy call_tuple_of (by rfl) T.b_tuple (by decide +kernel) (pa_cons (pe_op op_cat (pe_lst (pa_cons (pv 4) pa_nil)) (pe_slice sl_list (pv 6) po_none (po_some (pe_cal c__law_draw (hr.mono (by omega)) rfl pass0 (pa_cons (pv 0) (pa_cons pe_int pa_nil)))))) pa_nil)) (pa_cons (pv 5) pa_nil))))))) pss_nil)
      (pss_cons (ps_if (PW.pt (pw_or (pt_cmpR op_eq (pv 2) pe_int (nomark _)) (pw_or1 (pt_cmpR op_eq (pv 2) pe_int (nomark _))))) (pss_one (ps_ret (pe_ix ix_list (pe_lst (pa_cons (pe_tup (pa_cons pe_str (pa_cons (pv 4) (pa_cons (pv 5) pa_nil)))) (pa_cons (pe_tup (pa_cons pe_str (pa_cons (pv 4) pa_nil))) pa_nil))) (pe_op op_sub (pv 2) pe_int) (fun _ _ => rfl)))) pss_nil)
      (pss_cons (ps_if (PW.pt (pw_and (pt_cmpR op_eq (pv 2) pe_int (nomark _)) (pw_and1 (pt_cmpR op_gt (pe_callB call_lenD (by rfl) T.b_len (by decide +kernel) (pa_cons (pe_dget hu (pv 1) pe_str (fun _ _ => rfl)) pa_nil)) pe_int (nomark _))))) (pss_one (ps_ret (pe_tup (pa_cons pe_str (pa_cons (pe_cal c__law_one (hr.mono (by omega)) rfl pass0 (pa_cons (pv 0) (pa_cons (pe_callB (call_sortedKV rfl) (by rfl) T.b_sorted (by decide +kernel) (pa_cons (pe_bm0 PySem.F.plainAttrs_dict PySem.F.slot_dict_keys PySem.F.type_dict_keys mt_keysV (pe_dget hu (pv 1) pe_str (fun _ _ => rfl))) pa_nil)) pa_nil))) (pa_cons (pv 5) pa_nil)))))) pss_nil)
      (pss_cons (ps_if (pt_cmpR op_eq (pv 2) pe_int (nomark _)) (pss_one (ps_ret (pe_tup (pa_cons pe_str (pa_cons (pv 5) (pa_cons (pe_callTy call_tuple_of (by rfl) T.b_tuple (by decide +kernel) (pa_cons (pe_cal c__law_words (hr.mono (by omega)) rfl pass0 (pa_cons (pv 0) (pa_cons (pe_op op_add pe_int (pe_cal c__law_draw (hr.mono (by omega)) rfl pass0 (pa_cons (pv 0) (pa_cons pe_int pa_nil)))) (pa_cons pe_int (pa_cons (pe_lst pa_nil) pa_nil))))) pa_nil)) pa_nil)))))) pss_nil)
      (pss_cons (ps_if (PW.pt (pw_and (pt_cmpR op_eq (pv 2) pe_int (nomark _)) (pw_and1 (pt_val (pv 3))))) (pss_one (ps_ret (pe_tup (pa_cons pe_str pa_nil)))) pss_nil)
      (pss_cons (ps_if (pt_cmpR op_eq (pv 2) pe_int (nomark _)) (pss_one (ps_ret (pe_tup (pa_cons (pe_cal c__law_one (hr.mono (by omega)) rfl pass0 (pa_cons (pv 0) (pa_cons (pe_lst (pa_cons pe_str (pa_cons pe_str pa_nil))) pa_nil))) (pa_cons (pe_cal c__law_one (hr.mono (by omega)) rfl pass0 (pa_cons (pv 0) (pa_cons (pe_op op_cat (pe_dget hu (pv 1) pe_str (fun _ _ => rfl)) (pe_lst (pa_cons pe_str pa_nil))) pa_nil))) pa_nil))))) pss_nil)
      (pss_one (ps_ret (pe_tup (pa_cons pe_str (pa_cons (pv 5) (pa_cons (pe_cal c__law_one (hr.mono (by omega)) rfl pass0 (pa_cons (pv 0) (pa_cons (pe_dget hu (pv 1) pe_str (fun _ _ => rfl)) pa_nil))) pa_nil))))))))))))))), ?_⟩
    refine ⟨_, rfl, _, rfl, kd, _, rfl, DGet.k (k := (.inr "labels" : Key)) ks.kt.at', p, c, A.al, _, rfl, ks.pl, .inl (.inl ks.kt.labels), by rw [List.length_map]; omega, by rw [List.length_map]; omega, fun z H1 hz b1 pl1 => ?_⟩
    obtain ⟨lab, hlab, rfl⟩ := strV hz
    have ks1 := ks.but b1 pl1
    refine ⟨_, rfl, _, rfl, kd, _, rfl, DGet.k (k := (.inr "slots" : Key)) ks1.kt.at', p, c, A.as, _, rfl, pl1, .inl (.inl ks1.kt.slots), by rw [List.length_map]; omega, by rw [List.length_map]; omega, fun z H2 hz b2 pl2 => ?_⟩
    obtain ⟨sl, hsl, rfl⟩ := strV hz
    have ks2 := ks1.but b2 pl2
    have b02 := b1.trans b2
    have wlab := word_len (gl.2.2 _ hlab)
    have wsl := word_len (gs.2.2 _ hsl)
    refine ⟨_, rfl, rfl, _, rfl, ?_⟩
    by_cases c4 : pk = 4
    · refine ifT (decide_eq_true (congrArg V.int c4)) ⟨_, rfl, _, rfl, _, rfl, p, c, kd, A, t, rm, lab, rfl, ks2, kv, hlab, fun v d H3 b3 pl3 dv dw df => ?_⟩
      exact k v d H3 (b02.trans b3) pl3 dv dw (fun rec => df.1 _ _) df.2
    refine ifF (decide_eq_false fun z => c4 (V.int.inj z)) ⟨_, rfl, rfl, _, rfl, ?_⟩
    by_cases c5 : pk = 5
    · refine ifT (decide_eq_true (congrArg V.int c5)) ?_
      refine ⟨_, rfl, kd, _, rfl, DGet.k (k := (.inr "labels" : Key)) ks2.kt.at', A.al, rfl, ⟨_, .inl (.inl ks2.kt.labels)⟩, fun D hD => ?_⟩
      have nDal : A.al ≠ D := fun e => by rw [← e, ks2.kt.labels] at hD; cases hD
      refine lc_it (walk_list (xs := t.G.labels.map V.str)) (fun i H' => H' D = some (.lst (((t.G.labels.take i).filter fun z => !decide (z = lab)).map V.str)) ∧ Same H2 H') ⟨upd_same, Same.new hD⟩ (fun i H' _ q => .inl (.inl (q.2 _ _ ks2.kt.labels))) ?_ ?_
      · rintro i x H4 H3 hi ⟨hD3, s3⟩ ⟨rfl, hx⟩
        have hi' : i < t.G.labels.length := by rw [List.length_map] at hi; exact hi
        have hzi : t.G.labels[i]? = some t.G.labels[i] := List.getElem?_eq_getElem hi'
        obtain rfl : x = .str t.G.labels[i] := by
          rw [List.getElem?_map, hzi] at hx
          exact (Option.some.inj hx).symm
        refine ⟨rfl, _, rfl, _, rfl, rfl, _, rfl, ?_⟩
        by_cases z : t.G.labels[i] = lab
        · refine ifF (by rw [z, decide_eq_true rfl]; rfl) ⟨?_, s3⟩
          rw [hD3, TS.take_one hzi, List.filter_append, List.filter_cons_of_neg (by rw [z, decide_eq_true rfl]; decide), List.filter_nil, List.append_nil]
        · refine ifT (by rw [decide_eq_false fun e => z (V.str.inj e)]; rfl) ⟨_, rfl, _, hD3, lt_sz ?_, ?_, Same.updN s3 hD⟩
          · rw [List.length_map]
            have := List.length_filter_le (fun z => !decide (z = lab)) (t.G.labels.take i)
            have := List.length_take_le i t.G.labels
            omega
          · rw [upd_same, TS.take_one hzi, List.filter_append, List.filter_cons_of_pos (by rw [decide_eq_false z]; rfl), List.filter_nil, List.map_append]
            rfl
      · rintro H3 ⟨hD3, s3⟩
        rw [List.length_map, List.take_length] at hD3
        obtain ⟨os, hos⟩ : ∃ os, os = t.G.labels.filter fun z => !decide (z = lab) := ⟨_, rfl⟩
        rw [← hos] at hD3
        have hom : ∀ z ∈ os, z ∈ t.G.labels ∧ z ≠ lab := fun z hz => by
          rw [hos] at hz
          obtain ⟨h1, h2⟩ := List.mem_filter.mp hz
          refine ⟨h1, fun e => ?_⟩
          rw [e, decide_eq_true rfl] at h2
          cases h2
        have hon : os.Nodup := by rw [hos]; exact gl.2.1.filter _
        have hol : os.length ≤ 3 := by
          rw [hos]
          have := List.length_filter_le (fun z => !decide (z = lab)) t.G.labels
          omega
        clear hos
        refine ⟨_, rfl, sz1 _, fun e1 he1 => ?_⟩
        have s4 := Same.new (o := .lst [.str lab]) he1
        have E4 := at_new (o := .lst [.str lab]) he1
        revert s4 E4
        generalize upd H3 e1 _ = H4
        intro s4 E4
        have s24 := s3.trans s4
        refine ⟨_, rfl, _, rfl, p, c, 3, rfl, pl2.mono s24, by decide, fun r H5 r1 r2 b5 pl5 => ?_⟩
        obtain ⟨n, rfl⟩ := Int.eq_ofNat_of_zero_le r1
        have k5 := (pl2.mono s24).kp b5
        refine ⟨_, rfl, D, _, rfl, .inl (.inl (k5 _ _ (s4 _ _ hD3) rfl)), fun e2 he2 => ?_⟩
        rw [cut_take, ← List.map_take]
        have s6 := Same.new (o := .lst ((os.take n).map V.str)) he2
        have E6 := at_new (o := .lst ((os.take n).map V.str)) he2
        revert s6 E6
        generalize upd H5 e2 _ = H6
        intro s6 E6
        refine ⟨e1, e2, _, _, rfl, rfl, s6 _ _ (k5 _ _ E4 rfl), E6, sz_lit (by rw [List.length_map, List.length_take]; show 1 + min n os.length ≤ 100000; omega), fun e3 he3 => ?_⟩
        have s7 := Same.new (o := .lst ([.str lab] ++ (os.take n).map V.str)) he3
        have E7 := at_new (o := .lst ([.str lab] ++ (os.take n).map V.str)) he3
        revert s7 E7
        generalize upd H6 e3 _ = H7
        intro s7 E7
        refine ⟨e3, _, rfl, .inl ⟨.inl (.inl E7), fun t1 ht1 => ⟨_, rfl, sz_lit (by show 3 ≤ 100000; decide), fun q hq => ?_⟩⟩⟩
        have q1 := Same.new (o := .tup ((lab :: os.take n).map V.str)) ht1
        have q2 := Same.new (o := .tup [.str "first", .ref t1, .str sl]) hq
        have v1 := at_new (o := .tup ((lab :: os.take n).map V.str)) ht1
        have hall : ∀ z ∈ lab :: os.take n, z ∈ t.G.labels := fun z hz => by
          rcases List.mem_cons.mp hz with rfl | hz
          · exact hlab
          · exact (hom z (List.mem_of_mem_take hz)).1
        have hlen : (lab :: os.take n).length ≤ 3 := by rw [List.length_cons, List.length_take]; omega
        refine k _ (.tuple [.str "first", .tuple ((lab :: os.take n).map .str), .str sl]) _ (b02.trans ((Same.but s24).trans (b5.trans (Same.but (s6.trans (s7.trans (q1.trans q2))))))) (((pl5.mono s6).mono s7).mono (q1.trans q2)) (.tup (.inl (.inl upd_same)) (.cons (.str _) (.cons (.tup (.inl (.inl (q2 _ _ v1))) (dp_strs _)) (.cons (.str _) .nil)))) (wtf (by decide +kernel) wsl hlen fun z hz => gl.2.2 z (hall z hz)).1 (fun rec => .first hall ?_ (by show 1 ≤ _ + 1; omega) hlen hsl) (flat_in (by decide +kernel) (flat2 rfl rfl))
        exact List.nodup_cons.mpr ⟨fun h => (hom _ (List.mem_of_mem_take h)).2 rfl, List.Sublist.nodup (List.take_sublist _ _) hon⟩
    refine ifF (decide_eq_false fun z => c5 (V.int.inj z)) ?_
    by_cases c67 : pk = 6 ∨ pk = 7
    · refine rd_or2 (x := pk) (a := 6) (b := 7) rfl (ifT (decide_eq_true c67) ?_)
      refine ⟨_, rfl, _, rfl, sz_lit (by show 3 ≤ 100000; decide), fun t1 ht1 => ⟨_, rfl, sz2 _ _, fun t2 ht2 => ⟨sz2 _ _, fun l hl => ⟨_, rfl, _, _, rfl, rfl, ?_⟩⟩⟩⟩
      have q1 := Same.new (o := .tup [.str "await", .str lab, .str sl]) ht1
      have v1 := at_new (o := .tup [.str "await", .str lab, .str sl]) ht1
      have q2 := Same.new (o := .tup [.str "drop", .str lab]) ht2
      have v2 := at_new (o := .tup [.str "drop", .str lab]) ht2
      have q3 := Same.new (o := .lst [.ref t1, .ref t2]) hl
      have v3 := at_new (o := .lst [.ref t1, .ref t2]) hl
      have sq := q1.trans (q2.trans q3)
      rcases c67 with rfl | rfl
      · refine ⟨l, _, 0, .ref t1, rfl, rfl, .inl (.inl v3), rfl, ?_⟩
        exact k _ _ _ (b02.trans (Same.but sq)) (pl2.mono sq) (.tup (.inl (.inl (q3 _ _ (q2 _ _ v1)))) (.cons (.str _) (.cons (.str _) (.cons (.str _) .nil)))) (by have := wt3 (k := "await") (by decide +kernel) wlab wsl; omega) (fun _ => .await hlab hsl) (flat_in (by decide +kernel) (flat2 rfl rfl))
      · refine ⟨l, _, 1, .ref t2, rfl, rfl, .inl (.inl v3), rfl, ?_⟩
        exact k _ _ _ (b02.trans (Same.but sq)) (pl2.mono sq) (.tup (.inl (.inl (q3 _ _ v2))) (.cons (.str _) (.cons (.str _) .nil))) (by have := wt2 (k := "drop") (by decide +kernel) wlab; omega) (fun _ => .drop hlab) (flat_in (by decide +kernel) (flat1 rfl))
    refine rd_or2 (x := pk) (a := 6) (b := 7) rfl (ifF (decide_eq_false c67) ?_)
    obtain ⟨wz, z1, z2⟩ := ks2.kt.sigs
    have hzl : wz.length = t.G.boxes.length := by rw [z2.len, ← List.length_map (f := fun x : Str × PyData => x.1), kv.bk]
    have hbl : t.G.boxes.length ≤ 3 := kv.gn.boxes.1
    refine ⟨_, rfl, rfl, _, rfl, ?_⟩
    by_cases c8 : pk = 8 ∧ 0 < t.G.boxes.length
    · refine ifT (decide_eq_true (congrArg V.int c8.1)) ⟨_, rfl, kd, _, rfl, DGet.k (k := (.inr "signals" : Key)) ks2.kt.at', A.ps, wz, rfl, z1, _, _, rfl, rfl, _, rfl, ifT (decide_eq_true (by rw [hzl]; omega)) ?_⟩
      have hkeys : wz.map (·.1) = t.G.boxes.map Sum.inr := by rw [z2.keys, kv.bk]
      refine ⟨_, rfl, _, rfl, kd, _, rfl, DGet.k (k := (.inr "signals" : Key)) ks2.kt.at', tyV_dK z1, A.ps, wz, rfl, rfl, .inl z1, fun q hq => ?_⟩
      have s3 := Same.new (o := keysO q A.ps) hq
      have q3 := at_new (o := keysO q A.ps) hq
      revert s3 q3
      generalize upd H2 q _ = H3
      intro s3 q3
      refine ⟨q, A.ps, wz, t.G.boxes, rfl, q3, .inl (s3 _ _ z1), hkeys, by omega, fun ys l hp hs hl => ?_⟩
      have s4 := Same.new (o := .lst (ys.map V.str)) hl
      have l4 := at_new (o := .lst (ys.map V.str)) hl
      revert s4 l4
      generalize upd H3 l _ = H4
      intro s4 l4
      have hyl := hp.length_eq
      refine ⟨p, c, l, _, rfl, (pl2.mono s3).mono s4, .inl (.inl l4), by rw [List.length_map]; omega, by rw [List.length_map]; omega, fun z H5 hz b5 pl5 => ?_⟩
      obtain ⟨a, ha, rfl⟩ := strV hz
      have ha := sorted_mem hp ha
      have wask := word_len (kv.gn.boxes.2.2 _ ha)
      refine ⟨_, rfl, sz_lit (by show 3 ≤ 100000; decide), fun q hq => ?_⟩
      exact k _ _ _ (b02.trans ((Same.but (s3.trans s4)).trans (b5.trans (Same.but (Same.new hq))))) (pl5.mono (Same.new hq)) (.tup (.inl (.inl upd_same)) (.cons (.str _) (.cons (.str _) (.cons (.str _) .nil)))) (by have := wt3 (k := "take") (by decide +kernel) wask wsl; omega) (fun _ => .take ha hsl) (flat_in (by decide +kernel) (flat2 rfl rfl))
    have h8 : ∀ (Z : Bool → Hp → Prop), Z false H2 → (if decide (V.int pk = V.int 8) = true then tTest (tOp (rI0 fun i j => V.bl (decide (j < i))) (tCB (fun xs H Q => ∃ a kvs, xs = [V.ref a] ∧ H a = some (HO.dK kvs) ∧ Q (V.int ↑kvs.length) H) (tCons (tDGet (tVar 1) (tC (V.str (Str.ofString "signals")))) tNil)) (tC (V.int 0))) [some (V.ref p), some (V.ref kd), some (V.int pk), some (V.bl lp), some (V.str lab), some (V.str sl), none, none] H2 Z else Z false H2) := fun Z hZ => by
      by_cases e : pk = 8
      · refine ifT (decide_eq_true (congrArg V.int e)) ⟨_, rfl, kd, _, rfl, DGet.k (k := (.inr "signals" : Key)) ks2.kt.at', A.ps, wz, rfl, z1, _, _, rfl, rfl, _, rfl, ?_⟩
        rw [decide_eq_false (by rw [hzl]; exact fun z => c8 ⟨e, by omega⟩)]
        exact hZ
      · exact ifF (decide_eq_false fun z => e (V.int.inj z)) hZ
    refine h8 _ (ifF rfl ?_)
    refine ⟨_, rfl, rfl, _, rfl, ?_⟩
    by_cases c9 : pk = 9
    · refine ifT (decide_eq_true (congrArg V.int c9)) ⟨_, rfl, _, rfl, _, rfl, p, c, 3, rfl, pl2, by decide, fun r H3 r1 r2 b3 pl3 => ⟨_, _, rfl, rfl, sz_lit (by decide), fun e he => ?_⟩⟩
      have s4 := Same.new (o := .lst []) he
      have l4 := at_new (o := .lst []) he
      revert s4 l4
      generalize upd H3 e _ = H4
      intro s4 l4
      obtain ⟨n, hn⟩ : ∃ n : Nat, 1 + r = n := ⟨(1 + r).toNat, (Int.toNat_of_nonneg (by omega)).symm⟩
      refine ⟨p, c, e, n, 1, [], congrArg (fun n => [V.ref p, V.int n, V.int 1, V.ref e]) hn, pl3.mono s4, .inl (.inl l4), by decide, by decide, by show 0 + n ≤ 25; omega, fun l zs H5 hl b5 pl5 f5 hz hnd hw => ?_⟩
      refine ⟨l, _, rfl, .inl ⟨.inl (.inl f5), fun t1 ht1 => ⟨sz_lit (by show 3 ≤ 100000; decide), fun q hq => ?_⟩⟩⟩
      have q1 := Same.new (o := .tup (zs.map V.str)) ht1
      have q2 := Same.new (o := .tup [.str "note", .str sl, .ref t1]) hq
      have v1 := at_new (o := .tup (zs.map V.str)) ht1
      exact k _ (.tuple [.str "note", .str sl, .tuple (zs.map .str)]) _ (b02.trans (b3.trans ((Same.but s4).trans (b5.trans (Same.but (q1.trans q2)))))) (pl5.mono (q1.trans q2)) (.tup (.inl (.inl upd_same)) (.cons (.str _) (.cons (.str _) (.cons (.tup (.inl (.inl (q2 _ _ v1))) (dp_strs _)) .nil)))) (wtf (by decide +kernel) wsl (by omega) fun z hz => (hw z hz).1).2 (fun rec => .note hsl (words_ok (by omega) (by omega) hnd fun z hz => (hw z hz).1)) (flat_in (by decide +kernel) (flat2 rfl rfl))
    refine ifF (decide_eq_false fun z => c9 (V.int.inj z)) ?_
    refine ⟨_, rfl, rfl, _, rfl, ?_⟩
    by_cases c15 : pk = 15
    · refine ifT (decide_eq_true (congrArg V.int c15)) ⟨_, rfl, lp, rfl, ?_⟩
      cases lp with
      | true =>
        refine ifT rfl ⟨sz1 _, fun q hq => ?_⟩
        exact k _ (.tuple [.str "leave"]) _ (b02.trans (Same.but (Same.new hq))) (pl2.mono (Same.new hq)) (.tup (.inl (.inl upd_same)) (.cons (.str _) .nil)) (by rw [wt_tuple, wts_cons, wts_nil, wt_str, show ("leave" : Str).length = 5 by decide +kernel]; omega) (fun _ => .leave rfl) (flat_in (by decide +kernel) fun x hx => (List.not_mem_nil hx).elim)
      | false =>
        refine ifF rfl ⟨_, rfl, rfl, _, rfl, ifT (decide_eq_true (congrArg V.int c15)) ⟨_, rfl, sz2 _ _, fun e1 he1 => ?_⟩⟩
        have s3 := Same.new (o := .lst [.str "end", .str "anew"]) he1
        have l3 := at_new (o := .lst [.str "end", .str "anew"]) he1
        revert s3 l3
        generalize upd H2 e1 _ = H3
        intro s3 l3
        refine ⟨p, c, e1, _, rfl, pl2.mono s3, .inl (.inl l3), by show 1 ≤ 2; decide, by show 2 ≤ 1000; decide, fun z H4 hz b4 pl4 => ?_⟩
        have ks4 := (ks2.mono s3).but b4 pl4
        refine ⟨_, rfl, _, rfl, kd, _, rfl, DGet.k (k := (.inr "slots" : Key)) ks4.kt.at', sz1 _, fun e2 he2 => ?_⟩
        have s5 := Same.new (o := .lst [.str "in"]) he2
        have l5 := at_new (o := .lst [.str "in"]) he2
        revert s5 l5
        generalize upd H4 e2 _ = H5
        intro s5 l5
        refine ⟨A.as, e2, _, _, rfl, rfl, s5 _ _ ks4.kt.slots, l5, sz_lit (by rw [List.length_map]; show t.G.slots.length + 1 ≤ 100000; omega), fun e3 he3 => ?_⟩
        have s6 := Same.new (o := .lst (t.G.slots.map V.str ++ [.str "in"])) he3
        have l6 := at_new (o := .lst (t.G.slots.map V.str ++ [.str "in"])) he3
        revert s6 l6
        generalize upd H5 e3 _ = H6
        intro s6 l6
        refine ⟨p, c, e3, _, rfl, (pl4.mono s5).mono s6, .inl (.inl l6), by rw [List.length_append]; show 1 ≤ _ + 1; omega, by rw [List.length_append, List.length_map]; show _ + 1 ≤ 1000; omega, fun y H7 hy b7 pl7 => ⟨sz2 _ _, fun q hq => ?_⟩⟩
        obtain ⟨sy, rfl, hsy, wsy⟩ : ∃ sy, y = .str sy ∧ inS t.G sy ∧ sy.length ≤ 8 := by
          rcases List.mem_append.mp hy with hy | hy
          · obtain ⟨a, ha, rfl⟩ := strV hy
            exact ⟨a, rfl, .inl ha, word_len (gs.2.2 _ ha)⟩
          · exact ⟨"in", List.mem_singleton.mp hy, .inr rfl, by decide +kernel⟩
        have bb := b02.trans ((Same.but s3).trans (b4.trans ((Same.but (s5.trans s6)).trans (b7.trans (Same.but (Same.new (o := .tup [z, .str sy]) hq))))))
        have pp := pl7.mono (Same.new (o := .tup [z, .str sy]) hq)
        rcases List.mem_cons.mp hz with rfl | hz
        · exact k _ (.tuple [.str "end", .str sy]) _ bb pp (.tup (.inl (.inl upd_same)) (.cons (.str _) (.cons (.str _) .nil))) (by have := wt2 (k := "end") (by decide +kernel) wsy; omega) (fun _ => .fin hsy) (flat_in (by decide +kernel) (flat1 rfl))
        · obtain rfl := List.mem_singleton.mp hz
          exact k _ (.tuple [.str "anew", .str sy]) _ bb pp (.tup (.inl (.inl upd_same)) (.cons (.str _) (.cons (.str _) .nil))) (by have := wt2 (k := "anew") (by decide +kernel) wsy; omega) (fun _ => .anew hsy) (flat_in (by decide +kernel) (flat1 rfl))
    refine ifF (decide_eq_false fun z => c15 (V.int.inj z)) (ifF rfl ⟨_, rfl, rfl, _, rfl, ifF (decide_eq_false fun z => c15 (V.int.inj z)) ?_⟩)
    refine ⟨_, rfl, _, rfl, _, rfl, kd, _, rfl, DGet.k (k := (.inr "words" : Key)) ks2.kt.at', p, c, A.aw, _, rfl, pl2, .inl (.inl ks2.kt.words), by rw [List.length_map]; omega, by rw [List.length_map]; omega, fun z H3 hz b3 pl3 => ⟨sz_lit (by show 3 ≤ 100000; decide), fun q hq => ?_⟩⟩
    obtain ⟨a, ha, rfl⟩ := strV hz
    have wa := kv.gn.words _ ha
    exact k _ _ _ (b02.trans (b3.trans (Same.but (Same.new hq)))) (pl3.mono (Same.new hq)) (.tup (.inl (.inl upd_same)) (.cons (.str _) (.cons (.str _) (.cons (.str _) .nil)))) (by have := wt3 (k := "put") (by decide +kernel) wsl (word_len wa); omega) (fun _ => .put hsl wa) (flat_in (by decide +kernel) (flat2 rfl rfl))
end
end Op
set_option pp.maxSteps 1500
namespace Op
open PySem L2 PyProof.Rows
theorem dec_intV {a b : Int} : decide (V.int a = V.int b) = decide (a = b) := decide_eq_decide.mpr ⟨fun e => V.int.inj e, fun e => by rw [e]⟩
def flg (lp : Bool) (pk : Int) : Bool := (lp || decide (pk = 12)) && !decide (pk = 13)
theorem rd_flg {σ : L2.St} {H : Hp} {Q : VK} {lp : Bool} {pk : Int} (h4 : σ[4]? = some (some (.bl lp))) (h2 : σ[2]? = some (some (.int pk))) (h : Q (.bl (flg lp pk)) H) : tAndV (tOrV (tVar 4) (tOp rEq (tVar 2) (tC (.int 12)))) (tOp rNe (tVar 2) (tC (.int 13))) σ H Q := by
  refine ⟨_, h4, lp, rfl, ?_⟩
  cases lp with
  | true =>
    refine ifT rfl ⟨_, rfl, ifT rfl ⟨_, h2, rfl, ?_⟩⟩
    have e : flg true pk = !decide (V.int pk = V.int 13) := by unfold flg; rw [dec_intV]; rfl
    rw [← e]
    exact h
  | false =>
    refine ifF rfl ⟨_, h2, rfl, _, rfl, ?_⟩
    by_cases c : pk = 12
    · refine ifT (decide_eq_true (congrArg V.int c)) ⟨_, h2, rfl, ?_⟩
      have e : flg false pk = !decide (V.int pk = V.int 13) := by unfold flg; rw [dec_intV, decide_eq_true c]; rfl
      rw [← e]
      exact h
    · refine ifF (decide_eq_false fun z => c (V.int.inj z)) ?_
      have e : flg false pk = false := by unfold flg; rw [decide_eq_false c]; rfl
      rw [← e]
      exact h
/-- lists of rows -/
def LL (K : PySem.W.Frag) (U : Hp) : List V → List (List PyData) → Prop
  | [], [] => True
  | v :: r, A :: t => (∃ a xs, v = .ref a ∧ U a = some (.lst xs) ∧ L2.DpAll K U xs A) ∧ LL K U r t
  | _, _ => False
section
variable {K : PySem.W.Frag} {U U' : Hp}
theorem LL.kp (k : Kp U U') : ∀ {vs : List V} {ls : List (List PyData)}, LL K U vs ls → LL K U' vs ls
  | [], [], _ => trivial
  | v :: r, A :: t, ⟨⟨a, xs, h1, h2, h3⟩, h4⟩ => ⟨⟨a, xs, h1, k _ _ h2 rfl, DpAll.kp k h3⟩, LL.kp k h4⟩
theorem LL.dp : ∀ {vs : List V} {ls : List (List PyData)}, LL K U vs ls → L2.DpAll K U vs (ls.map PyData.list)
  | [], [], _ => .nil
  | v :: r, A :: t, ⟨⟨a, xs, h1, h2, h3⟩, h4⟩ => by rw [h1]; exact .cons (.lst (.inl (.inl h2)) h3) (LL.dp h4)
theorem LL.len : ∀ {vs : List V} {ls : List (List PyData)}, LL K U vs ls → vs.length = ls.length
  | [], [], _ => rfl
  | v :: r, A :: t, ⟨_, h4⟩ => by rw [List.length_cons, List.length_cons, LL.len h4]
theorem LL.two {vs : List V} {ls : List (List PyData)} (h : LL K U vs ls) (hl : ls.length = 2) : ∃ a0 a1 x0 x1 X Y, vs = [.ref a0, .ref a1] ∧ ls = [X, Y] ∧ U a0 = some (.lst x0) ∧ L2.DpAll K U x0 X ∧ U a1 = some (.lst x1) ∧ L2.DpAll K U x1 Y := by
  have hv := h.len
  rw [hl] at hv
  rcases vs with _ | ⟨v, _ | ⟨v', _ | ⟨v'', r⟩⟩⟩
  · cases hv
  · cases hv
  · rcases ls with _ | ⟨X, _ | ⟨Y, _ | ⟨Z, r⟩⟩⟩
    · cases hl
    · cases hl
    · obtain ⟨⟨a0, x0, h1, h2, h3⟩, ⟨a1, x1, h4, h5, h6⟩, _⟩ := h
      exact ⟨a0, a1, x0, x1, X, Y, by rw [h1, h4], rfl, h2, h3, h5, h6⟩
    · cases hl
  · cases hv
theorem LL.snoc {v : V} {A : List PyData} (h : ∃ a xs, v = .ref a ∧ U a = some (.lst xs) ∧ L2.DpAll K U xs A) : ∀ {vs : List V} {ls : List (List PyData)}, LL K U vs ls → LL K U (vs ++ [v]) (ls ++ [A])
  | [], [], _ => ⟨h, trivial⟩
  | v :: r, A :: t, ⟨h1, h4⟩ => ⟨h1, LL.snoc h h4⟩
theorem cntRL {rec : List PyData → Nat} {ls : List (List PyData)} : cntR rec (.tuple [.str "both", .tuple (ls.map PyData.list)]) = 1 + (ls.map rec).sum := by
  show 1 + ((innerL "both" [.tuple (ls.map PyData.list)]).map fun x => rec (listOf x)).sum = _
  unfold innerL
  rw [if_pos rfl]
  show 1 + ((ls.map PyData.list).map fun x => rec (listOf x)).sum = _
  rw [List.map_map]
  rfl
theorem wtsL : ∀ ls : List (List PyData), wts (ls.map PyData.list) = ls.length + (ls.map wts).sum
  | [] => by rw [List.map_nil, wts_nil]; rfl
  | a :: r => by
    rw [List.map_cons, wts_cons, wt_list, wtsL r, List.length_cons, List.map_cons, List.sum_cons]
    omega
theorem nL_cut {H H' : Hp} {b : Addr} {o : HO} (hb : H b = none) (h : H' b = some o) : cutH (LstAt H) H' b = some o := by
  rw [cut_not (fun z => by obtain ⟨xs, e⟩ := z; rw [hb] at e; cases e)]
  exact h
theorem Fr.updN {L : List Addr} {H H' : Hp} {b : Addr} {o : HO} (f : Fr L H H') (h : H b = none) : Fr L H (upd H' b o) := fun c u hc n => by
  rw [L2.upd_ne (ne_of_none hc h)]
  exact f c u hc n
theorem Fr.free {L : List Addr} {H H' : Hp} {b : Addr} (f : Fr L H H') (h : H' b = none) (n : b ∉ L) : H b = none := by
  cases q : H b with
  | none => rfl
  | some o => rw [f b o q n] at h; cases h
end
theorem noLbox {d : PyData} (h : isBox d = true) : noL d = true := noL_box h
theorem KS.lst {K : PySem.W.Frag} {H H0 : Hp} {p c kd D : Addr} {A : KtA} {t : Kt} {rm rm0 : Int} {xs : List V} {o : HO} (h : KS K H p c kd A t rm) (kv : KtV t) (h0 : KS K H0 p c kd A t rm0) (hD0 : H0 D = none) (hD : H D = some (.lst xs)) : KS K (upd H D o) p c kd A t rm := by
  have ne : ∀ {b : Addr} {u : HO}, H0 b = some u → b ≠ D := fun hb e => by rw [e, hD0] at hb; cases hb
  obtain ⟨ws, a1, a2⟩ := h.kt.asks
  obtain ⟨wz, b1, b2⟩ := h.kt.sigs
  obtain ⟨kvs, hp⟩ := h.pl.at
  have np : D ≠ p := fun e => by rw [e, hp] at hD; cases hD
  have nk : kd ≠ D := fun e => by rw [← e, h.kt.at'] at hD; cases hD
  have na : A.pa ≠ D := fun e => by rw [← e, a1] at hD; cases hD
  have ns : A.ps ≠ D := fun e => by rw [← e, b1] at hD; cases hD
  have nc : D ≠ c := (h0.pl.new hD0).2
  have hs : ∀ b, b = D → LstAt H b := fun b hb => ⟨xs, by rw [hb]; exact hD⟩
  have sm : Same (cutH (· = D) H) (upd H D o) := fun b u hb => by
    have nb : b ≠ D := cut_has (S := (· = D)) hb
    rw [L2.upd_ne nb]
    exact cut_at hb
  refine ⟨h.pl.put np nc, ⟨(L2.upd_ne nk).trans h.kt.at', ⟨ws, (L2.upd_ne na).trans a1, (KvsR.cutN hs a2 fun q hq => noL_words (kv.av q hq).1).mono sm.kp⟩, ⟨wz, (L2.upd_ne ns).trans b1, (KvsR.cutN hs b2 fun q hq => noLbox (kv.bv q hq).1).mono sm.kp⟩, (L2.upd_ne (ne h0.kt.gates)).trans h.kt.gates, (L2.upd_ne (ne h0.kt.ins)).trans h.kt.ins, (L2.upd_ne (ne h0.kt.labels)).trans h.kt.labels, (L2.upd_ne (ne h0.kt.slots)).trans h.kt.slots, (L2.upd_ne (ne h0.kt.words)).trans h.kt.words⟩, h.kp', h.ap, h.sp, h.ak, h.sk⟩
theorem KS.nin {K : PySem.W.Frag} {H : Hp} {p c kd b : Addr} {A : KtA} {t : Kt} {rm : Int} (h : KS K H p c kd A t rm) (hb : H b = none) : b ∉ [p, kd] := fun m => by
  rcases List.mem_cons.mp m with e | m
  · exact (h.pl.new hb).1 e
  · rw [List.mem_singleton.mp m, h.kt.at'] at hb; cases hb
def spList (K : PySem.W.Frag) (n : Nat) : Sp := fun vs H Q _ => ∃ (p c kd : Addr) (A : KtA) (t : Kt) (rm : Int) (lp : Bool), vs = [.ref p, .ref kd, .int (6 - (n : Int)), .bl lp] ∧ KS K H p c kd A t rm ∧ KtV t ∧ 0 ≤ rm ∧ rm ≤ 60 ∧ t.deep ≤ 5 ∧ 6 - (n : Int) ≤ t.deep ∧
  ∀ (l : Addr) (xs : List V) (ds : List PyData) (H' : Hp) (rm' : Int), Fr [p, kd] H H' → KS K H' p c kd A t rm' → 0 ≤ rm' → rm' ≤ rm → H l = none → H' l = some (.lst xs) → DpAll K (cutH (LstAt H) H') xs ds → GRows t.G n lp ds → (cntL n ds : Int) ≤ rm - rm' → (wts ds : Int) ≤ 100 * (rm - rm') → ds.length ≤ 8 → Q (.ref l) H'
def spGreat (K : PySem.W.Frag) (n : Nat) : Sp := fun vs H Q _ => ∃ (p c kd : Addr) (A : KtA) (t : Kt) (rm pk : Int) (lp : Bool), vs = [.ref p, .ref kd, .int pk, .int (5 - (n : Int)), .bl lp] ∧ 11 ≤ pk ∧ pk ≤ 14 ∧ KS K H p c kd A t rm ∧ KtV t ∧ 0 ≤ rm ∧ rm ≤ 60 ∧ t.deep ≤ 5 ∧ 6 - (n : Int) ≤ t.deep ∧
  ∀ (v : V) (d : PyData) (H' : Hp) (rm' : Int), Fr [p, kd] H H' → KS K H' p c kd A t rm' → 0 ≤ rm' → rm' ≤ rm → Dp K (cutH (LstAt H) H') v d → GRow t.G (GRows t.G n) lp d → (cntR (cntL n) d : Int) ≤ 1 + (rm - rm') → (wt d : Int) ≤ 60 + 100 * (rm - rm') → Q v H'
section
variable {P : Program} {w : World} {K : PySem.W.Frag} {mg : Str → Option Value} {base : Heap}
theorem sc__law_great_row : FnScope ["_law_bag_here", "_law_kit_here", "_law_pick", "_law_depth", "_law_inside", "_law_lists_here", "_law_k"] ["_law_bag_here", "_law_kit_here", "_law_pick", "_law_depth", "_law_inside"] (defScope s__law_great_row) := ⟨rfl, rfl, rfl, by decide +kernel, rfl, by decide +kernel, by decide +kernel⟩
theorem ok_great {f : Addr} {fd : FuncData} {k n : Nat} (F : Fun K "_law_great_row" "_law_great_row" s__law_great_row f fd) (T : Txt mg) (hk : 2 ≤ k) (c__law_draw : Cal P w K mg base CX0 1 "_law_draw" ["_law_bag_here", "_law_many"] spD) (c__law_one : Cal P w K mg base CX0 2 "_law_one" ["_law_bag_here", "_law_items"] (spOne K)) (c__law_list : Cal P w K mg base CX0 k "_law_list" ["_law_bag_here", "_law_kit_here", "_law_depth", "_law_inside"] (spList K n)) : FnOk P w K mg base CX0 (k + 1) f fd ["_law_bag_here", "_law_kit_here", "_law_pick", "_law_depth", "_law_inside"] (spGreat K n) := by
  refine F.ok sc__law_great_row (fun vs H Q E h => ?_) (fun cdv A0 outer s H vs Q E hr h => ?_)
  · obtain ⟨p, c, kd, A, t, rm, pk, lp, rfl, _⟩ := h
    rfl
  · obtain ⟨p, c, kd, A, t, rm, pk, lp, rfl, hp1, hp2, ks, kv, hr0, hr1, hd5, hdn, kk⟩ := h
    have hu := hu_of hr
    have gl := kv.gn.labels
    have gs := kv.gn.slots
    have e2 := kv.s1
    have e3 := kv.w1
    have e6 := gs.1
    have hdep : (5 - (n : Int)) + 1 = 6 - (n : Int) := by omega
    obtain ⟨m, rfl⟩ : ∃ m, n = m + 1 := ⟨n - 1, by omega⟩
    refine ⟨_, (pss_cons (ps_setLc (i := 5) (own := [("_law_k", 6)]) (g := gName 6) (tt := tYes) rfl sc__law_great_row.nd rfl rfl (sw_true rfl rfl rfl (by decide +kernel)) (pi_range1 (by rfl) T.b_range (pa_cons pe_int pa_nil)) (blkOk_by (own := [("_law_k", 6)]) (N := ["_law_bag_here", "_law_kit_here", "_law_pick", "_law_depth", "_law_inside", "_law_lists_here", "_law_k"]) (sc := defScope s__law_great_row) (by decide +kernel)) (fun _ _ _ _ _ => (pg_name (i := 6) sc__law_great_row.nd rfl (.inl rfl))) (fun _ _ _ _ _ => pts_nil) (fun _ _ _ _ _ => (pe_cal c__law_list (hr.mono (by omega)) rfl pass0 (pa_cons (pv 0) (pa_cons (pv 1) (pa_cons (pe_op op_add (pv 3) pe_int) (pa_cons (pe_and (pe_or (pv 4) (pe_one (pe_cmpR op_eq (pv 2) pe_int (nomark _)))) (pe_one (pe_cmpR op_ne (pv 2) pe_int (nomark _)))) pa_nil)))))))
      (pss_cons (ps_if (pt_cmpR op_eq (pv 2) pe_int (nomark _)) (pss_one (ps_ret (pe_tup (pa_cons pe_str (pa_cons (pe_cal c__law_one (hr.mono (by omega)) rfl pass0 (pa_cons (pv 0) (pa_cons (pe_op op_cat (pe_dget hu (pv 1) pe_str (fun _ _ => rfl)) (pe_lst (pa_cons pe_str pa_nil))) pa_nil))) (pa_cons (pe_cal c__law_one (hr.mono (by omega)) rfl pass0 (pa_cons (pv 0) (pa_cons (pe_dget hu (pv 1) pe_str (fun _ _ => rfl)) pa_nil))) (pa_cons (pe_ix ix_list (pv 5) pe_int (fun _ _ => rfl)) (pa_cons (pe_ix ix_list (pv 5) pe_int (fun _ _ => rfl)) pa_nil)))))))) pss_nil)
      (pss_cons (ps_if (pt_cmpR op_eq (pv 2) pe_int (nomark _)) (pss_one (ps_ret (pe_tup (pa_cons pe_str (pa_cons (pe_op op_cat (pe_ix ix_list (pv 5) pe_int (fun _ _ => rfl)) (pe_ix ix_list (pv 5) pe_int (fun _ _ => rfl))) pa_nil))))) pss_nil)
      (pss_cons (ps_if (pt_cmpR op_eq (pv 2) pe_int (nomark _)) (pss_cons (ps_if (pt_cmpR op_eq (pe_cal c__law_draw (hr.mono (by omega)) rfl pass0 (pa_cons (pv 0) (pa_cons pe_int pa_nil))) pe_int (nomark _)) (pss_one (ps_expr (pe_bm PySem.F.plainAttrs_list PySem.F.slot_list_append PySem.F.type_list_append mt_append (pv 5) (pa_cons (pe_cal c__law_list (hr.mono (by omega)) rfl pass0 (pa_cons (pv 0) (pa_cons (pv 1) (pa_cons (pe_op op_add (pv 3) pe_int) (pa_cons pe_bl pa_nil))))) pa_nil)))) pss_nil)
      (pss_one (ps_ret (pe_tup (pa_cons pe_str (pa_cons (pe_callTy call_tuple_of (by rfl) T.b_tuple (by decide +kernel) (pa_cons (pv 5) pa_nil)) pa_nil)))))) pss_nil)
      (pss_cons (ps_if (pt_cmpR op_eq (pe_callB call_len_seq (by rfl) T.b_len (by decide +kernel) (pa_cons (pe_dget hu (pv 1) pe_str (fun _ _ => rfl)) pa_nil)) pe_int (nomark _)) (pss_one (ps_ret (pe_tup (pa_cons pe_str (pa_cons (pe_op op_cat (pe_ix ix_list (pv 5) pe_int (fun _ _ => rfl)) (pe_ix ix_list (pv 5) pe_int (fun _ _ => rfl))) pa_nil))))) pss_nil)
      (pss_cons (ps_if (pt_cmpR op_eq (pe_cal c__law_draw (hr.mono (by omega)) rfl pass0 (pa_cons (pv 0) (pa_cons pe_int pa_nil))) pe_int (nomark _)) (pss_one (ps_ret (pe_tup (pa_cons pe_str (pa_cons (pe_cal c__law_one (hr.mono (by omega)) rfl pass0 (pa_cons (pv 0) (pa_cons (pe_dget hu (pv 1) pe_str (fun _ _ => rfl)) pa_nil))) (pa_cons (pe_op op_cat (pe_ix ix_list (pv 5) pe_int (fun _ _ => rfl)) (pe_ix ix_list (pv 5) pe_int (fun _ _ => rfl))) pa_nil)))))) pss_nil)
      (pss_one (ps_ret (pe_tup (pa_cons pe_str (pa_cons (pe_cal c__law_one (hr.mono (by omega)) rfl pass0 (pa_cons (pv 0) (pa_cons (pe_dget hu (pv 1) pe_str (fun _ _ => rfl)) pa_nil))) (pa_cons (pe_ix ix_list (pv 5) pe_int (fun _ _ => rfl)) (pa_cons (pe_ix ix_list (pv 5) pe_int (fun _ _ => rfl)) pa_nil))))))))))))), ?_⟩
    refine ⟨2, rfl, by decide, by decide, fun D hD => ?_⟩
    rw [show (2 : Int).toNat = 2 from rfl]
    have nDp : D ∉ [p, kd] := fun m => by
      rcases List.mem_cons.mp m with e | m
      · exact (ks.pl.new hD).1 e
      · rw [List.mem_singleton.mp m, ks.kt.at'] at hD; cases hD
    have subS : ∀ {H1 : Hp} {xs : List V}, Kp H H1 → H1 D = some (.lst xs) → ∀ b, LstAt H b ∨ b = D → LstAt H1 b := fun k h b hb => by
      rcases hb with ⟨ys, hb⟩ | rfl
      · exact ⟨ys, k _ _ hb rfl⟩
      · exact ⟨_, h⟩
    refine lc_it (walk_range (lo := 0) (n := 2)) (fun i H' => ∃ (xs : List V) (ls : List (List PyData)) (rm' : Int), H' D = some (.lst xs) ∧ ls.length = i ∧ LL K (cutH (fun b => LstAt H b ∨ b = D) H') xs ls ∧ KS K H' p c kd A t rm' ∧ Fr [p, kd] H H' ∧ 0 ≤ rm' ∧ rm' ≤ rm ∧ (∀ a ∈ ls, GRows t.G (m + 1) (flg lp pk) a) ∧ ((ls.map (cntL (m + 1))).sum : Int) ≤ rm - rm' ∧ ((ls.map wts).sum : Int) ≤ 100 * (rm - rm')) ⟨[], [], rm, upd_same, rfl, trivial, ks.mono (Same.new hD), (Same.new hD).fr, hr0, Int.le_refl _, fun a ha => (List.not_mem_nil ha).elim, by show ((0 : Nat) : Int) ≤ _; omega, by show ((0 : Nat) : Int) ≤ _; omega⟩ (fun _ _ _ _ => trivial) ?_ ?_
    · rintro i x H2 H1 hi ⟨xs, ls, rm1, hD1, hll, hL1, ks1, fr1, r0, r1, hg, hc, hw⟩ ⟨rfl, rfl⟩
      refine ⟨rfl, _, rfl, _, rfl, _, rfl, _, _, rfl, rfl, rd_flg rfl rfl ?_⟩
      refine ⟨p, c, kd, A, t, rm1, flg lp pk, by show [V.ref p, V.ref kd, V.int (5 - ((m + 1 : Nat) : Int) + 1), V.bl (flg lp pk)] = _; rw [hdep], ks1, kv, r0, by omega, hd5, hdn, fun l ys ds H2 rm2 fr2 ks2 z0 z1 hl1 hl2 dp2 g2 c2 w2 _ => ?_⟩
      have kp12 := ks1.kp fr2
      have hlH : H l = none := Fr.free fr1 hl1 (fun mm => by
        rcases List.mem_cons.mp mm with e | mm
        · exact (ks1.pl.new hl1).1 e
        · rw [List.mem_singleton.mp mm, ks1.kt.at'] at hl1; cases hl1)
      have nlD : l ≠ D := fun e => by rw [e, hD1] at hl1; cases hl1
      have kpH1 := ks.kp fr1
      have hxl := hL1.len
      have hnl : H2 l = cutH (fun b => LstAt H b ∨ b = D) H2 l := by
        rw [cut_not]
        rintro (⟨zs, e⟩ | e)
        · rw [hlH] at e; cases e
        · exact nlD e
      refine ⟨xs, fr2 _ _ hD1 nDp, lt_sz (by omega), xs ++ [.ref l], ls ++ [ds], rm2, upd_same, by rw [List.length_append, hll]; rfl, ?_, ?_, Fr.updN (fr1.trans fr2) hD, z0, by omega, ?_, ?_, ?_⟩
      · rw [cut_upd (.inr rfl)]
        exact (hL1.kp (cut_kpS kp12)).snoc ⟨l, ys, rfl, hnl.symm.trans hl2, DpAll.mono (cut_sub (subS kpH1 hD1)) dp2⟩
      · exact ks2.lst kv ks hD (fr2 _ _ hD1 nDp)
      · intro a ha
        rcases List.mem_append.mp ha with ha | ha
        · exact hg a ha
        · rw [List.mem_singleton.mp ha]; exact g2
      · rw [List.map_append, List.sum_append]
        show ((_ + (cntL (m + 1) ds + 0) : Nat) : Int) ≤ _
        omega
      · rw [List.map_append, List.sum_append]
        show ((_ + (wts ds + 0) : Nat) : Int) ≤ _
        omega
    · rintro H1 ⟨xs, ls, rm1, hD1, hll, hL1, ks1, fr1, r0, r1, hg, hc, hw⟩
      obtain ⟨a0, a1, x0, x1, X, Y, rfl, rfl, u0, d0, u1, d1⟩ : ∃ a0 a1 x0 x1 X Y, xs = [.ref a0, .ref a1] ∧ ls = [X, Y] ∧ cutH (fun b => LstAt H b ∨ b = D) H1 a0 = some (.lst x0) ∧ DpAll K (cutH (fun b => LstAt H b ∨ b = D) H1) x0 X ∧ cutH (fun b => LstAt H b ∨ b = D) H1 a1 = some (.lst x1) ∧ DpAll K (cutH (fun b => LstAt H b ∨ b = D) H1) x1 Y := by
        exact hL1.two hll
      have gX := hg X (by simp)
      have gY := hg Y (by simp)
      have hc : ((cntL (m + 1) X + (cntL (m + 1) Y + 0) : Nat) : Int) ≤ rm - rm1 := hc
      have hw : ((wts X + (wts Y + 0) : Nat) : Int) ≤ 100 * (rm - rm1) := hw
      have sub1 : Same (cutH (fun b => LstAt H b ∨ b = D) H1) (cutH (LstAt H) H1) := cut_sub fun b hb => .inl hb
      have w0 := sub1 _ _ u0
      have w1 := sub1 _ _ u1
      have e0 := DpAll.mono sub1 d0
      have e1 := DpAll.mono sub1 d1
      have f0 : H1 a0 = some (.lst x0) := cut_at w0
      have f1 : H1 a1 = some (.lst x1) := cut_at w1
      have hX := wts_len X
      have hY := wts_len Y
      have hx0 := e0.len
      have hx1 := e1.len
      have gi := kv.gn.ids
      refine ⟨_, rfl, rfl, _, rfl, ?_⟩
      by_cases c11 : pk = 11
      · have ef : flg lp pk = lp := by rw [c11]; unfold flg; cases lp <;> rfl
        rw [ef] at gX gY
        refine ifT (decide_eq_true (congrArg V.int c11)) ⟨_, rfl, _, rfl, kd, _, rfl, DGet.k (k := (.inr "slots" : Key)) ks1.kt.at', sz1 _, fun b1 hb1 => ?_⟩
        have s2 := Same.new (o := .lst [.str "in"]) hb1
        have l2 := at_new (o := .lst [.str "in"]) hb1
        revert s2 l2
        generalize upd H1 b1 _ = H2
        intro s2 l2
        refine ⟨A.as, b1, _, _, rfl, rfl, s2 _ _ ks1.kt.slots, l2, sz_lit (by rw [List.length_map]; show t.G.slots.length + 1 ≤ 100000; omega), fun b2 hb2 => ?_⟩
        have s3 := Same.new (o := .lst (t.G.slots.map V.str ++ [.str "in"])) hb2
        have l3 := at_new (o := .lst (t.G.slots.map V.str ++ [.str "in"])) hb2
        revert s3 l3
        generalize upd H2 b2 _ = H3
        intro s3 l3
        have s13 := s2.trans s3
        have ks3 := ks1.mono s13
        refine ⟨p, c, b2, _, rfl, ks3.pl, .inl (.inl l3), by rw [List.length_append]; show 1 ≤ _ + 1; omega, by rw [List.length_append, List.length_map]; show _ + 1 ≤ 1000; omega, fun y H4 hy b4 pl4 => ?_⟩
        obtain ⟨sy, rfl, hsy, wsy⟩ : ∃ sy, y = .str sy ∧ inS t.G sy ∧ sy.length ≤ 8 := by
          rcases List.mem_append.mp hy with hy | hy
          · obtain ⟨a, ha, rfl⟩ := strV hy
            exact ⟨a, rfl, .inl ha, word_len (gs.2.2 _ ha)⟩
          · exact ⟨"in", List.mem_singleton.mp hy, .inr rfl, by decide +kernel⟩
        have ks4 := ks3.but b4 pl4
        refine ⟨_, rfl, _, rfl, kd, _, rfl, DGet.k (k := (.inr "words" : Key)) ks4.kt.at', p, c, A.aw, _, rfl, pl4, .inl (.inl ks4.kt.words), by rw [List.length_map]; omega, by rw [List.length_map]; omega, fun z H5 hz b5 pl5 => ?_⟩
        obtain ⟨wd', hwd, rfl⟩ := strV hz
        have wwd := kv.gn.words _ hwd
        have lwd := word_len wwd
        have ks5 := ks4.but b5 pl5
        have fr15 : Fr [p, kd] H1 H5 := s13.fr.trans (b4.fr2.trans b5.fr2)
        have kp15 := ks1.kp fr15
        have fr5 := fr1.trans fr15
        have hD5 := kp15 _ _ hD1 rfl
        refine ⟨_, rfl, D, _, 0, .ref a0, rfl, rfl, .inl (.inl hD5), rfl, _, rfl, D, _, 1, .ref a1, rfl, rfl, .inl (.inl hD5), rfl, sz_lit (by show 5 ≤ 100000; decide), fun q hq => ?_⟩
        have qH := Fr.free fr5 hq (ks5.nin hq)
        have s6 := Same.new (o := .tup [.str "if", .str sy, .str wd', .ref a0, .ref a1]) hq
        have v6 := at_new (o := .tup [.str "if", .str sy, .str wd', .ref a0, .ref a1]) hq
        have ku := (cut_kpS (S := LstAt H) kp15).trans (cut_same (S := LstAt H) s6).kp
        refine kk _ (.tuple [.str "if", .str sy, .str wd', .list X, .list Y]) _ rm1 (fr5.trans s6.fr) (ks5.mono s6) r0 r1 (.tup (.inl (.inl (nL_cut qH v6))) (.cons (.str _) (.cons (.str _) (.cons (.str _) (.cons (.lst (.inl (.inl (ku _ _ w0 rfl))) (DpAll.kp ku e0)) (.cons (.lst (.inl (.inl (ku _ _ w1 rfl))) (DpAll.kp ku e1)) .nil)))))) (.cond hsy wwd gX gY) ?_ ?_
        · rw [cntR2 (by decide +kernel) rfl]
          omega
        · rw [wt_tuple, wts_cons, wts_cons, wts_cons, wts_cons, wts_cons, wts_nil, wt_list, wt_list, wt_str, wt_str, wt_str, show ("if" : Str).length = 2 by decide +kernel]
          omega
      refine ifF (decide_eq_false fun z => c11 (V.int.inj z)) ⟨_, rfl, rfl, _, rfl, ?_⟩
      by_cases c12 : pk = 12
      · have ef : flg lp pk = true := by rw [c12]; unfold flg; cases lp <;> rfl
        rw [ef] at gX gY
        refine ifT (decide_eq_true (congrArg V.int c12)) ⟨_, rfl, D, _, 0, .ref a0, rfl, rfl, .inl (.inl hD1), rfl, _, rfl, D, _, 1, .ref a1, rfl, rfl, .inl (.inl hD1), rfl, a0, a1, _, _, rfl, rfl, f0, f1, sz_lit (by omega), fun b2 hb2 => ⟨sz2 _ _, fun q hq => ?_⟩⟩
        have b2H := Fr.free fr1 hb2 (ks1.nin hb2)
        have s2 := Same.new (o := .lst (x0 ++ x1)) hb2
        have v2 := at_new (o := .lst (x0 ++ x1)) hb2
        revert s2 v2 hq
        generalize upd H1 b2 _ = H2
        intro hq s2 v2
        have ks2 := ks1.mono s2
        have qH := Fr.free (fr1.trans s2.fr) hq (ks2.nin hq)
        have s6 := Same.new (o := .tup [.str "loop", .ref b2]) hq
        have v6 := at_new (o := .tup [.str "loop", .ref b2]) hq
        have ku := cut_same (S := LstAt H) (s2.trans s6)
        refine kk _ (.tuple [.str "loop", .list (X ++ Y)]) _ rm1 (fr1.trans (s2.trans s6).fr) (ks2.mono s6) r0 r1 (.tup (.inl (.inl (nL_cut qH v6))) (.cons (.str _) (.cons (.lst (.inl (.inl (nL_cut b2H (s6 _ _ v2)))) ((DpAll.mono ku e0).append (DpAll.mono ku e1))) .nil))) (.loop (gX.app gY)) ?_ ?_
        · rw [cntR1 (by decide +kernel) rfl, cntL_app]
          omega
        · rw [wt_tuple, wts_cons, wts_cons, wts_nil, wt_list, wts_append, wt_str, show ("loop" : Str).length = 4 by decide +kernel]
          omega
      refine ifF (decide_eq_false fun z => c12 (V.int.inj z)) ⟨_, rfl, rfl, _, rfl, ?_⟩
      by_cases c13 : pk = 13
      · have ef : flg lp pk = false := by rw [c13]; unfold flg; cases lp <;> rfl
        rw [ef] at gX gY
        refine ifT (decide_eq_true (congrArg V.int c13)) ⟨_, rfl, p, c, 3, rfl, ks1.pl, by decide, fun r H2 y1 y2 b2 pl2 => ⟨rfl, _, rfl, ?_⟩⟩
        have ks2 := ks1.but b2 pl2
        have fr12 : Fr [p, kd] H1 H2 := b2.fr2
        have kp12 := ks1.kp fr12
        have fr2 := fr1.trans fr12
        have hD2 := kp12 _ _ hD1 rfl
        have ku2 := cut_kpS (S := fun b => LstAt H b ∨ b = D) kp12
        by_cases cr : r = 0
        · refine ifT (decide_eq_true (congrArg V.int cr)) ⟨_, rfl, .inl ⟨rfl, _, .inl (.inl hD2)⟩, _, rfl, _, rfl, _, rfl, _, _, rfl, rfl, ?_⟩
          refine ⟨p, c, kd, A, t, rm1, false, by show [V.ref p, V.ref kd, V.int (5 - ((m + 1 : Nat) : Int) + 1), V.bl false] = _; rw [hdep], ks2, kv, r0, by omega, hd5, hdn, fun l ys Z H3 rm3 fr3 ks3 z0 z1 hl2 hl3 dp3 g3 c3 w3 _ => ?_⟩
          have kp23 := ks2.kp fr3
          have lH := Fr.free fr2 hl2 (ks2.nin hl2)
          have nlD : l ≠ D := fun e => by rw [e, hD2] at hl2; cases hl2
          have hD3 := fr3 _ _ hD2 nDp
          have hnl : H3 l = cutH (fun b => LstAt H b ∨ b = D) H3 l := by
            rw [cut_not]
            rintro (⟨zs, e⟩ | e)
            · rw [lH] at e; cases e
            · exact nlD e
          have ku := ku2.trans (cut_kpS (S := fun b => LstAt H b ∨ b = D) kp23)
          have hLL : LL K (cutH (fun b => LstAt H b ∨ b = D) H3) [.ref a0, .ref a1, .ref l] [X, Y, Z] := ⟨⟨a0, x0, rfl, ku _ _ u0 rfl, DpAll.kp ku d0⟩, ⟨a1, x1, rfl, ku _ _ u1 rfl, DpAll.kp ku d1⟩, ⟨l, ys, rfl, hnl.symm.trans hl3, DpAll.mono (cut_sub (subS (ks.kp fr2) hD2)) dp3⟩, trivial⟩
          refine ⟨D, _, _, rfl, rfl, hD3, lt_sz (by show 2 < 100000; decide), ?_⟩
          have ks4 := ks3.lst (o := .lst ([.ref a0, .ref a1] ++ [.ref l])) kv ks hD hD3
          have fr4 := Fr.updN (o := .lst ([.ref a0, .ref a1] ++ [.ref l])) (fr2.trans fr3) hD
          have hD4 : upd H3 D (.lst ([.ref a0, .ref a1] ++ [.ref l])) D = some (.lst ([.ref a0, .ref a1] ++ [.ref l])) := upd_same
          rw [← cut_upd (S := fun b => LstAt H b ∨ b = D) (D := D) (o := .lst ([.ref a0, .ref a1] ++ [.ref l])) (.inr rfl)] at hLL
          revert ks4 fr4 hD4 hLL
          generalize upd H3 D (.lst ([.ref a0, .ref a1] ++ [.ref l])) = H4
          intro hLL ks4 fr4 hD4
          refine ⟨_, rfl, D, _, rfl, .inl ⟨.inl (.inl hD4), fun t1 ht1 => ⟨sz2 _ _, fun q hq => ?_⟩⟩⟩
          have t1H := Fr.free fr4 ht1 (ks4.nin ht1)
          have s5 := Same.new (o := .tup ([.ref a0, .ref a1] ++ [.ref l])) ht1
          have v5 := at_new (o := .tup ([.ref a0, .ref a1] ++ [.ref l])) ht1
          revert s5 v5 hq
          generalize upd H4 t1 _ = H5
          intro hq s5 v5
          have ks5 := ks4.mono s5
          have qH := Fr.free (fr4.trans s5.fr) hq (ks5.nin hq)
          have s6 := Same.new (o := .tup [.str "both", .ref t1]) hq
          have v6 := at_new (o := .tup [.str "both", .ref t1]) hq
          have hL6 := (hLL.kp (cut_same (s5.trans s6)).kp).kp (cut_sub (S := LstAt H) (S' := fun b => LstAt H b ∨ b = D) (fun b hb => .inl hb)).kp
          refine kk _ (.tuple [.str "both", .tuple ([X, Y, Z].map .list)]) _ rm3 (fr4.trans (s5.trans s6).fr) (ks5.mono s6) z0 (by omega) (.tup (.inl (.inl (nL_cut qH v6))) (.cons (.str _) (.cons (.tup (.inl (.inl (nL_cut t1H (s6 _ _ v5)))) hL6.dp) .nil))) (.both (by show 2 ≤ 3; decide) (by show 3 ≤ 3; decide) fun a ha => ?_) ?_ ?_
          · rcases List.mem_cons.mp ha with rfl | ha
            · exact gX
            · exact two_mem (P := fun a => GRows t.G (m + 1) false a) gY g3 a ha
          · rw [cntRL]
            show ((1 + (cntL (m + 1) X + (cntL (m + 1) Y + (cntL (m + 1) Z + 0))) : Nat) : Int) ≤ _
            omega
          · rw [wt_tuple, wts_cons, wts_cons, wts_nil, wt_tuple, wtsL, wt_str, show ("both" : Str).length = 4 by decide +kernel]
            show ((1 + (1 + 4 + (1 + (3 + (wts X + (wts Y + (wts Z + 0)))) + 0)) : Nat) : Int) ≤ _
            omega
        · refine ifF (decide_eq_false fun z => cr (V.int.inj z)) ?_
          refine ⟨_, rfl, D, _, rfl, .inl ⟨.inl (.inl hD2), fun t1 ht1 => ⟨sz2 _ _, fun q hq => ?_⟩⟩⟩
          have hLL : LL K (cutH (fun b => LstAt H b ∨ b = D) H2) [.ref a0, .ref a1] [X, Y] := ⟨⟨a0, x0, rfl, ku2 _ _ u0 rfl, DpAll.kp ku2 d0⟩, ⟨a1, x1, rfl, ku2 _ _ u1 rfl, DpAll.kp ku2 d1⟩, trivial⟩
          have t1H := Fr.free fr2 ht1 (ks2.nin ht1)
          have s5 := Same.new (o := .tup [.ref a0, .ref a1]) ht1
          have v5 := at_new (o := .tup [.ref a0, .ref a1]) ht1
          revert s5 v5 hq
          generalize upd H2 t1 _ = H5
          intro hq s5 v5
          have ks5 := ks2.mono s5
          have qH := Fr.free (fr2.trans s5.fr) hq (ks5.nin hq)
          have s6 := Same.new (o := .tup [.str "both", .ref t1]) hq
          have v6 := at_new (o := .tup [.str "both", .ref t1]) hq
          have hL6 := (hLL.kp (cut_same (s5.trans s6)).kp).kp (cut_sub (S := LstAt H) (S' := fun b => LstAt H b ∨ b = D) (fun b hb => .inl hb)).kp
          refine kk _ (.tuple [.str "both", .tuple ([X, Y].map .list)]) _ rm1 (fr2.trans (s5.trans s6).fr) (ks5.mono s6) r0 r1 (.tup (.inl (.inl (nL_cut qH v6))) (.cons (.str _) (.cons (.tup (.inl (.inl (nL_cut t1H (s6 _ _ v5)))) hL6.dp) .nil))) (.both (by show 2 ≤ 2; decide) (by show 2 ≤ 3; decide) (two_mem gX gY)) ?_ ?_
          · rw [cntRL]
            show ((1 + (cntL (m + 1) X + (cntL (m + 1) Y + 0)) : Nat) : Int) ≤ _
            omega
          · rw [wt_tuple, wts_cons, wts_cons, wts_nil, wt_tuple, wtsL, wt_str, show ("both" : Str).length = 4 by decide +kernel]
            show ((1 + (1 + 4 + (1 + (2 + (wts X + (wts Y + 0))) + 0)) : Nat) : Int) ≤ _
            omega
      have ef : flg lp pk = lp := by unfold flg; rw [decide_eq_false c12, decide_eq_false c13]; cases lp <;> rfl
      rw [ef] at gX gY
      refine ifF (decide_eq_false fun z => c13 (V.int.inj z)) ⟨_, rfl, kd, _, rfl, DGet.k (k := (.inr "gates" : Key)) ks1.kt.at', A.ag, _, rfl, .inl (.inl (.inl ks1.kt.gates)), rfl, _, rfl, ?_⟩
      rw [List.length_map, dec_intV]
      by_cases cg : t.G.ids.length = 0
      · refine ifT (decide_eq_true (by omega)) ⟨_, rfl, D, _, 0, .ref a0, rfl, rfl, .inl (.inl hD1), rfl, _, rfl, D, _, 1, .ref a1, rfl, rfl, .inl (.inl hD1), rfl, a0, a1, _, _, rfl, rfl, f0, f1, sz_lit (by omega), fun b2 hb2 => ⟨sz2 _ _, fun q hq => ?_⟩⟩
        have b2H := Fr.free fr1 hb2 (ks1.nin hb2)
        have s2 := Same.new (o := .lst (x0 ++ x1)) hb2
        have v2 := at_new (o := .lst (x0 ++ x1)) hb2
        revert s2 v2 hq
        generalize upd H1 b2 _ = H2
        intro hq s2 v2
        have ks2 := ks1.mono s2
        have qH := Fr.free (fr1.trans s2.fr) hq (ks2.nin hq)
        have s6 := Same.new (o := .tup [.str "part", .ref b2]) hq
        have v6 := at_new (o := .tup [.str "part", .ref b2]) hq
        have ku := cut_same (S := LstAt H) (s2.trans s6)
        refine kk _ (.tuple [.str "part", .list (X ++ Y)]) _ rm1 (fr1.trans (s2.trans s6).fr) (ks2.mono s6) r0 r1 (.tup (.inl (.inl (nL_cut qH v6))) (.cons (.str _) (.cons (.lst (.inl (.inl (nL_cut b2H (s6 _ _ v2)))) ((DpAll.mono ku e0).append (DpAll.mono ku e1))) .nil))) (.part (gX.app gY)) ?_ ?_
        · rw [cntR1 (by decide +kernel) rfl, cntL_app]
          omega
        · rw [wt_tuple, wts_cons, wts_cons, wts_nil, wt_list, wts_append, wt_str, show ("part" : Str).length = 4 by decide +kernel]
          omega
      have gi3 := gi.1
      refine ifF (decide_eq_false (by omega)) ⟨_, rfl, p, c, 3, rfl, ks1.pl, by decide, fun r H2 y1 y2 b2 pl2 => ⟨rfl, _, rfl, ?_⟩⟩
      have ks2 := ks1.but b2 pl2
      by_cases cr : r = 0
      · refine ifT (decide_eq_true (congrArg V.int cr)) ⟨_, rfl, _, rfl, kd, _, rfl, DGet.k (k := (.inr "gates" : Key)) ks2.kt.at', p, c, A.ag, _, rfl, pl2, .inl (.inl ks2.kt.gates), by rw [List.length_map]; omega, by rw [List.length_map]; omega, fun z H3 hz b3 pl3 => ?_⟩
        obtain ⟨gid, hgid, rfl⟩ := strV hz
        have lgid := word_len (gi.2.2 _ hgid)
        have ks3 := ks2.but b3 pl3
        have fr13 : Fr [p, kd] H1 H3 := b2.fr2.trans b3.fr2
        have kp13 := ks1.kp fr13
        have fr3 := fr1.trans fr13
        have hD3 := kp13 _ _ hD1 rfl
        refine ⟨_, rfl, D, _, 0, .ref a0, rfl, rfl, .inl (.inl hD3), rfl, _, rfl, D, _, 1, .ref a1, rfl, rfl, .inl (.inl hD3), rfl, a0, a1, _, _, rfl, rfl, kp13 _ _ f0 rfl, kp13 _ _ f1 rfl, sz_lit (by omega), fun b4 hb4 => ⟨sz_lit (by show 3 ≤ 100000; decide), fun q hq => ?_⟩⟩
        have b4H := Fr.free fr3 hb4 (ks3.nin hb4)
        have s4 := Same.new (o := .lst (x0 ++ x1)) hb4
        have v4 := at_new (o := .lst (x0 ++ x1)) hb4
        revert s4 v4 hq
        generalize upd H3 b4 _ = H4
        intro hq s4 v4
        have ks4 := ks3.mono s4
        have qH := Fr.free (fr3.trans s4.fr) hq (ks4.nin hq)
        have s6 := Same.new (o := .tup [.str "past", .str gid, .ref b4]) hq
        have v6 := at_new (o := .tup [.str "past", .str gid, .ref b4]) hq
        have ku := (cut_kpS (S := LstAt H) kp13).trans (cut_same (S := LstAt H) (s4.trans s6)).kp
        refine kk _ (.tuple [.str "past", .str gid, .list (X ++ Y)]) _ rm1 (fr3.trans (s4.trans s6).fr) (ks4.mono s6) r0 r1 (.tup (.inl (.inl (nL_cut qH v6))) (.cons (.str _) (.cons (.str _) (.cons (.lst (.inl (.inl (nL_cut b4H (s6 _ _ v4)))) ((DpAll.kp ku e0).append (DpAll.kp ku e1))) .nil)))) (.past hgid (gX.app gY)) ?_ ?_
        · rw [cntR1 (by decide +kernel) rfl, cntL_app]
          omega
        · rw [wt_tuple, wts_cons, wts_cons, wts_cons, wts_nil, wt_list, wts_append, wt_str, wt_str, show ("past" : Str).length = 4 by decide +kernel]
          omega
      refine ifF (decide_eq_false fun z => cr (V.int.inj z)) ⟨_, rfl, _, rfl, kd, _, rfl, DGet.k (k := (.inr "gates" : Key)) ks2.kt.at', p, c, A.ag, _, rfl, pl2, .inl (.inl ks2.kt.gates), by rw [List.length_map]; omega, by rw [List.length_map]; omega, fun z H3 hz b3 pl3 => ?_⟩
      obtain ⟨gid, hgid, rfl⟩ := strV hz
      have lgid := word_len (gi.2.2 _ hgid)
      have ks3 := ks2.but b3 pl3
      have fr13 : Fr [p, kd] H1 H3 := b2.fr2.trans b3.fr2
      have kp13 := ks1.kp fr13
      have fr3 := fr1.trans fr13
      have hD3 := kp13 _ _ hD1 rfl
      refine ⟨_, rfl, D, _, 0, .ref a0, rfl, rfl, .inl (.inl hD3), rfl, _, rfl, D, _, 1, .ref a1, rfl, rfl, .inl (.inl hD3), rfl, sz_lit (by show 4 ≤ 100000; decide), fun q hq => ?_⟩
      have qH := Fr.free fr3 hq (ks3.nin hq)
      have s6 := Same.new (o := .tup [.str "gate", .str gid, .ref a0, .ref a1]) hq
      have v6 := at_new (o := .tup [.str "gate", .str gid, .ref a0, .ref a1]) hq
      have ku := (cut_kpS (S := LstAt H) kp13).trans (cut_same (S := LstAt H) s6).kp
      refine kk _ (.tuple [.str "gate", .str gid, .list X, .list Y]) _ rm1 (fr3.trans s6.fr) (ks3.mono s6) r0 r1 (.tup (.inl (.inl (nL_cut qH v6))) (.cons (.str _) (.cons (.str _) (.cons (.lst (.inl (.inl (ku _ _ w0 rfl))) (DpAll.kp ku e0)) (.cons (.lst (.inl (.inl (ku _ _ w1 rfl))) (DpAll.kp ku e1)) .nil))))) (.gate hgid gX gY) ?_ ?_
      · rw [cntR2 (by decide +kernel) rfl]
        omega
      · rw [wt_tuple, wts_cons, wts_cons, wts_cons, wts_cons, wts_nil, wt_list, wt_list, wt_str, wt_str, show ("gate" : Str).length = 4 by decide +kernel]
        omega
end
end Op
set_option pp.maxSteps 1500
namespace Op
open PySem L2 PyProof.Rows
theorem noL_s (z : Str) : noL (.str z) = true := by unfold noL; rfl
theorem noL_t {xs : List PyData} (h : noLs xs = true) : noL (.tuple xs) = true := by unfold noL; exact h
theorem noLs_c {x : PyData} {xs : List PyData} (h1 : noL x = true) (h : noLs xs = true) : noLs (x :: xs) = true := by unfold noLs; rw [h1, h]; rfl
theorem noLs_n : noLs [] = true := by unfold noLs; rfl
theorem noLs_strs (zs : List Str) : noLs (zs.map PyData.str) = true := noLs_mem.mpr fun d hd => by
  obtain ⟨z, _, rfl⟩ := List.mem_map.mp hd
  exact noL_s z
theorem flat_noL {G : Gn} {rec : Bool → List PyData → Prop} {lp : Bool} {d : PyData} (h : GRow G rec lp d) (hi : innerOf d = []) : noL d = true := by
  cases h with
  | ask _ _ => exact noL_t (noLs_c (noL_s _) (noLs_c (noL_s _) (noLs_c (noL_s _) noLs_n)))
  | timer _ => exact noL_t (noLs_c (noL_s _) (noLs_c (noL_s _) noLs_n))
  | await _ _ => exact noL_t (noLs_c (noL_s _) (noLs_c (noL_s _) (noLs_c (noL_s _) noLs_n)))
  | first _ _ _ _ _ => exact noL_t (noLs_c (noL_s _) (noLs_c (noL_t (noLs_strs _)) (noLs_c (noL_s _) noLs_n)))
  | drop _ => exact noL_t (noLs_c (noL_s _) (noLs_c (noL_s _) noLs_n))
  | take _ _ => exact noL_t (noLs_c (noL_s _) (noLs_c (noL_s _) (noLs_c (noL_s _) noLs_n)))
  | note _ _ => exact noL_t (noLs_c (noL_s _) (noLs_c (noL_s _) (noLs_c (noL_t (noLs_strs _)) noLs_n)))
  | put _ _ => exact noL_t (noLs_c (noL_s _) (noLs_c (noL_s _) (noLs_c (noL_s _) noLs_n)))
  | fin _ => exact noL_t (noLs_c (noL_s _) (noLs_c (noL_s _) noLs_n))
  | anew _ => exact noL_t (noLs_c (noL_s _) (noLs_c (noL_s _) noLs_n))
  | leave _ => exact noL_t (noLs_c (noL_s _) noLs_n)
  | cond _ _ _ _ => exact absurd hi (by show innerL "if" _ ≠ []; unfold innerL; rw [if_neg (by decide +kernel)]; exact List.cons_ne_nil _ _)
  | loop _ => exact absurd hi (by show innerL "loop" _ ≠ []; unfold innerL; rw [if_neg (by decide +kernel)]; exact List.cons_ne_nil _ _)
  | part _ => exact absurd hi (by show innerL "part" _ ≠ []; unfold innerL; rw [if_neg (by decide +kernel)]; exact List.cons_ne_nil _ _)
  | @both ls h1 h2 h3 =>
    have hi : innerL "both" [.tuple (ls.map PyData.list)] = [] := hi
    unfold innerL at hi
    rw [if_pos rfl] at hi
    cases ls with
    | nil => exact absurd h1 (by decide)
    | cons a r => exact absurd hi (List.cons_ne_nil _ _)
  | gate _ _ _ => exact absurd hi (by show innerL "gate" _ ≠ []; unfold innerL; rw [if_neg (by decide +kernel)]; exact List.cons_ne_nil _ _)
  | past _ _ => exact absurd hi (by show innerL "past" _ ≠ []; unfold innerL; rw [if_neg (by decide +kernel)]; exact List.cons_ne_nil _ _)
theorem cut_new {S : Addr → Prop} {H : Hp} {l : Addr} {o : HO} (h : H l = none) : Same (cutH S H) (cutH (fun b => S b ∨ b = l) (upd H l o)) := fun b u hb => by
  have h1 := cut_has hb
  have h2 := cut_at hb
  have nb : b ≠ l := fun e => by rw [e, h] at h2; cases h2
  rw [cut_not (fun z => z.elim h1 nb), L2.upd_ne nb]
  exact h2
theorem GRows.snoc {G : Gn} {n : Nat} {lp : Bool} {ds : List PyData} {d : PyData} (h : GRows G (n + 1) lp ds) (hd : GRow G (GRows G n) lp d) : GRows G (n + 1) lp (ds ++ [d]) := h.app (one_row hd)
theorem bit (k : Bool) : (if k = true then (1 : Int) else 0) = ((k.toNat : Nat) : Int) := by cases k <;> rfl
theorem cntR0 {rec : List PyData → Nat} {d : PyData} (h : innerOf d = []) : cntR rec d = 1 := by unfold cntR; rw [h]; rfl
section
variable {P : Program} {w : World} {K : PySem.W.Frag} {mg : Str → Option Value} {base : Heap}
theorem sc__law_list : FnScope ["_law_bag_here", "_law_kit_here", "_law_depth", "_law_inside", "_law_rows", "_law_k", "_law_pick", "_law_label"] ["_law_bag_here", "_law_kit_here", "_law_depth", "_law_inside"] (defScope s__law_list) := ⟨rfl, rfl, rfl, by decide +kernel, rfl, by decide +kernel, by decide +kernel⟩
theorem ok_list {f : Addr} {fd : FuncData} {k n : Nat} (F : Fun K "_law_list" "_law_list" s__law_list f fd) (T : Txt mg) (hk : 4 ≤ k) (c__law_draw : Cal P w K mg base CX0 1 "_law_draw" ["_law_bag_here", "_law_many"] spD) (c__law_one : Cal P w K mg base CX0 2 "_law_one" ["_law_bag_here", "_law_items"] (spOne K)) (c__law_start_row : Cal P w K mg base CX0 3 "_law_start_row" ["_law_bag_here", "_law_kit_here", "_law_label"] (spStart K)) (c__law_plain_row : Cal P w K mg base CX0 4 "_law_plain_row" ["_law_bag_here", "_law_kit_here", "_law_pick", "_law_inside"] (spPlain K)) (c__law_great_row : Cal P w K mg base CX0 k "_law_great_row" ["_law_bag_here", "_law_kit_here", "_law_pick", "_law_depth", "_law_inside"] (spGreat K n)) : FnOk P w K mg base CX0 (k + 1) f fd ["_law_bag_here", "_law_kit_here", "_law_depth", "_law_inside"] (spList K (n + 1)) := by
  refine F.ok sc__law_list (fun vs H Q E h => ?_) (fun cdv A0 outer s H vs Q E hr h => ?_)
  · obtain ⟨p, c, kd, A, t, rm, lp, rfl, _⟩ := h
    rfl
  · obtain ⟨p, c, kd, A, t, rm, lp, rfl, ks, kv, hr0, hr1, hd5, hdn, kk⟩ := h
    have hu := hu_of hr
    have gl := kv.gn.labels
    have gs := kv.gn.slots
    have e1 := kv.l1
    have e2 := kv.s1
    have e5 := gl.1
    have e6 := gs.1
    have hdep : 6 - ((n + 1 : Nat) : Int) = 5 - (n : Int) := by omega
    refine ⟨_, (pss_cons (ps_set (i := 4) sc__law_list.nd rfl (.inl rfl) (pe_lst pa_nil))
      (pss_cons (ps_for PassesOwn.never rfl (pi_range1 (by rfl) T.b_range (pa_cons (pe_op op_add (pe_cal c__law_draw (hr.mono (by omega)) rfl pass0 (pa_cons (pv 0) (pa_cons pe_int pa_nil))) (pe_op op_mul pe_int (pe_callTy call_int1 (by rfl) T.b_int (by decide +kernel) (pa_cons (pe_cmpR op_eq (pv 2) pe_int (nomark _)) pa_nil)))) pa_nil)) (pg_name (i := 5) sc__law_list.nd rfl (.inl rfl)) (pss_cons (ps_set (i := 6) sc__law_list.nd rfl (.inl rfl) (pe_cal c__law_draw (hr.mono (by omega)) rfl pass0 (pa_cons (pv 0) (pa_cons pe_int pa_nil))))
      (pss_one (ps_if (PW.pt (pw_and (pt_cmpR op_ge (pe_dget hu (pv 1) pe_str (fun _ _ => rfl)) pe_int (nomark _)) (pw_and1 (pt_cmpR op_lt (pv 6) pe_int (nomark _))))) (pss_cons (ps_dput hu (pv 1) pe_str (pe_op op_sub (pe_dget hu (pv 1) pe_str (fun _ _ => rfl)) pe_int) rfl)
      (pss_cons (ps_set (i := 7) sc__law_list.nd rfl (.inl rfl) (pe_cal c__law_one (hr.mono (by omega)) rfl pass0 (pa_cons (pv 0) (pa_cons (pe_dget hu (pv 1) pe_str (fun _ _ => rfl)) pa_nil))))
      (pss_one (ps_set (i := 4) sc__law_list.nd rfl (.inl rfl) (pe_op op_cat (pv 4) (pe_lst (pa_cons (pe_cal c__law_start_row (hr.mono (by omega)) rfl pass0 (pa_cons (pv 0) (pa_cons (pv 1) (pa_cons (pv 7) pa_nil)))) (pa_cons (pe_tup (pa_cons pe_str (pa_cons (pv 7) (pa_cons (pe_cal c__law_one (hr.mono (by omega)) rfl pass0 (pa_cons (pv 0) (pa_cons (pe_dget hu (pv 1) pe_str (fun _ _ => rfl)) pa_nil))) pa_nil)))) pa_nil)))))))) (pss_one (ps_if (pt_cmpR op_ge (pe_dget hu (pv 1) pe_str (fun _ _ => rfl)) pe_int (nomark _)) (pss_cons (ps_dput hu (pv 1) pe_str (pe_op op_sub (pe_dget hu (pv 1) pe_str (fun _ _ => rfl)) pe_int) rfl)
      (pss_one (ps_if (PW.pt (pw_and (pt_chain op_le op_le pe_int (pv 6) pe_int) (pw_and1 (pt_cmpR op_lt (pv 2) (pe_dget hu (pv 1) pe_str (fun _ _ => rfl)) (nomark _))))) (pss_one (ps_expr (pe_bm PySem.F.plainAttrs_list PySem.F.slot_list_append PySem.F.type_list_append mt_append (pv 4) (pa_cons (pe_cal c__law_great_row (hr.mono (by omega)) rfl pass0 (pa_cons (pv 0) (pa_cons (pv 1) (pa_cons (pv 6) (pa_cons (pv 2) (pa_cons (pv 3) pa_nil)))))) pa_nil)))) (pss_one (ps_expr (pe_bm PySem.F.plainAttrs_list PySem.F.slot_list_append PySem.F.type_list_append mt_append (pv 4) (pa_cons (pe_cal c__law_plain_row (hr.mono (by omega)) rfl pass0 (pa_cons (pv 0) (pa_cons (pv 1) (pa_cons (pv 6) (pa_cons (pv 3) pa_nil))))) pa_nil))))))) pss_nil))))))
      (pss_one (ps_ret (pv 4))))), ?_⟩
    refine ⟨sz_lit (by decide), fun l hl => ?_⟩
    have s1 := Same.new (o := .lst []) hl
    have v1 := at_new (o := .lst []) hl
    revert s1 v1
    generalize upd H l _ = H1
    intro s1 v1
    have ks1 := ks.mono s1
    refine ⟨_, rfl, p, c, 3, rfl, ks1.pl, by decide, fun r H2 r1 r2 b2 pl2 => ?_⟩
    have ks2 := ks1.but b2 pl2
    refine ⟨_, rfl, rfl, .inr ⟨_, rfl, ?_⟩⟩
    obtain ⟨k0, hk0⟩ : ∃ k0 : Bool, k0 = decide (V.int (6 - ((n + 1 : Nat) : Int)) = V.int 1) := ⟨_, rfl⟩
    have hkn : k0.toNat ≤ 1 := Bool.toNat_le k0
    obtain ⟨nn, hnn⟩ : ∃ nn : Nat, r + 2 * ((k0.toNat : Nat) : Int) = nn := ⟨(r + 2 * ((k0.toNat : Nat) : Int)).toNat, (Int.toNat_of_nonneg (by omega)).symm⟩
    refine ⟨2, ((k0.toNat : Nat) : Int), rfl, congrArg V.int (by rw [hk0]; exact bit _), .inl ⟨by decide, by decide⟩, _, _, rfl, rfl, (nn : Int), congrArg (fun z => [V.int z]) hnn, by omega, by omega, ?_⟩
    rw [Int.toNat_natCast]
    refine for_it (walk_range (lo := 0) (n := nn)) (fun i σ H' => ∃ (y5 y6 y7 : Option V) (l : Addr) (xs : List V) (ds : List PyData) (rm' : Int), σ = [some (.ref p), some (.ref kd), some (.int (6 - ((n + 1 : Nat) : Int))), some (.bl lp), some (.ref l), y5, y6, y7] ∧ H l = none ∧ H' l = some (.lst xs) ∧ DpAll K (cutH (fun b => LstAt H b ∨ b = l) H') xs ds ∧ KS K H' p c kd A t rm' ∧ Fr [p, kd] H H' ∧ 0 ≤ rm' ∧ rm' ≤ rm ∧ GRows t.G (n + 1) lp ds ∧ (cntL (n + 1) ds : Int) ≤ rm - rm' ∧ (wts ds : Int) ≤ 100 * (rm - rm') ∧ ds.length ≤ 2 * i) ⟨_, _, _, l, [], [], rm, rfl, hl, b2 _ _ v1 (ks.pl.new hl).1, .nil, ks2, s1.fr.trans b2.fr2, hr0, Int.le_refl _, (fun d hd => (List.not_mem_nil hd).elim), by show ((0 : Nat) : Int) ≤ _; omega, by rw [wts_nil]; show ((0 : Nat) : Int) ≤ _; omega, Nat.zero_le _⟩ (fun _ _ _ _ _ => trivial) ?_ ?_
    · clear hl v1 s1
      rintro i x σ H4 H3 hi ⟨y5, y6, y7, l, xs, ds, rm3, rfl, hl, hl3, dp3, ks3, fr3, z0, z1, g3, c3, w3, len3⟩ ⟨rfl, rfl⟩
      have hxl := dp3.len
      have hwl := wts_len ds
      have kpH3 := ks.kp fr3
      have nlp : l ∉ [p, kd] := ks.nin hl
      refine ⟨_, rfl, p, c, 16, rfl, ks3.pl, by decide, fun pk H4 q1 q2 b4 pl4 => ?_⟩
      have ks4 := ks3.but b4 pl4
      have fr4 := fr3.trans b4.fr2
      have kp4 : Kp H3 H4 := ks3.pl.kp b4
      have dp4 := DpAll.kp (cut_kpS (S := fun b => LstAt H b ∨ b = l) kp4) dp3
      have hl4 := kp4 _ _ hl3 rfl
      clear dp3 hl3
      refine ⟨_, rfl, kd, _, rfl, DGet.k (k := (.inr "room" : Key)) ks4.kt.at', _, _, rfl, rfl, _, rfl, ?_⟩
      by_cases c1 : 2 ≤ rm3 ∧ pk < 4
      · refine ifT (decide_eq_true c1.1) ⟨_, rfl, _, _, rfl, rfl, _, rfl, ifT (decide_eq_true c1.2) ?_⟩
        refine ⟨_, rfl, kd, _, rfl, DGet.k (k := (.inr "room" : Key)) ks4.kt.at', _, _, rfl, rfl, _, rfl, kd, _, rfl, DPut.k (k := (.inr "room" : Key)) ks4.kt.at' (lt_sz (by show 9 < 100000; decide)), ?_⟩
        rw [kt_r]
        have ks5 := ks4.room (rm3 - 2)
        have fr5 : Fr [p, kd] H (upd H4 kd (.dK (kt4 A (rm3 - 2) t.deep))) := fr4.upd (by simp)
        have kp5 : Kp H4 (upd H4 kd (.dK (kt4 A (rm3 - 2) t.deep))) := kp_upd ks4.kt.at' rfl
        revert ks5 fr5 kp5
        generalize upd H4 kd _ = H5
        intro ks5 fr5 kp5
        refine ⟨_, rfl, _, rfl, kd, _, rfl, DGet.k (k := (.inr "labels" : Key)) ks5.kt.at', p, c, A.al, _, rfl, ks5.pl, .inl (.inl ks5.kt.labels), by rw [List.length_map]; omega, by rw [List.length_map]; omega, fun z H6 hz b6 pl6 => ?_⟩
        obtain ⟨lab, hlab, rfl⟩ := strV hz
        have ks6 := ks5.but b6 pl6
        have wlab := word_len (gl.2.2 _ hlab)
        refine ⟨_, rfl, _, rfl, _, rfl, _, rfl, p, c, kd, A, t, rm3 - 2, lab, rfl, ks6, kv, hlab, fun v d H7 b7 pl7 dv dw df => ?_⟩
        have ks7 := ks6.but b7 pl7
        refine ⟨_, rfl, _, rfl, _, rfl, kd, _, rfl, DGet.k (k := (.inr "slots" : Key)) ks7.kt.at', p, c, A.as, _, rfl, pl7, .inl (.inl ks7.kt.slots), by rw [List.length_map]; omega, by rw [List.length_map]; omega, fun z H8 hz b8 pl8 => ?_⟩
        obtain ⟨sl, hsl, rfl⟩ := strV hz
        have ks8 := ks7.but b8 pl8
        have wsl := word_len (gs.2.2 _ hsl)
        refine ⟨sz_lit (by show 3 ≤ 100000; decide), fun t1 ht1 => ⟨sz2 _ _, fun e he => ?_⟩⟩
        have m1 := Same.new (o := .tup [.str "await", .str lab, .str sl]) ht1
        have m2 := Same.new (o := .lst [v, .ref t1]) he
        have n1 := m2 _ _ (at_new (o := .tup [.str "await", .str lab, .str sl]) ht1)
        have n2 := at_new (o := .lst [v, .ref t1]) he
        have s9 := m1.trans m2
        clear m1 m2
        revert s9 n1 n2
        generalize upd (upd H8 t1 _) e _ = H9
        intro n1 n2 s9
        have ks9 := ks8.mono s9
        have kp79 : Kp H7 H9 := (ks7.pl.kp b8).trans s9.kp
        have kp49 : Kp H4 H9 := ((kp5.trans (ks5.pl.kp b6)).trans (ks6.pl.kp b7)).trans kp79
        have fr9 : Fr [p, kd] H H9 := fr5.trans (b6.fr2.trans (b7.fr2.trans (b8.fr2.trans s9.fr)))
        refine ⟨l, e, _, _, rfl, rfl, kp49 _ _ hl4 rfl, n2, sz_lit (by show xs.length + 2 ≤ 100000; omega), fun l' hl' => ?_⟩
        have l'H := Fr.free fr9 hl' (ks9.nin hl')
        have hS : ∀ b, LstAt H b → LstAt H9 b := fun b ⟨ys, hb⟩ => ⟨ys, ks.kp fr9 _ _ hb rfl⟩
        have hd1 := noL_cut hS (Dp.kp kp79 dv) (flat_noL (df.1 (fun _ _ => True) true) df.2)
        have hd2 : Dp K (cutH (LstAt H) H9) (.ref t1) (.tuple [.str "await", .str lab, .str sl]) := noL_cut hS (.tup (.inl (.inl n1)) (.cons (.str _) (.cons (.str _) (.cons (.str _) .nil)))) (noL_t (noLs_c (noL_s _) (noLs_c (noL_s _) (noLs_c (noL_s _) noLs_n))))
        have dpA : DpAll K (cutH (LstAt H) H9) xs ds := DpAll.mono (cut_sub fun b hb => .inl hb) (DpAll.kp (cut_kpS kp49) dp4)
        have fl2 : GFlat t.G (.tuple [.str "await", .str lab, .str sl]) := ⟨fun _ _ => .await hlab hsl, flat_in (by decide +kernel) (flat2 rfl rfl)⟩
        have hfl : ∀ d' ∈ [d, .tuple [.str "await", .str lab, .str sl]], GFlat t.G d' := two_mem df fl2
        have hw2 := wt3 (k := "await") (by decide +kernel) wlab wsl
        refine ⟨_, _, _, l', xs ++ [v, .ref t1], ds ++ [d, .tuple [.str "await", .str lab, .str sl]], rm3 - 2, rfl, l'H, upd_same, DpAll.mono (cut_new hl') (dpA.append (.cons hd1 (.cons hd2 .nil))), ks9.mono (Same.new hl'), fr9.trans (Same.new hl').fr, by omega, by omega, g3.app (GFlat.rows hfl), ?_, ?_, by rw [List.length_append]; show ds.length + 2 ≤ _; omega⟩
        · rw [cntL_app, GFlat.cnt hfl]
          show ((cntL (n + 1) ds + 2 : Nat) : Int) ≤ _
          omega
        · rw [wts_append, wts_cons, wts_cons, wts_nil]
          omega
      have h1 : ∀ (Z : Bool → Hp → Prop), Z false H4 → (if decide ((2 : Int) ≤ rm3) = true then tTest (tOp (rI0 fun i j => V.bl (decide (i < j))) (tVar 6) (tC (V.int 4))) [some (.ref p), some (.ref kd), some (.int (6 - ((n + 1 : Nat) : Int))), some (.bl lp), some (.ref l), some (.int (0 + (i : Int))), some (.int pk), y7] H4 Z else Z false H4) := fun Z hZ => by
        by_cases e : 2 ≤ rm3
        · refine ifT (decide_eq_true e) ⟨_, rfl, _, _, rfl, rfl, _, rfl, ?_⟩
          rw [decide_eq_false (fun z => c1 ⟨e, z⟩)]
          exact hZ
        · exact ifF (decide_eq_false e) hZ
      refine h1 _ (ifF rfl ?_)
      refine ⟨_, rfl, kd, _, rfl, DGet.k (k := (.inr "room" : Key)) ks4.kt.at', _, _, rfl, rfl, _, rfl, ?_⟩
      by_cases c2 : 1 ≤ rm3
      · refine ifT (decide_eq_true c2) ?_
        refine ⟨_, rfl, kd, _, rfl, DGet.k (k := (.inr "room" : Key)) ks4.kt.at', _, _, rfl, rfl, _, rfl, kd, _, rfl, DPut.k (k := (.inr "room" : Key)) ks4.kt.at' (lt_sz (by show 9 < 100000; decide)), ?_⟩
        rw [kt_r]
        have ks5 := ks4.room (rm3 - 1)
        have fr5 : Fr [p, kd] H (upd H4 kd (.dK (kt4 A (rm3 - 1) t.deep))) := fr4.upd (by simp)
        have kp5 : Kp H4 (upd H4 kd (.dK (kt4 A (rm3 - 1) t.deep))) := kp_upd ks4.kt.at' rfl
        revert ks5 fr5 kp5
        generalize upd H4 kd _ = H5
        intro ks5 fr5 kp5
        have dp5 := DpAll.kp (cut_kpS (S := fun b => LstAt H b ∨ b = l) kp5) dp4
        have hl5 := kp5 _ _ hl4 rfl
        have subS : ∀ b, LstAt H b ∨ b = l → LstAt H5 b := fun b hb => by
          rcases hb with ⟨ys, hb⟩ | rfl
          · exact ⟨ys, ks.kp fr5 _ _ hb rfl⟩
          · exact ⟨_, hl5⟩
        by_cases c3' : (11 ≤ pk ∧ pk ≤ 14) ∧ 5 - (n : Int) < t.deep
        · refine ⟨_, rfl, _, _, rfl, rfl, _, rfl, ifT (decide_eq_true c3'.1.1) ⟨_, _, rfl, rfl, _, rfl, ifT (decide_eq_true c3'.1.2) ⟨_, rfl, _, rfl, kd, _, rfl, DGet.k (k := (.inr "deepest" : Key)) ks5.kt.at', _, _, rfl, rfl, _, rfl, ifT (decide_eq_true (by rw [hdep]; exact c3'.2)) ?_⟩⟩⟩
          refine ⟨_, rfl, .inl ⟨rfl, _, .inl (.inl hl5)⟩, _, rfl, _, rfl, _, rfl, _, rfl, _, rfl, p, c, kd, A, t, rm3 - 1, pk, lp, by show [V.ref p, V.ref kd, V.int pk, V.int (6 - ((n + 1 : Nat) : Int)), V.bl lp] = _; rw [hdep], c3'.1.1, c3'.1.2, ks5, kv, by omega, by omega, hd5, by omega, fun v d H6 rm6 fr6 ks6 x0 x1 dv gd cd wd' => ?_⟩
          have kp6 := ks5.kp fr6
          have hl6 := fr6 _ _ hl5 nlp
          refine ⟨l, _, _, rfl, rfl, hl6, lt_sz (by omega), _, _, _, l, xs ++ [v], ds ++ [d], rm6, rfl, hl, upd_same, ?_, ks6.lst kv ks hl hl6, Fr.updN (fr5.trans fr6) hl, x0, by omega, g3.snoc gd, ?_, ?_, by rw [List.length_append]; show ds.length + 1 ≤ _; omega⟩
          · rw [cut_upd (.inr rfl)]
            exact (DpAll.kp (cut_kpS kp6) dp5).append (.cons (dv.mono (cut_sub subS)) .nil)
          · rw [cntL_app, cnt_one]
            omega
          · rw [wts_append, wts_cons, wts_nil]
            omega
        have h3 : ∀ (Z : Bool → Hp → Prop), Z false H5 → tAnd (tTest (tChain (rI0 fun i j => V.bl (decide (i ≤ j))) (rI0 fun i j => V.bl (decide (i ≤ j))) (tC (V.int 11)) (tVar 6) (tC (V.int 14)))) (tTest (tOp (rI0 fun i j => V.bl (decide (i < j))) (tVar 2) (tDGet (tVar 1) (tC (V.str "deepest"))))) [some (.ref p), some (.ref kd), some (.int (6 - ((n + 1 : Nat) : Int))), some (.bl lp), some (.ref l), some (.int (0 + (i : Int))), some (.int pk), y7] H5 Z := fun Z hZ => by
          refine ⟨_, rfl, _, _, rfl, rfl, _, rfl, ?_⟩
          by_cases e1 : 11 ≤ pk
          · refine ifT (decide_eq_true e1) ⟨_, _, rfl, rfl, _, rfl, ?_⟩
            by_cases e2 : pk ≤ 14
            · refine ifT (decide_eq_true e2) ⟨_, rfl, _, rfl, kd, _, rfl, DGet.k (k := (.inr "deepest" : Key)) ks5.kt.at', _, _, rfl, rfl, _, rfl, ?_⟩
              rw [decide_eq_false (fun z => c3' ⟨⟨e1, e2⟩, by rw [hdep] at z; exact z⟩)]
              exact hZ
            · exact ifF (decide_eq_false e2) hZ
          · refine ifF (decide_eq_false e1) ⟨_, rfl, ifF rfl hZ⟩
        refine h3 _ (ifF rfl ?_)
        refine ⟨_, rfl, .inl ⟨rfl, _, .inl (.inl hl5)⟩, _, rfl, _, rfl, _, rfl, _, rfl, p, c, kd, A, t, rm3 - 1, pk, lp, rfl, ks5, kv, fun v d H6 b6 pl6 dv dw gd hi' => ?_⟩
        have ks6 := ks5.but b6 pl6
        have kp6 := ks5.pl.kp b6
        have fr6 : Fr [p, kd] H H6 := fr5.trans b6.fr2
        have hl6 := kp6 _ _ hl5 rfl
        have dn := flat_noL (gd (fun _ _ => True)) hi'
        have subS6 : ∀ b, LstAt H b ∨ b = l → LstAt H6 b := fun b hb => let ⟨ys, h⟩ := subS b hb; ⟨ys, kp6 _ _ h rfl⟩
        refine ⟨l, _, _, rfl, rfl, hl6, lt_sz (by omega), _, _, _, l, xs ++ [v], ds ++ [d], rm3 - 1, rfl, hl, upd_same, ?_, ks6.lst kv ks hl hl6, Fr.updN fr6 hl, by omega, by omega, g3.snoc (gd _), ?_, ?_, by rw [List.length_append]; show ds.length + 1 ≤ _; omega⟩
        · rw [cut_upd (.inr rfl)]
          exact (DpAll.kp (cut_kpS kp6) dp5).append (.cons (noL_cut subS6 dv dn) .nil)
        · rw [cntL_app, cnt_one, cntR0 hi']
          omega
        · rw [wts_append, wts_cons, wts_nil]
          omega
      · exact ifF (decide_eq_false c2) ⟨_, _, _, l, xs, ds, rm3, rfl, hl, hl4, dp4, ks4, fr4, z0, z1, g3, c3, w3, by omega⟩
    · rintro σ H3 ⟨y5, y6, y7, l, xs, ds, rm3, rfl, hl, hl3, dp3, ks3, fr3, z0, z1, g3, c3, w3, len3⟩
      exact ⟨_, rfl, kk l xs ds H3 rm3 fr3 ks3 z0 z1 hl hl3 (DpAll.mono (cut_sub fun b hb => .inl hb) dp3) g3 c3 w3 (by omega)⟩
theorem ok_gen {f1 f2 : Addr} {fd1 fd2 : FuncData} (F1 : Fun K "_law_list" "_law_list" s__law_list f1 fd1) (F2 : Fun K "_law_great_row" "_law_great_row" s__law_great_row f2 fd2) (T : Txt mg) (g1 : mg "_law_list" = some (.ref f1)) (g2 : mg "_law_great_row" = some (.ref f2)) (k1 : PySem.W.keepIn K (.ref f1) = true) (k2 : PySem.W.keepIn K (.ref f2) = true)
    (b1 : Binds K fd1 ["_law_bag_here", "_law_kit_here", "_law_depth", "_law_inside"] []) (b2 : Binds K fd2 ["_law_bag_here", "_law_kit_here", "_law_pick", "_law_depth", "_law_inside"] []) (c__law_draw : Cal P w K mg base CX0 1 "_law_draw" ["_law_bag_here", "_law_many"] spD) (c__law_one : Cal P w K mg base CX0 2 "_law_one" ["_law_bag_here", "_law_items"] (spOne K)) (c__law_start_row : Cal P w K mg base CX0 3 "_law_start_row" ["_law_bag_here", "_law_kit_here", "_law_label"] (spStart K)) (c__law_plain_row : Cal P w K mg base CX0 4 "_law_plain_row" ["_law_bag_here", "_law_kit_here", "_law_pick", "_law_inside"] (spPlain K)) : ∀ n : Nat, Cal P w K mg base CX0 (2 * n + 4) "_law_list" ["_law_bag_here", "_law_kit_here", "_law_depth", "_law_inside"] (spList K n)
  | 0 => ⟨f1, fd1, g1, k1, b1, F1.ok sc__law_list (fun vs H Q E h => by obtain ⟨p, c, kd, A, t, rm, lp, rfl, _⟩ := h; rfl) (fun cdv A outer s H vs Q E hr h => by
      obtain ⟨p, c, kd, A, t, rm, lp, _, _, _, _, _, h1, h2, _⟩ := h
      exact absurd h2 (by show ¬ (6 - ((0 : Nat) : Int)) ≤ t.deep; omega))⟩
  | n + 1 => ⟨f1, fd1, g1, k1, b1, ok_list (k := 2 * n + 5) F1 T (by omega) c__law_draw c__law_one c__law_start_row c__law_plain_row ⟨f2, fd2, g2, k2, b2, ok_great (k := 2 * n + 4) F2 T (by omega) c__law_draw c__law_one (ok_gen F1 F2 T g1 g2 k1 k2 b1 b2 c__law_draw c__law_one c__law_start_row c__law_plain_row n)⟩⟩
end
end Op
set_option pp.maxSteps 1500
namespace L2
open PySem PySem.Spec PyProof.Rows
/-- a class by its name, made with keywords -/
def KcalN (P : Program) (w : World) (K : PySem.W.Frag) (mg : Str → Option Value) (base : Heap) (CX : CXT) (k : Nat) (x : Str) (C : Addr) (ps : List Str) (n : Nat) (ks : List Str) (sp : Sp) : Prop :=
  ∃ (f : Addr) (fd : FuncData) (g : List Value → List Value → List Value), Mk K C f ∧ mg x = some (.ref C) ∧ KBn K fd ps (n + 1) ks g (fun vs zs => vs ++ zs) ∧ FnOk P w K mg base CX k f fd ps sp
theorem pe_kcalN {X : Cx} {CX : CXT} {k n : Nat} {x : Str} {C : Addr} {ps ks : List Str} {sp : Sp} {E : XK} {p pos : Pos} {e : Expr} {es : List Expr} {kws : List Keyword} {t tk : TA} (c : KcalN X.prog X.w X.K X.mg X.base CX k x C ps n ks sp) (hr : Room (k + 1) X.A) (hg : Gl X x) (hx : Passes CX X E) (ha : PA X (e :: es) t) (hkw : PK X kws tk)
    (hall : (backToKw pos (keywordEach kws X.env)).all (·.1.isSome) = true := by rfl) (hks : (backToKw pos (keywordEach kws X.env)).filterMap (·.1) = ks := by rfl) (hdb : (x == ("__debug__" : Str)) = false := by decide)
    (he : starEach (e :: es) X.env = (false, eval e X.env) :: starEach es X.env := by rfl) (hpl : ((backTo pos (starEach (e :: es) X.env)).any (·.1) || (backToKw pos (keywordEach kws X.env)).any (·.1.isNone)) = false := by rfl) :
    PE X (.Call (.Name x p) (e :: es) kws pos) (tMakeK C n ks.length sp (fun vs zs => vs ++ zs) E t tk) := by
  obtain ⟨f, fd, g, h1, h2, h3, h4⟩ := c
  exact pe_makeK h1 h4 hr hg h2 h3 hx ha hkw hall hks hdb he hpl
/-- a call that lets nothing out -/
theorem passF {X : Cx} {P : Program} {w : World} : Passes (L2.CX P w) X (fun _ _ _ => False) := fun _ _ _ _ _ _ _ h => by
  obtain ⟨a, B, H', cls, d, _, _, _, _, _, _, _, h⟩ := h
  exact h.elim
end L2
namespace Op
open PySem L2 PyProof.Rows
/-! ### the plan -/
def kt5 (A : KtA) (rm dp : Int) (l : Addr) : List (Key × V) := [(.inr "asks", .ref A.pa), (.inr "signals", .ref A.ps), (.inr "room", .int rm), (.inr "deepest", .int dp), (.inr "gates", .ref A.ag), (.inr "inputs", .ref A.iv), (.inr "labels", .ref A.al), (.inr "slots", .ref A.as), (.inr "words", .ref A.aw), (.inr "rows", .ref l)]
theorem kt_5 (A : KtA) (rm dp : Int) (l : Addr) : putK (kt4 A rm dp) (.inr "rows") (.ref l) = kt5 A rm dp l := by first | rfl | kernel_rfl
structure PlO (K : PySem.W.Frag) (H : Hp) (kd : Addr) (A : KtA) (t : Kt) (rm : Int) (l : Addr) (xs : List V) (ds : List PyData) : Prop where
  at' : H kd = some (.dK (kt5 A rm t.deep l))
  asks : ∃ ws, H A.pa = some (.dK ws) ∧ KvsR K H ws t.ka
  sigs : ∃ ws, H A.ps = some (.dK ws) ∧ KvsR K H ws t.ks
  ins : H A.iv = some (.tup (t.ins.map V.str))
  rows : H l = some (.lst xs)
  dp : DpAll K H xs ds
theorem PlO.but {K : PySem.W.Frag} {H H' : Hp} {p c kd : Addr} {A : KtA} {t : Kt} {rm : Int} {l : Addr} {xs : List V} {ds : List PyData} (h : PlO K H kd A t rm l xs ds) (b : But p H H') (pl : Pl H p c) (n1 : kd ≠ p) (n2 : A.pa ≠ p) (n3 : A.ps ≠ p) : PlO K H' kd A t rm l xs ds := by
  have k := pl.kp b
  obtain ⟨ws, a1, a2⟩ := h.asks
  obtain ⟨wz, b1, b2⟩ := h.sigs
  exact ⟨b _ _ h.at' n1, ⟨ws, b _ _ a1 n2, a2.mono k⟩, ⟨wz, b _ _ b1 n3, b2.mono k⟩, k _ _ h.ins rfl, k _ _ h.rows rfl, DpAll.kp k h.dp⟩
theorem PlO.mono {K : PySem.W.Frag} {H H' : Hp} {kd : Addr} {A : KtA} {t : Kt} {rm : Int} {l : Addr} {xs : List V} {ds : List PyData} (h : PlO K H kd A t rm l xs ds) (s : Same H H') : PlO K H' kd A t rm l xs ds := by
  obtain ⟨ws, a1, a2⟩ := h.asks
  obtain ⟨wz, b1, b2⟩ := h.sigs
  exact ⟨s _ _ h.at', ⟨ws, s _ _ a1, a2.mono s.kp⟩, ⟨wz, s _ _ b1, b2.mono s.kp⟩, s _ _ h.ins, s _ _ h.rows, DpAll.mono s h.dp⟩
def spPlan (K : PySem.W.Frag) : Sp := fun vs H Q _ => ∃ (p c : Addr) (rm dp : Int) (gt : Bool), vs = [.ref p, .int rm, .int dp, .bl gt] ∧ Pl H p c ∧ 0 ≤ rm ∧ rm ≤ 60 ∧ 1 ≤ dp ∧ dp ≤ 5 ∧
  ∀ (kd : Addr) (A : KtA) (t : Kt) (rm' : Int) (l : Addr) (xs : List V) (ds : List PyData) (H' : Hp), H kd = none → H A.pa = none → H A.ps = none → A.pa ≠ kd → A.ps ≠ kd → But p H H' → Pl H' p c → PlO K H' kd A t rm' l xs ds → KtV t → GRows t.G 5 false ds → (cntL 5 ds : Int) ≤ rm → (wts ds : Int) ≤ 100 * rm → ds.length ≤ 8 → Q (.ref kd) H'
theorem KvsR.nine {K : PySem.W.Frag} {H : Hp} {ws : List (Key × V)} {ka : List (Str × PyData)} {a kd : Addr} {A : KtA} {rm dp : Int} (h : KvsR K H ws ka) (hl : ka.length ≤ 3) (ha : H a = some (.dK ws)) (hk : H kd = some (.dK (kt4 A rm dp))) : a ≠ kd := fun e => by
  rw [e, hk] at ha
  have h1 : kt4 A rm dp = ws := HO.dK.inj (Option.some.inj ha)
  have h2 := h.len
  rw [← h1] at h2
  have h2 : 9 = ka.length := h2
  omega
section
variable {P : Program} {w : World} {K : PySem.W.Frag} {mg : Str → Option Value} {base : Heap}
theorem sc__law_plan : FnScope ["_law_bag_here", "_law_room", "_law_deepest", "_law_gated", "_law_kit_here"] ["_law_bag_here", "_law_room", "_law_deepest", "_law_gated"] (defScope s__law_plan) := ⟨rfl, rfl, rfl, by decide +kernel, rfl, by decide +kernel, by decide +kernel⟩
theorem ok_plan {f : Addr} {fd : FuncData} (F : Fun K "_law_plan" "_law_plan" s__law_plan f fd) (T : Txt mg) (c__law_kit : Cal P w K mg base CX0 3 "_law_kit" ["_law_bag_here", "_law_room", "_law_deepest", "_law_gated"] (spKit K)) (c__law_list : Cal P w K mg base CX0 14 "_law_list" ["_law_bag_here", "_law_kit_here", "_law_depth", "_law_inside"] (spList K 5)) : FnOk P w K mg base CX0 15 f fd ["_law_bag_here", "_law_room", "_law_deepest", "_law_gated"] (spPlan K) := by
  refine F.ok sc__law_plan (fun vs H Q E h => ?_) (fun cdv A0 outer s H vs Q E hr h => ?_)
  · obtain ⟨p, c, rm, dp, gt, rfl, _⟩ := h
    rfl
  · obtain ⟨p, c, rm, dp, gt, rfl, hp, r0, r1, d1, d2, k⟩ := h
    have hu := hu_of hr
    refine ⟨_, (pss_cons (ps_set (i := 4) sc__law_plan.nd rfl (.inl rfl) (pe_cal c__law_kit (hr.mono (by omega)) rfl pass0 (pa_cons (pv 0) (pa_cons (pv 1) (pa_cons (pv 2) (pa_cons (pv 3) pa_nil))))))
      (pss_cons (ps_dput hu (pv 4) pe_str (pe_cal c__law_list (hr.mono (by omega)) rfl pass0 (pa_cons (pv 0) (pa_cons (pv 4) (pa_cons pe_int (pa_cons pe_bl pa_nil))))) rfl)
      (pss_one (ps_ret (pv 4))))), ?_⟩
    refine ⟨_, rfl, _, rfl, _, rfl, _, rfl, p, c, rm, dp, gt, rfl, hp, fun kd A t H1 hkd hpa hps b1 pl1 kt1 kv hdp => ?_⟩
    obtain ⟨ws, a1, a2⟩ := kt1.asks
    obtain ⟨wz, b1', b2⟩ := kt1.sigs
    have ha3 : t.ka.length ≤ 3 := by rw [← List.length_map (f := fun x : Str × PyData => x.1), kv.ak]; exact kv.gn.asks.1
    have hb3 : t.ks.length ≤ 3 := by rw [← List.length_map (f := fun x : Str × PyData => x.1), kv.bk]; exact kv.gn.boxes.1
    have ks1 : KS K H1 p c kd A t rm := ⟨pl1, kt1, (hp.new hkd).1, (hp.new hpa).1, (hp.new hps).1, a2.nine ha3 a1 kt1.at', b2.nine hb3 b1' kt1.at'⟩
    refine ⟨_, rfl, _, rfl, p, c, kd, A, t, rm, false, rfl, ks1, kv, r0, r1, by omega, by omega, fun l xs ds H2 rm2 fr2 ks2 z0 z1 hl1 hl2 dp2 g2 c2 w2 n2 => ?_⟩
    obtain ⟨ws, a1, a2⟩ := ks2.kt.asks
    obtain ⟨wz, b1', b2⟩ := ks2.kt.sigs
    refine ⟨_, rfl, kd, _, rfl, DPut.k (k := (.inr "rows" : Key)) ks2.kt.at' (lt_sz (by show 9 < 100000; decide)), ?_⟩
    rw [kt_5]
    have k3 : Kp H2 (upd H2 kd (.dK (kt5 A rm2 t.deep l))) := kp_upd ks2.kt.at' rfl
    have b3 : But p H (upd H2 kd (.dK (kt5 A rm2 t.deep l))) := But.updN (fun b o hb n => fr2 _ _ (b1 b o hb n) fun m => by
      rcases List.mem_cons.mp m with e | m
      · exact n e
      · rw [List.mem_singleton.mp m, hkd] at hb; cases hb) hkd
    refine ⟨_, rfl, k kd A t rm2 l xs ds _ hkd hpa hps ks2.ak ks2.sk b3 (ks2.pl.put ks2.kp' ks2.kc) ⟨upd_same, ⟨ws, (L2.upd_ne ks2.ak).trans a1, a2.mono k3⟩, ⟨wz, (L2.upd_ne ks2.sk).trans b1', b2.mono k3⟩, k3 _ _ ks2.kt.ins rfl, k3 _ _ hl2 rfl, DpAll.kp k3 (DpAll.mono cut_all dp2)⟩ kv g2 (by omega) (by omega) n2⟩
/-! ### copies -/
def dpt : Nat → PyData → Prop
  | 0, _ => False
  | n + 1, d => (∃ z, d = .str z) ∨ (∃ xs, d = .tuple xs ∧ ∀ x ∈ xs, dpt n x) ∨ ∃ xs, d = .list xs ∧ ∀ x ∈ xs, dpt n x
theorem dpt_s (n : Nat) (z : Str) : dpt (n + 1) (.str z) := .inl ⟨z, rfl⟩
theorem dpt_up : ∀ {n : Nat} {d : PyData}, dpt n d → dpt (n + 1) d
  | 0, d, h => h.elim
  | n + 1, d, .inl h => .inl h
  | n + 1, d, .inr (.inl ⟨xs, h, k⟩) => .inr (.inl ⟨xs, h, fun x hx => dpt_up (k x hx)⟩)
  | n + 1, d, .inr (.inr ⟨xs, h, k⟩) => .inr (.inr ⟨xs, h, fun x hx => dpt_up (k x hx)⟩)
theorem dpt_strs (n : Nat) (zs : List Str) : dpt (n + 2) (.tuple (zs.map PyData.str)) := .inr (.inl ⟨_, rfl, fun x hx => by
  obtain ⟨z, _, rfl⟩ := List.mem_map.mp hx
  exact dpt_s n z⟩)
theorem dpt_tup {n : Nat} {xs : List PyData} (h : ∀ x ∈ xs, dpt n x) : dpt (n + 1) (.tuple xs) := .inr (.inl ⟨_, rfl, h⟩)
theorem dpt_lst {n : Nat} {xs : List PyData} (h : ∀ x ∈ xs, dpt n x) : dpt (n + 1) (.list xs) := .inr (.inr ⟨_, rfl, h⟩)
theorem all2 {α : Type} {P : α → Prop} {a b : α} (h1 : P a) (h2 : P b) : ∀ x ∈ [a, b], P x := two_mem h1 h2
theorem allc {α : Type} {P : α → Prop} {a : α} {r : List α} (h1 : P a) (h2 : ∀ x ∈ r, P x) : ∀ x ∈ a :: r, P x := fun x hx => by
  rcases List.mem_cons.mp hx with rfl | hx
  · exact h1
  · exact h2 x hx
theorem all0 {α : Type} {P : α → Prop} : ∀ x ∈ ([] : List α), P x := fun x hx => (List.not_mem_nil hx).elim
theorem row_dpt {G : Gn} {rec : Bool → List PyData → Prop} {lp : Bool} {d : PyData} {n : Nat} (hr : ∀ lp ds, rec lp ds → ∀ d ∈ ds, dpt n d) (h : GRow G rec lp d) : dpt (n + 3) d := by
  have l1 : ∀ {lp a}, rec lp a → dpt (n + 2) (.list a) := fun h => dpt_up (dpt_lst (hr _ _ h))
  cases h with
  | ask _ _ => exact dpt_tup (allc (dpt_s _ _) (allc (dpt_s _ _) (allc (dpt_s _ _) all0)))
  | timer _ => exact dpt_tup (allc (dpt_s _ _) (allc (dpt_s _ _) all0))
  | await _ _ => exact dpt_tup (allc (dpt_s _ _) (allc (dpt_s _ _) (allc (dpt_s _ _) all0)))
  | first _ _ _ _ _ => exact dpt_tup (allc (dpt_s _ _) (allc (dpt_strs _ _) (allc (dpt_s _ _) all0)))
  | drop _ => exact dpt_tup (allc (dpt_s _ _) (allc (dpt_s _ _) all0))
  | take _ _ => exact dpt_tup (allc (dpt_s _ _) (allc (dpt_s _ _) (allc (dpt_s _ _) all0)))
  | note _ _ => exact dpt_tup (allc (dpt_s _ _) (allc (dpt_s _ _) (allc (dpt_strs _ _) all0)))
  | put _ _ => exact dpt_tup (allc (dpt_s _ _) (allc (dpt_s _ _) (allc (dpt_s _ _) all0)))
  | fin _ => exact dpt_tup (allc (dpt_s _ _) (allc (dpt_s _ _) all0))
  | anew _ => exact dpt_tup (allc (dpt_s _ _) (allc (dpt_s _ _) all0))
  | leave _ => exact dpt_tup (allc (dpt_s _ _) all0)
  | cond _ _ h1 h2 => exact dpt_tup (allc (dpt_s _ _) (allc (dpt_s _ _) (allc (dpt_s _ _) (allc (l1 h1) (allc (l1 h2) all0)))))
  | loop h1 => exact dpt_tup (allc (dpt_s _ _) (allc (l1 h1) all0))
  | part h1 => exact dpt_tup (allc (dpt_s _ _) (allc (l1 h1) all0))
  | both _ _ h3 => exact dpt_tup (allc (dpt_s _ _) (allc (dpt_tup fun x hx => by
      obtain ⟨a, ha, rfl⟩ := List.mem_map.mp hx
      exact dpt_lst (hr _ _ (h3 a ha))) all0))
  | gate _ h1 h2 => exact dpt_tup (allc (dpt_s _ _) (allc (dpt_s _ _) (allc (l1 h1) (allc (l1 h2) all0))))
  | past _ h1 => exact dpt_tup (allc (dpt_s _ _) (allc (dpt_s _ _) (allc (l1 h1) all0)))
theorem rows_dpt {G : Gn} : ∀ {n : Nat} {lp : Bool} {ds : List PyData}, GRows G n lp ds → ∀ d ∈ ds, dpt (3 * n) d
  | 0, _, _, h => h.elim
  | n + 1, lp, ds, h => fun d hd => row_dpt (fun lp ds h => rows_dpt h) (h d hd)
def spCopyP (K : PySem.W.Frag) (n : Nat) : Sp := fun vs H Q _ => ∃ (v : V) (d : PyData), vs = [v] ∧ Dp K H v d ∧ dpt n d ∧ wt d ≤ 30000 ∧ ∀ v' H', Same H H' → Dp K (cutH (LstAt H) H') v' d → Q v' H'
def spCopyR (K : PySem.W.Frag) (n : Nat) : Sp := fun vs H Q _ => ∃ (v : V) (ds : List PyData), vs = [v] ∧ Dp K H v (.list ds) ∧ (∀ d ∈ ds, dpt n d) ∧ wts ds ≤ 30000 ∧ ∀ p xs H', Same H H' → H p = none → H' p = some (.lst xs) → DpAll K (cutH (fun b => LstAt H b ∨ b = p) H') xs ds → Q (.ref p) H'
theorem sc__law_copy_rows : FnScope ["_law_rows", "_law_row"] ["_law_rows"] (defScope s__law_copy_rows) := ⟨rfl, rfl, rfl, by decide +kernel, rfl, by decide +kernel, by decide +kernel⟩
theorem ok_lcopy_rows {f : Addr} {fd : FuncData} {k n : Nat} (F : Fun K "_law_copy_rows" "_law_copy_rows" s__law_copy_rows f fd) (T : Txt mg) (c__law_copy_part : Cal P w K mg base CX0 k "_law_copy_part" ["_law_part"] (spCopyP K n)) : FnOk P w K mg base CX0 (k + 1) f fd ["_law_rows"] (spCopyR K n) := by
  refine F.ok sc__law_copy_rows (fun vs H Q E h => ?_) (fun cdv A outer s H vs Q E hr h => ?_)
  · obtain ⟨v, ds, rfl, _⟩ := h
    rfl
  · obtain ⟨v, ds, rfl, hd, hok, hwt, kk⟩ := h
    cases hd with
    | @lst r xs _ hq ha =>
    have hxl := ha.len
    have hwl := wts_len ds
    refine ⟨_, (pss_one (ps_ret (pe_lc (own := [("_law_row", 1)]) (g := gName 1) (tt := tYes) rfl sc__law_copy_rows.nd (pi_list (pv 0)) (blkOk_by (own := [("_law_row", 1)]) (N := ["_law_rows", "_law_row"]) (sc := defScope s__law_copy_rows) (by decide +kernel)) (fun _ _ _ _ _ => (pg_name (i := 1) sc__law_copy_rows.nd rfl (.inl rfl))) (fun _ _ _ _ _ => pts_nil) (fun _ _ _ _ _ => (pe_cal c__law_copy_part (hr.mono (by omega)) rfl pass0 (pa_cons (pv 1) pa_nil)))))), ?_⟩
    refine ⟨_, rfl, r, rfl, ⟨_, hq⟩, fun D hD => ?_⟩
    refine lc_it (walk_list (xs := xs)) (fun i H' => ∃ acc, H' D = some (.lst acc) ∧ acc.length ≤ i ∧ DpAll K (cutH (fun b => LstAt H b ∨ b = D) H') acc (ds.take i) ∧ Same H H') ⟨[], upd_same, Nat.le_refl _, .nil, Same.new hD⟩ (fun i H' _ p => hq.mono (let ⟨_, _, _, _, s⟩ := p; s)) ?_ ?_
    · rintro i x H0' H1 hi ⟨acc, hacc, hal, hdp, sm⟩ ⟨rfl, hx⟩
      obtain ⟨d, hd1, hd2⟩ := ha.get hx
      have hm := List.mem_of_getElem? hd1
      have hwd := wts_mem hm
      refine ⟨rfl, ?_⟩
      refine ⟨_, rfl, x, d, rfl, hd2.mono sm, hok d hm, by omega, fun v' H2 s2 hv' => ?_⟩
      have sub : ∀ b, LstAt H b ∨ b = D → LstAt H1 b := fun b hb => by
        rcases hb with hb | rfl
        · exact hb.mono sm
        · exact ⟨acc, hacc⟩
      refine ⟨acc, s2 _ _ hacc, lt_sz (by omega), acc ++ [v'], upd_same, by rw [List.length_append]; show acc.length + 1 ≤ _; omega, ?_, fun b o hb => ?_⟩
      · rw [cut_upd (.inr rfl), TS.take_one hd1]
        exact (DpAll.mono (cut_same s2) hdp).append (.cons (hv'.mono (cut_sub sub)) .nil)
      · rw [upd_ne (ne_of_none hb hD)]
        exact s2 b o (sm b o hb)
    · rintro H1 ⟨acc, hacc, _, hdp, sm⟩
      rw [List.take_of_length_le (by omega)] at hdp
      exact kk D acc H1 sm hD hacc hdp
theorem sc__law_copy_part : FnScope ["_law_part", "_law_each"] ["_law_part"] (defScope s__law_copy_part) := ⟨rfl, rfl, rfl, by decide +kernel, rfl, by decide +kernel, by decide +kernel⟩
theorem ok_lcopy_part {f : Addr} {fd : FuncData} {k n : Nat} (F : Fun K "_law_copy_part" "_law_copy_part" s__law_copy_part f fd) (T : Txt mg) (c__law_copy_part : Cal P w K mg base CX0 k "_law_copy_part" ["_law_part"] (spCopyP K n)) (c__law_copy_rows : Cal P w K mg base CX0 (k + 1) "_law_copy_rows" ["_law_rows"] (spCopyR K n)) : FnOk P w K mg base CX0 (k + 2) f fd ["_law_part"] (spCopyP K (n + 1)) := by
  refine F.ok sc__law_copy_part (fun vs H Q E h => ?_) (fun cdv A outer s H vs Q E hr h => ?_)
  · obtain ⟨v, d, rfl, _⟩ := h
    rfl
  · obtain ⟨v, d, rfl, hd, hok, hwt, kk⟩ := h
    refine ⟨_, (pss_cons (ps_if (pt_val (pe_callB call_isi (by rfl) T.b_isinstance (by decide +kernel) (pa_cons (pv 0) (pa_cons (pe_bltn (v := .ty "list") (by rfl) T.b_list (by decide +kernel) rfl) pa_nil)))) (pss_one (ps_ret (pe_cal c__law_copy_rows (hr.mono (by omega)) rfl pass0 (pa_cons (pv 0) pa_nil)))) pss_nil)
      (pss_cons (ps_if (pt_val (pe_callB call_isi (by rfl) T.b_isinstance (by decide +kernel) (pa_cons (pv 0) (pa_cons (pe_bltn (v := .ty "tuple") (by rfl) T.b_tuple (by decide +kernel) rfl) pa_nil)))) (pss_one (ps_ret (pe_callTy call_tuple_of (by rfl) T.b_tuple (by decide +kernel) (pa_cons (pe_lc (own := [("_law_each", 1)]) (g := gName 1) (tt := tYes) rfl sc__law_copy_part.nd (pi_tup (pv 0)) (blkOk_by (own := [("_law_each", 1)]) (N := ["_law_part", "_law_each"]) (sc := defScope s__law_copy_part) (by decide +kernel)) (fun _ _ _ _ _ => (pg_name (i := 1) sc__law_copy_part.nd rfl (.inl rfl))) (fun _ _ _ _ _ => pts_nil) (fun _ _ _ _ _ => (pe_cal c__law_copy_part (hr.mono (by omega)) rfl pass0 (pa_cons (pv 1) pa_nil)))) pa_nil)))) pss_nil)
      (pss_one (ps_ret (pv 0))))), ?_⟩
    rcases hok with ⟨z, rfl⟩ | ⟨ds, rfl, hds⟩ | ⟨ds, rfl, hds⟩
    · refine ⟨_, rfl, _, _, _, _, _, rfl, .ty _, ty_dp hd, kit_list _, _, rfl, ifF rfl ⟨_, rfl, _, _, _, _, _, rfl, .ty _, ty_dp hd, kit_tuple _, _, rfl, ifF rfl ⟨_, rfl, kk v H (Same.refl _) ?_⟩⟩⟩
      cases hd with
      | str _ => exact .str _
    · refine ⟨_, rfl, _, _, _, _, _, rfl, .ty _, ty_dp hd, kit_list _, _, rfl, ifF rfl ⟨_, rfl, _, _, _, _, _, rfl, .ty _, ty_dp hd, kit_tuple _, _, rfl, ifT rfl ?_⟩⟩
      cases hd with
      | @tup r xs _ hq ha =>
      have hxl := ha.len
      have hwl := wts_len ds
      rw [wt_tuple] at hwt
      refine ⟨_, rfl, r, rfl, ⟨_, hq⟩, fun D hD => ?_⟩
      refine lc_it (walk_tup (xs := xs)) (fun i H' => ∃ acc, H' D = some (.lst acc) ∧ acc.length ≤ i ∧ DpAll K (cutH (fun b => LstAt H b ∨ b = D) H') acc (ds.take i) ∧ Same H H') ⟨[], upd_same, Nat.le_refl _, .nil, Same.new hD⟩ (fun i H' _ p => hq.mono (let ⟨_, _, _, _, s⟩ := p; s)) ?_ ?_
      · rintro i x H0' H1 hi ⟨acc, hacc, hal, hdp, sm⟩ ⟨rfl, hx⟩
        obtain ⟨d, hd1, hd2⟩ := ha.get hx
        have hm := List.mem_of_getElem? hd1
        have hwd := wts_mem hm
        refine ⟨rfl, ?_⟩
        refine ⟨_, rfl, x, d, rfl, hd2.mono sm, hds d hm, by omega, fun v' H2 s2 hv' => ?_⟩
        have sub : ∀ b, LstAt H b ∨ b = D → LstAt H1 b := fun b hb => by
          rcases hb with hb | rfl
          · exact hb.mono sm
          · exact ⟨acc, hacc⟩
        refine ⟨acc, s2 _ _ hacc, lt_sz (by omega), acc ++ [v'], upd_same, by rw [List.length_append]; show acc.length + 1 ≤ _; omega, ?_, fun b o hb => ?_⟩
        · rw [cut_upd (.inr rfl), TS.take_one hd1]
          exact (DpAll.mono (cut_same s2) hdp).append (.cons (hv'.mono (cut_sub sub)) .nil)
        · rw [upd_ne (ne_of_none hb hD)]
          exact s2 b o (sm b o hb)
      · rintro H1 ⟨acc, hacc, _, hdp, sm⟩
        rw [List.take_of_length_le (by omega)] at hdp
        refine ⟨D, acc, rfl, .inl ⟨.inl (.inl hacc), fun t ht => ?_⟩⟩
        have s2 := Same.new (o := .tup acc) ht
        have tH : H t = none := by
          cases q : H t with
          | none => rfl
          | some o => rw [sm _ _ q] at ht; cases ht
        exact kk _ _ (sm.trans s2) (.tup (.inl (.inl (nL_cut tH upd_same))) (DpAll.mono (cut_same s2) (DpAll.mono (cut_sub fun b hb => .inl hb) hdp)))
    · refine ⟨_, rfl, _, _, _, _, _, rfl, .ty _, ty_dp hd, kit_list _, _, rfl, ifT rfl ⟨_, rfl, v, ds, rfl, hd, hds, by rw [wt_list] at hwt; omega, fun p xs H' s' hp hp' dp => kk _ H' s' (.lst (.inl (.inl (nL_cut hp hp'))) (DpAll.mono (cut_sub fun b hb => .inl hb) dp))⟩⟩
theorem ok_lcopies {f1 f2 : Addr} {fd1 fd2 : FuncData} (F1 : Fun K "_law_copy_part" "_law_copy_part" s__law_copy_part f1 fd1) (F2 : Fun K "_law_copy_rows" "_law_copy_rows" s__law_copy_rows f2 fd2) (T : Txt mg) (g1 : mg "_law_copy_part" = some (.ref f1)) (g2 : mg "_law_copy_rows" = some (.ref f2)) (k1 : PySem.W.keepIn K (.ref f1) = true) (k2 : PySem.W.keepIn K (.ref f2) = true) (b1 : Binds K fd1 ["_law_part"] []) (b2 : Binds K fd2 ["_law_rows"] []) : ∀ n : Nat, Cal P w K mg base CX0 (2 * n + 1) "_law_copy_part" ["_law_part"] (spCopyP K n)
  | 0 => ⟨f1, fd1, g1, k1, b1, F1.ok sc__law_copy_part (fun vs H Q E h => by obtain ⟨v, d, rfl, _⟩ := h; rfl) (fun cdv A outer s H vs Q E hr h => by
      obtain ⟨v, d, _, _, h, _⟩ := h
      exact h.elim)⟩
  | n + 1 => ⟨f1, fd1, g1, k1, b1, ok_lcopy_part (k := 2 * n + 1) F1 T (ok_lcopies F1 F2 T g1 g2 k1 k2 b1 b2 n) ⟨f2, fd2, g2, k2, b2, ok_lcopy_rows (k := 2 * n + 1) F2 T (ok_lcopies F1 F2 T g1 g2 k1 k2 b1 b2 n)⟩⟩
end
end Op
set_option pp.maxSteps 1500
namespace Op
open PySem L2 PyProof.Rows
/-! ### what the plan is good for -/
structure PlV (t : Kt) (ds : List PyData) : Prop where
  kv : KtV t
  gr : GRows t.G 5 false ds
  ct : cntL 5 ds ≤ 60
  wt : wts ds ≤ 6000
section
variable {t : Kt} {ds : List PyData}
theorem PlV.al (h : PlV t ds) : t.ka.length ≤ 3 := by rw [← List.length_map (f := fun x : Str × PyData => x.1), h.kv.ak]; exact h.kv.gn.asks.1
theorem PlV.bl (h : PlV t ds) : t.ks.length ≤ 3 := by rw [← List.length_map (f := fun x : Str × PyData => x.1), h.kv.bk]; exact h.kv.gn.boxes.1
theorem PlV.a1 (h : PlV t ds) : ∀ q ∈ t.ka, isWordS q.1 = true ∧ areWords 4 q.2 = true := fun q hq => ⟨h.kv.gn.asks.2.2 _ (by rw [← h.kv.ak]; exact List.mem_map.mpr ⟨q, hq, rfl⟩), (h.kv.av q hq).1⟩
theorem PlV.b1 (h : PlV t ds) : ∀ q ∈ t.ks, isWordS q.1 = true ∧ isBox q.2 = true := fun q hq => ⟨h.kv.gn.boxes.2.2 _ (by rw [← h.kv.bk]; exact List.mem_map.mpr ⟨q, hq, rfl⟩), (h.kv.bv q hq).1⟩
theorem PlV.tabA (h : PlV t ds) : okTab (areWords 4) 6 (.dict t.ka) = some t.ka := tab_good (by have := h.al; omega) h.a1
theorem PlV.tabB (h : PlV t ds) : okTab isBox 3 (.dict t.ks) = some t.ks := tab_good h.bl h.b1
theorem inS_len {zs ys : List Str} (h : InS zs ys) : ys.length ≤ zs.length := nodup_sub h.1 h.2
theorem inS_nil {zs : List Str} : InS zs [] := ⟨List.nodup_nil, fun x hx => (List.not_mem_nil hx).elim⟩
theorem PlV.ins (h : PlV t ds) : areWords 3 (.tuple (t.ins.map .str)) = true := words_ok h.kv.il.1 (by have := h.kv.il.2; omega) h.kv.ind h.kv.iw
theorem PlV.chk (h : PlV t ds) : ∃ c, checkAll ⟨t.ka.map (·.1), t.ks.map (·.1), false⟩ (.list ds) = .ok c ∧ chkL ⟨t.ka.map (·.1), t.ks.map (·.1), false⟩ 5 false ds [] chk0 = .ok c := by
  obtain ⟨c, hc, mv⟩ := gen_chk h.kv.gn (E := ⟨t.ka.map (·.1), t.ks.map (·.1), false⟩) ⟨fun x hx => by rw [h.kv.ak]; exact hx, fun x hx => by rw [h.kv.bk]; exact hx, rfl⟩ 5 (Nat.le_refl _) false ds h.gr [] chk0 rfl
  refine ⟨c, ?_, hc⟩
  have hs : sizes c = none := by
    have h1 := inS_len (mv.lab inS_nil)
    have h2 := inS_len (mv.slo inS_nil)
    have h3 := inS_len (mv.gat inS_nil)
    have h4 : c.edits = [] := mv.edi
    have h5 : c.total = 0 + cntL 5 ds := mv.tot
    have h6 := h.ct
    have g1 := h.kv.gn.labels.1
    have g2 := h.kv.gn.slots.1
    have g3 := h.kv.gn.ids.1
    unfold sizes
    rw [if_neg (by omega), if_neg (by omega), if_neg (by omega), if_neg (by rw [h4]; show ¬ 8 < _ + 0; omega), if_neg (by rw [h4]; decide)]
  unfold checkAll
  dsimp only
  rw [hc]
  dsimp only
  rw [hs]
theorem PlV.prog (h : PlV t ds) {part : Str} {path : List Int} : ¬ progCheck false (.dict t.ka) (.dict t.ks) (.tuple (t.ins.map .str)) (.list ds) = .error (part, path) := by
  intro e
  obtain ⟨c, hc, _⟩ := h.chk
  unfold progCheck at e
  rw [h.tabA] at e
  dsimp only at e
  rw [h.tabB] at e
  dsimp only at e
  rw [if_pos h.ins, hc] at e
  cases e
theorem PlV.rowsOk (h : PlV t ds) : rowsOk 5 ds := by
  obtain ⟨c, _, hc⟩ := h.chk
  exact rowsOk_of _ 5 _ _ _ _ _ hc (by decide)
theorem smalls_strs : ∀ {zs : List Str}, (∀ z ∈ zs, isWordS z = true) → smalls (zs.map .str) = true
  | [], _ => rfl
  | z :: r, h => by
    have h2 : z.length ≤ 8 := word_len (h z List.mem_cons_self)
    show (decide (z.length ≤ 100000) && smalls (r.map .str)) = true
    rw [decide_eq_true (by omega), smalls_strs (zs := r) fun z hz => h z (List.mem_cons_of_mem _ hz)]
    rfl
theorem PlV.small (h : PlV t ds) : small (.tuple (t.ins.map .str)) = true := by
  have := h.kv.il.2
  show (decide ((t.ins.map PyData.str).length ≤ 100000) && smalls (t.ins.map .str)) = true
  rw [decide_eq_true (by rw [List.length_map]; omega), smalls_strs h.kv.iw]
  rfl
theorem PlV.argA (h : PlV t ds) : argSmall (.dict t.ka) := argSmall_of (by have := h.al; omega) fun q hq => ⟨by have := word_len (h.a1 q hq).1; omega, (h.kv.av q hq).2⟩
theorem PlV.argB (h : PlV t ds) : argSmall (.dict t.ks) := argSmall_of (by have := h.bl; omega) fun q hq => ⟨by have := word_len (h.b1 q hq).1; omega, (h.kv.bv q hq).2⟩
end
section
variable {P : Program} {w : World} {K : PySem.W.Frag} {mg : Str → Option Value} {base : Heap} {C CI : Addr}
theorem prog_use {H : Hp} {x dx pa ps : Addr} {iv rv : V} {wa ws : List (Key × V)} {t : Kt} {ds : List PyData} {Q : VK} {E : XK} (hx : H x = some (.ins C dx [])) (hpa : H pa = some (.dK wa)) (kra : KvsR K H wa t.ka) (hps : H ps = some (.dK ws)) (krs : KvsR K H ws t.ks) (hiv : Dp K H iv (.tuple (t.ins.map .str))) (hrv : Dp K H rv (.list ds)) (v : PlV t ds)
    (k : ∀ H' A kva kvs ls ss gs, But x H H' → A.x = x → A.C = C → kva.Perm t.ka → kvs.Perm t.ks → PgO K H' A ⟨kva, kvs, .tuple (t.ins.map .str), ds, ls, ss, gs⟩ → Q .non H') : spProg K C CI [.ref x, rv, .ref pa, .ref ps, iv] H Q E := by
  have hw := v.wt
  refine ⟨x, dx, rv, .ref pa, .ref ps, iv, .dict t.ka, .dict t.ks, _, .list ds, rfl, hx, ⟨pa, wa, rfl, hpa, kra, by rw [v.kv.ak]; exact v.kv.gn.asks.2.1⟩, ⟨ps, ws, rfl, hps, krs, by rw [v.kv.bk]; exact v.kv.gn.boxes.2.1⟩, v.argA, v.argB, hiv, .inl hrv, v.small, by rw [wt_list]; omega, ?_, fun part path he => absurd he v.prog⟩
  intro ka' ks' ds' c e1 e2 _ e3 _ H' A kva kvs ls ss gs b ex eC p1 s1 p2 s2 _ _ _ _ _ _ po
  obtain rfl : t.ka = ka' := Option.some.inj (v.tabA.symm.trans e1)
  obtain rfl : t.ks = ks' := Option.some.inj (v.tabB.symm.trans e2)
  obtain rfl : ds = ds' := by injection e3
  exact k H' A kva kvs ls ss gs b ex eC p1 p2 (po.mono cut_all)
def spProgram (K : PySem.W.Frag) (C : Addr) : Sp := fun vs H Q _ => ∃ (kd : Addr) (A : KtA) (t : Kt) (rm : Int) (l : Addr) (xs : List V) (ds : List PyData), vs = [.ref kd] ∧ PlO K H kd A t rm l xs ds ∧ PlV t ds ∧
  ∀ H' R kva kvs ls ss gs, Same H H' → H R.x = none → R.C = C → kva.Perm t.ka → kvs.Perm t.ks → PgO K H' R ⟨kva, kvs, .tuple (t.ins.map .str), ds, ls, ss, gs⟩ → Q (.ref R.x) H'
theorem sc__law_program : FnScope ["_law_plan_here", "_law_rows"] ["_law_plan_here"] (defScope s__law_program) := ⟨rfl, rfl, rfl, by decide +kernel, rfl, by decide +kernel, by decide +kernel⟩
theorem ok_program {f : Addr} {fd : FuncData} (F : Fun K "_law_program" "_law_program" s__law_program f fd) (T : Txt mg) (c__law_copy_rows : Cal P w K mg base CX0 32 "_law_copy_rows" ["_law_rows"] (spCopyR K 15)) (k_Program : KcalN P w K mg base (L2.CX P w) 13 "Program" C ["self", "rows", "asks", "signals", "inputs"] 1 ["asks", "signals", "inputs"] (spProg K C CI)) : FnOk P w K mg base CX0 33 f fd ["_law_plan_here"] (spProgram K C) := by
  refine F.ok sc__law_program (fun vs H Q E h => ?_) (fun cdv A0 outer s H vs Q E hr h => ?_)
  · obtain ⟨kd, A, t, rm, l, xs, ds, rfl, _⟩ := h
    rfl
  · obtain ⟨kd, A, t, rm, l, xs, ds, rfl, O, v, k⟩ := h
    have hu := hu_of hr
    have hw := v.wt
    refine ⟨_, (pss_cons (ps_set (i := 1) sc__law_program.nd rfl (.inl rfl) (pe_cal c__law_copy_rows (hr.mono (by omega)) rfl pass0 (pa_cons (pe_dget hu (pv 0) pe_str (fun _ _ => rfl)) pa_nil)))
      (pss_one (ps_ret (pe_kcalN k_Program (hr.mono (by omega)) rfl passF (pa_cons (pv 1) pa_nil) (pk_cons (pe_callTy call_dictD (by rfl) T.b_dict (by decide +kernel) (pa_cons (pe_dget hu (pv 0) pe_str (fun _ _ => rfl)) pa_nil)) (pk_cons (pe_callTy call_dictD (by rfl) T.b_dict (by decide +kernel) (pa_cons (pe_dget hu (pv 0) pe_str (fun _ _ => rfl)) pa_nil)) (pk_cons (pe_dget hu (pv 0) pe_str (fun _ _ => rfl)) pk_nil))))))), ?_⟩
    refine ⟨_, rfl, kd, _, rfl, DGet.k (k := (.inr "rows" : Key)) O.at', _, ds, rfl, .lst (.inl (.inl O.rows)) O.dp, rows_dpt v.gr, by omega, fun q ys H1 s1 hq hq1 dp1 => ?_⟩
    have O1 := O.mono s1
    obtain ⟨wa, a1, a2⟩ := O1.asks
    obtain ⟨wz, b1, b2⟩ := O1.sigs
    refine ⟨_, rfl, _, rfl, kd, _, rfl, DGet.k (k := (.inr "asks" : Key)) O1.at', A.pa, wa, rfl, .inl a1, fun pa hpa => ?_⟩
    have s2 := Same.new (o := .dK wa) hpa
    have v2 := at_new (o := .dK wa) hpa
    revert s2 v2
    generalize upd H1 pa _ = H2
    intro s2 v2
    refine ⟨_, rfl, kd, _, rfl, DGet.k (k := (.inr "signals" : Key)) (s2 _ _ O1.at'), A.ps, wz, rfl, .inl (s2 _ _ b1), fun ps hps => ?_⟩
    have s3 := Same.new (o := .dK wz) hps
    have v3 := at_new (o := .dK wz) hps
    revert s3 v3
    generalize upd H2 ps _ = H3
    intro s3 v3
    have s13 := s2.trans s3
    refine ⟨_, rfl, kd, _, rfl, DGet.k (k := (.inr "inputs" : Key)) (s13 _ _ O1.at'), rfl, rfl, fun x dx hx hdx hne => ?_⟩
    have s4 : Same H3 (upd (upd H3 dx (.own x)) x (.ins C dx [])) := (Same.new hdx).trans (Same.new (by rw [upd_ne hne.symm]; exact hx))
    have x4 : upd (upd H3 dx (.own x)) x (.ins C dx []) x = some (.ins C dx []) := upd_same
    revert s4 x4
    generalize upd (upd H3 dx (.own x)) x (.ins C dx []) = H4
    intro s4 x4
    have s14 := s13.trans s4
    have s04 := s1.trans s14
    have xH : H x = none := by
      cases z : H x with
      | none => rfl
      | some o => rw [(s1.trans s13) _ _ z] at hx; cases hx
    refine prog_use x4 ((s3.trans s4) _ _ v2) (a2.mono s14.kp) (s4 _ _ v3) (b2.mono s14.kp) (.tup (.inl (.inl (s14 _ _ O1.ins))) (dp_strs _)) (.lst (.inl (.inl (s14 _ _ hq1))) (DpAll.mono (cut_all) (DpAll.mono (cut_same s14) dp1))) v fun H' R kva kvs ls ss gs b ex eC p1 p2 po => ⟨rfl, ?_⟩
    subst ex
    exact k H' R kva kvs ls ss gs (fun c o hc => b c o (s04 c o hc) fun e => by rw [e, xH] at hc; cases hc) xH eC p1 p2 po
def spRowsM (K : PySem.W.Frag) (C : Addr) : Sp := fun vs H Q _ => ∃ A g, vs = [.ref A.x] ∧ A.C = C ∧ PgO K H A g ∧ rowsOk 5 g.rows ∧ wts g.rows ≤ 30000 ∧ ∀ p xs H', Same H H' → H p = none → H' p = some (.lst xs) → DpAll K (cutH (fun b => LstAt H b ∨ b = p) H') xs g.rows → Q (.ref p) H'
theorem sc_Program_rows : FnScope ["self"] ["self"] (defScope s_Program_rows) := ⟨rfl, rfl, rfl, by decide +kernel, rfl, by decide +kernel, by decide +kernel⟩
theorem ok_prows {f : Addr} {fd : FuncData} (F : Fun K "rows" "Program.rows" s_Program_rows f fd) (pc : PgC K C) (c_copy_rows : Cal P w K mg base CX0 11 "copy_rows" ["rows"] (spCRows K 5)) : FnOk P w K mg base CX0 12 f fd ["self"] (spRowsM K C) := by
  refine F.ok sc_Program_rows (fun vs H Q E h => ?_) (fun cdv A outer s H vs Q E hr h => ?_)
  · obtain ⟨A, g, rfl, _⟩ := h
    rfl
  · obtain ⟨A, g, rfl, rfl, O, h1, h2, k⟩ := h
    refine ⟨_, (pss_one (ps_ret (pe_cal c_copy_rows (hr.mono (by omega)) rfl pass0 (pa_cons (pe_fld (pv 0) rfl) pa_nil)))), ?_⟩
    exact ⟨_, rfl, _, _, _, _, _, rfl, O.ob, pc.cls, pc.n4, rfl, _, g.rows, rfl, O.dr, h1, h2, k⟩
end
end Op
namespace Op
open PySem L2 PyProof.Rows
/-! ### the paths stand in order -/
theorem pLt_pre : ∀ (pre a b : List Int), pLt (pre ++ a) (pre ++ b) = pLt a b
  | [], _, _ => rfl
  | x :: r, a, b => by
    unfold pLt
    show lexLt itemOrd (Sum.inl x :: pK (r ++ a)) (Sum.inl x :: pK (r ++ b)) = _
    rw [lex_self]
    exact pLt_pre r a b
theorem pLt_lt {i j : Int} {a b : List Int} (h : i < j) : pLt (i :: a) (j :: b) = true := by
  unfold pLt
  exact lex_true.mpr (.inl (decide_eq_true h))
def Asc (t : PT) : Prop := (t.map (·.1)).Pairwise fun a b => pLt a b = true
theorem Asc.app {s t : PT} (hs : Asc s) (ht : Asc t) (h : ∀ a ∈ s, ∀ b ∈ t, pLt a.1 b.1 = true) : Asc (s ++ t) := by
  unfold Asc
  rw [List.map_append]
  refine List.pairwise_append.mpr ⟨hs, ht, fun a ha b hb => ?_⟩
  obtain ⟨x, hx, rfl⟩ := List.mem_map.mp ha
  obtain ⟨y, hy, rfl⟩ := List.mem_map.mp hb
  exact h x hx y hy
def GoodP (rp : List PyData → List Int → PT) : Prop := ∀ ds pre, Asc (rp ds pre) ∧ ExtT (rp ds pre) pre 0
theorem inE_good {rp : List PyData → List Int → PT} (hr : GoodP rp) (pre : List Int) : ∀ (l : List PyData) (j : Nat), Asc (inE rp pre l j) ∧ ExtT (inE rp pre l j) pre j
  | [], j => ⟨.nil, fun e he => (List.not_mem_nil he).elim⟩
  | d :: r, j => by
    obtain ⟨a1, a2⟩ := hr (listOf d) (pre ++ [(j : Int)])
    obtain ⟨b1, b2⟩ := inE_good hr pre r (j + 1)
    have e1 : ∀ e ∈ rp (listOf d) (pre ++ [(j : Int)]), ∃ q, e.1 = pre ++ (j : Int) :: q := fun e he => by
      obtain ⟨k, q, _, h⟩ := a2 e he
      exact ⟨(k : Int) :: q, by rw [h, List.append_assoc]; rfl⟩
    refine ⟨a1.app b1 fun a ha b hb => ?_, fun e he => ?_⟩
    · obtain ⟨q, h⟩ := e1 a ha
      obtain ⟨k, q', hk, h'⟩ := b2 b hb
      rw [h, h', pLt_pre]
      exact pLt_lt (by omega)
    · rcases List.mem_append.mp (show e ∈ rp (listOf d) (pre ++ [(j : Int)]) ++ inE rp pre r (j + 1) from he) with he | he
      · obtain ⟨q, h⟩ := e1 e he
        exact ⟨j, q, Nat.le_refl _, h⟩
      · obtain ⟨k, q, hk, h⟩ := b2 e he
        exact ⟨k, q, by omega, h⟩
theorem rowE_good {rp : List PyData → List Int → PT} (hr : GoodP rp) (pre : List Int) (d : PyData) (i : Nat) : Asc (rowE rp pre d i) ∧ ∀ e ∈ rowE rp pre d i, ∃ q, e.1 = pre ++ (i : Int) :: q := by
  unfold rowE
  split
  · rename_i kind parts
    obtain ⟨a1, a2⟩ := inE_good hr (pre ++ [(i : Int)]) (innerL kind parts) 0
    have key : ∀ e ∈ inE rp (pre ++ [(i : Int)]) (innerL kind parts) 0, ∃ x q, e.1 = pre ++ (i : Int) :: x :: q := fun e he => by
      obtain ⟨k, q, _, h⟩ := a2 e he
      exact ⟨(k : Int), q, by rw [h, List.append_assoc]; rfl⟩
    refine ⟨Asc.app (s := [(pre ++ [(i : Int)], .tuple (.str kind :: parts))]) (List.pairwise_singleton _ _) a1 fun a ha b hb => ?_, fun e he => ?_⟩
    · obtain ⟨x, q, h⟩ := key b hb
      rw [List.mem_singleton.mp ha, h, pLt_pre]
      show pLt ([(i : Int)] ++ []) ([(i : Int)] ++ (x :: q)) = true
      rw [pLt_pre]
      rfl
    · rcases List.mem_cons.mp he with rfl | he
      · exact ⟨[], rfl⟩
      · obtain ⟨x, q, h⟩ := key e he
        exact ⟨x :: q, h⟩
  · exact ⟨.nil, fun e he => (List.not_mem_nil he).elim⟩
theorem rsE_good {rp : List PyData → List Int → PT} (hr : GoodP rp) (pre : List Int) : ∀ (ds : List PyData) (i : Nat), Asc (rsE (rowE rp pre) ds i) ∧ ExtT (rsE (rowE rp pre) ds i) pre i
  | [], i => ⟨.nil, fun e he => (List.not_mem_nil he).elim⟩
  | d :: r, i => by
    obtain ⟨a1, a2⟩ := rowE_good hr pre d i
    obtain ⟨b1, b2⟩ := rsE_good hr pre r (i + 1)
    refine ⟨a1.app b1 fun a ha b hb => ?_, fun e he => ?_⟩
    · obtain ⟨q, h⟩ := a2 a ha
      obtain ⟨k, q', hk, h'⟩ := b2 b hb
      rw [h, h', pLt_pre]
      exact pLt_lt (by omega)
    · rcases List.mem_append.mp (show e ∈ rowE rp pre d i ++ rsE (rowE rp pre) r (i + 1) from he) with he | he
      · obtain ⟨q, h⟩ := a2 e he
        exact ⟨i, q, Nat.le_refl _, h⟩
      · obtain ⟨k, q, hk, h⟩ := b2 e he
        exact ⟨k, q, by omega, h⟩
theorem paths_good : ∀ n, GoodP (pathsL n)
  | 0 => fun ds pre => ⟨.nil, fun e he => (List.not_mem_nil he).elim⟩
  | n + 1 => fun ds pre => rsE_good (paths_good n) pre ds 0
theorem paths_ne {n : Nat} {ds : List PyData} {pre k : List Int} (h : k ∈ (pathsL n ds pre).map (·.1)) : k ≠ [] := by
  obtain ⟨e, he, rfl⟩ := List.mem_map.mp h
  obtain ⟨j, q, _, h⟩ := (paths_good n ds pre).2 e he
  rw [h]
  exact fun z => by cases pre <;> cases z
theorem pLt_ne {a b : List Int} (h : pLt a b = true) : a ≠ b := fun e => by
  rw [e] at h
  unfold pLt at h
  rw [lex_irrefl] at h
  cases h
theorem paths_nodup (n : Nat) (ds : List PyData) (pre : List Int) : ((pathsL n ds pre).map (·.1)).Nodup := (paths_good n ds pre).1.imp pLt_ne
/-! ### the row at a path -/
def AtP : Nat → List PyData → List Int → PyData → Prop
  | 0, _, _, _ => False
  | n + 1, ds, q, d => (∃ i : Nat, q = [(i : Int)] ∧ ds[i]? = some d) ∨ ∃ (i j : Nat) (q' : List Int) (kind : Str) (parts : List PyData) (x : PyData), q = (i : Int) :: (j : Int) :: q' ∧ ds[i]? = some (.tuple (.str kind :: parts)) ∧ (innerL kind parts)[j]? = some x ∧ AtP n (listOf x) q' d
theorem in_at {n : Nat} (hr : ∀ ds pre, ∀ e ∈ pathsL n ds pre, ∃ q, e.1 = pre ++ q ∧ AtP n ds q e.2) (pre : List Int) : ∀ (l : List PyData) (j : Nat), ∀ e ∈ inE (pathsL n) pre l j, ∃ (k : Nat) (q : List Int) (x : PyData), e.1 = pre ++ ((j + k : Nat) : Int) :: q ∧ l[k]? = some x ∧ AtP n (listOf x) q e.2
  | [], j, e, he => (List.not_mem_nil he).elim
  | d :: r, j, e, he => by
    rcases List.mem_append.mp (show e ∈ pathsL n (listOf d) (pre ++ [(j : Int)]) ++ inE (pathsL n) pre r (j + 1) from he) with he | he
    · obtain ⟨q, h1, h2⟩ := hr _ _ e he
      exact ⟨0, q, d, by rw [h1, List.append_assoc]; rfl, rfl, h2⟩
    · obtain ⟨k, q, x, h1, h2, h3⟩ := in_at hr pre r (j + 1) e he
      exact ⟨k + 1, q, x, by rw [h1, show j + 1 + k = j + (k + 1) by omega], h2, h3⟩
theorem rs_at {n : Nat} (hr : ∀ ds pre, ∀ e ∈ pathsL n ds pre, ∃ q, e.1 = pre ++ q ∧ AtP n ds q e.2) (pre : List Int) : ∀ (ds : List PyData) (i : Nat), ∀ e ∈ rsE (rowE (pathsL n) pre) ds i, ∃ (k : Nat) (d : PyData), ds[k]? = some d ∧ ((e.1 = pre ++ [((i + k : Nat) : Int)] ∧ e.2 = d) ∨ ∃ (j : Nat) (q : List Int) (kind : Str) (parts : List PyData) (x : PyData), e.1 = pre ++ ((i + k : Nat) : Int) :: (j : Int) :: q ∧ d = .tuple (.str kind :: parts) ∧ (innerL kind parts)[j]? = some x ∧ AtP n (listOf x) q e.2)
  | [], i, e, he => (List.not_mem_nil he).elim
  | d :: r, i, e, he => by
    rcases List.mem_append.mp (show e ∈ rowE (pathsL n) pre d i ++ rsE (rowE (pathsL n) pre) r (i + 1) from he) with he | he
    · refine ⟨0, d, rfl, ?_⟩
      unfold rowE at he
      split at he
      · rename_i kind parts heq
        rcases List.mem_cons.mp he with rfl | he
        · exact .inl ⟨rfl, rfl⟩
        · obtain ⟨k, q, x, h1, h2, h3⟩ := in_at hr _ _ _ e he
          exact .inr ⟨k, q, kind, parts, x, by rw [h1, List.append_assoc, Nat.zero_add]; rfl, rfl, h2, h3⟩
      · exact (List.not_mem_nil he).elim
    · obtain ⟨k, d', h1, h2⟩ := rs_at hr pre r (i + 1) e he
      refine ⟨k + 1, d', h1, ?_⟩
      rw [show i + (k + 1) = i + 1 + k by omega]
      exact h2
theorem paths_at : ∀ (n : Nat) (ds : List PyData) (pre : List Int), ∀ e ∈ pathsL n ds pre, ∃ q, e.1 = pre ++ q ∧ AtP n ds q e.2
  | 0, ds, pre, e, he => (List.not_mem_nil he).elim
  | n + 1, ds, pre, e, he => by
    obtain ⟨k, d, h1, h2⟩ := rs_at (paths_at n) pre ds 0 e he
    rw [Nat.zero_add] at h2
    rcases h2 with ⟨h2, h3⟩ | ⟨j, q, kind, parts, x, h2, h3, h4, h5⟩
    · exact ⟨[(k : Int)], h2, .inl ⟨k, rfl, by rw [h3]; exact h1⟩⟩
    · exact ⟨(k : Int) :: (j : Int) :: q, h2, .inr ⟨k, j, q, kind, parts, x, rfl, by rw [← h3]; exact h1, h4, h5⟩⟩
theorem AtP.odd : ∀ {n : Nat} {ds : List PyData} {q : List Int} {d : PyData}, AtP n ds q d → q.length % 2 = 1
  | 0, _, _, _, h => h.elim
  | n + 1, ds, q, d, .inl ⟨i, h, _⟩ => by rw [h]; rfl
  | n + 1, ds, q, d, .inr ⟨i, j, q', kind, parts, x, h, _, _, h4⟩ => by
    have := AtP.odd h4
    rw [h, List.length_cons, List.length_cons]
    omega
theorem AtP.first {n : Nat} {ds : List PyData} {q : List Int} {d : PyData} (h : AtP n ds q d) : ∃ (i : Nat) (q' : List Int), q = (i : Int) :: q' ∧ i < ds.length := by
  cases n with
  | zero => exact h.elim
  | succ n =>
    rcases h with ⟨i, h1, h2⟩ | ⟨i, j, q', kind, parts, x, h1, h2, _⟩
    · exact ⟨i, [], h1, (List.getElem?_eq_some_iff.mp h2).1⟩
    · exact ⟨i, _, h1, (List.getElem?_eq_some_iff.mp h2).1⟩
theorem in_wts {kind : Str} {parts : List PyData} {x : PyData} (h : x ∈ innerL kind parts) : wts (listOf x) ≤ wts parts := by
  have h1 := wIn_inner1 kind parts
  have h2 := wIn_mem h
  omega
theorem AtP.bd : ∀ {n : Nat} {ds : List PyData} {q : List Int} {d : PyData} {B : Nat}, AtP n ds q d → wts ds ≤ B → ∀ x ∈ q, 0 ≤ x ∧ x < (B : Int)
  | 0, _, _, _, _, h, _ => h.elim
  | n + 1, ds, q, d, B, .inl ⟨i, h, h2⟩, hB => fun x hx => by
    rw [h] at hx
    rw [List.mem_singleton.mp hx]
    have := (List.getElem?_eq_some_iff.mp h2).1
    have := wts_len ds
    omega
  | n + 1, ds, q, d, B, .inr ⟨i, j, q', kind, parts, x0, h, h2, h3, h4⟩, hB => fun x hx => by
    have a1 := (List.getElem?_eq_some_iff.mp h2).1
    have a2 := wts_len ds
    have a3 := (List.getElem?_eq_some_iff.mp h3).1
    have a4 := wIn_inner1 kind parts
    have a5 := wts_mem (List.mem_of_getElem? h2)
    rw [wt_tuple, wts_cons] at a5
    have a6 := in_wts (List.mem_of_getElem? h3)
    rw [h] at hx
    rcases List.mem_cons.mp hx with rfl | hx
    · omega
    · rcases List.mem_cons.mp hx with rfl | hx
      · omega
      · exact AtP.bd h4 (by omega) x hx
theorem rowOk.up {r1 r2 : List PyData → Prop} (h : ∀ ds, r1 ds → r2 ds) {d : PyData} (k : rowOk r1 d) : rowOk r2 d := by
  unfold rowOk at k ⊢
  split at k
  · exact ⟨k.1, k.2.1, k.2.2.1, fun d hd => ⟨(k.2.2.2 d hd).1, h _ (k.2.2.2 d hd).2⟩⟩
  · exact k.elim
theorem rowsOk.up : ∀ {n : Nat} {ds : List PyData}, rowsOk n ds → rowsOk (n + 1) ds
  | 0, _, h => h.elim
  | n + 1, ds, h => fun d hd => rowOk.up (fun ds h => rowsOk.up h) (h d hd)
theorem rowsOk.ups {n : Nat} : ∀ {m : Nat} {ds : List PyData}, n ≤ m → rowsOk n ds → rowsOk m ds
  | m, ds, h, k => by
    induction h with
    | refl => exact k
    | step _ ih => exact rowsOk.up ih
theorem AtP.row : ∀ {n : Nat} {ds : List PyData} {q : List Int} {d : PyData}, AtP n ds q d → rowsOk n ds → ∀ {m : Nat}, n ≤ m + 1 → rowOk (rowsOk m) d ∧ wt d ≤ wts ds
  | 0, _, _, _, h, _, _, _ => h.elim
  | n + 1, ds, q, d, .inl ⟨i, h, h2⟩, ho, m, hm => ⟨rowOk.up (fun ds h => rowsOk.ups (by omega) h) (ho d (List.mem_of_getElem? h2)), wts_mem (List.mem_of_getElem? h2)⟩
  | n + 1, ds, q, d, .inr ⟨i, j, q', kind, parts, x0, h, h2, h3, h4⟩, ho, m, hm => by
    have hr := ho _ (List.mem_of_getElem? h2)
    have hx := (hr.2.2.2 x0 (List.mem_of_getElem? h3)).2
    obtain ⟨r1, r2⟩ := AtP.row h4 hx (m := m) (by omega)
    have a5 := wts_mem (List.mem_of_getElem? h2)
    rw [wt_tuple, wts_cons] at a5
    have a6 := in_wts (List.mem_of_getElem? h3)
    exact ⟨r1, by omega⟩
end Op
set_option pp.maxSteps 1500
namespace Op
open PySem L2 PyProof.Rows
/-! ### pieces of the paths -/
theorem rsE_snoc {row : PyData → Nat → PT} : ∀ (l : List PyData) (d : PyData) (i : Nat), rsE row (l ++ [d]) i = rsE row l i ++ row d (i + l.length)
  | [], d, i => by
    show row d i ++ [] = [] ++ row d (i + 0)
    rw [List.append_nil, List.nil_append, Nat.add_zero]
  | x :: r, d, i => by
    show row x i ++ rsE row (r ++ [d]) (i + 1) = (row x i ++ rsE row r (i + 1)) ++ row d (i + (r.length + 1))
    rw [rsE_snoc r d (i + 1), List.append_assoc, show i + 1 + r.length = i + (r.length + 1) by omega]
theorem inE_snoc {rp : List PyData → List Int → PT} (pre : List Int) : ∀ (l : List PyData) (d : PyData) (j : Nat), inE rp pre (l ++ [d]) j = inE rp pre l j ++ rp (listOf d) (pre ++ [((j + l.length : Nat) : Int)])
  | [], d, j => by
    show rp (listOf d) (pre ++ [(j : Int)]) ++ [] = [] ++ rp (listOf d) (pre ++ [((j + 0 : Nat) : Int)])
    rw [List.append_nil, List.nil_append, Nat.add_zero]
  | x :: r, d, j => by
    show rp (listOf x) (pre ++ [(j : Int)]) ++ inE rp pre (r ++ [d]) (j + 1) = (rp (listOf x) (pre ++ [(j : Int)]) ++ inE rp pre r (j + 1)) ++ rp (listOf d) (pre ++ [((j + (r.length + 1) : Nat) : Int)])
    rw [inE_snoc pre r d (j + 1), List.append_assoc, show j + 1 + r.length = j + (r.length + 1) by omega]
theorem in_len {rp : List PyData → List Int → PT} (hr : ∀ ds pre, (rp ds pre).length ≤ wts ds) (pre : List Int) : ∀ (l : List PyData) (j : Nat), (inE rp pre l j).length ≤ wIn l
  | [], j => Nat.zero_le _
  | d :: r, j => by
    have h1 := hr (listOf d) (pre ++ [(j : Int)])
    have h2 := in_len hr pre r (j + 1)
    show (rp (listOf d) (pre ++ [(j : Int)]) ++ inE rp pre r (j + 1)).length ≤ wts (listOf d) + wIn r
    rw [List.length_append]
    omega
theorem row_len {rp : List PyData → List Int → PT} (hr : ∀ ds pre, (rp ds pre).length ≤ wts ds) (pre : List Int) (d : PyData) (i : Nat) : (rowE rp pre d i).length ≤ wt d := by
  unfold rowE
  split
  · rename_i kind parts
    have h1 := in_len hr (pre ++ [(i : Int)]) (innerL kind parts) 0
    have h2 := wIn_inner1 kind parts
    rw [List.length_cons, wt_tuple, wts_cons]
    omega
  · exact Nat.zero_le _
theorem rs_len {rp : List PyData → List Int → PT} (hr : ∀ ds pre, (rp ds pre).length ≤ wts ds) (pre : List Int) : ∀ (ds : List PyData) (i : Nat), (rsE (rowE rp pre) ds i).length ≤ wts ds
  | [], i => Nat.zero_le _
  | d :: r, i => by
    have h1 := row_len hr pre d i
    have h2 := rs_len hr pre r (i + 1)
    show (rowE rp pre d i ++ rsE (rowE rp pre) r (i + 1)).length ≤ _
    rw [List.length_append, wts_cons]
    omega
theorem paths_len : ∀ (n : Nat) (ds : List PyData) (pre : List Int), (pathsL n ds pre).length ≤ wts ds
  | 0, ds, pre => Nat.zero_le _
  | n + 1, ds, pre => rs_len (paths_len n) pre ds 0
theorem wts_take (ds : List PyData) (i : Nat) : wts (ds.take i) ≤ wts ds := by
  have := wts_append (ds.take i) (ds.drop i)
  rw [List.take_append_drop] at this
  omega
theorem wts_step {ds : List PyData} {i : Nat} {d : PyData} (h : ds[i]? = some d) : wts (ds.take i) + wt d ≤ wts ds := by
  have h1 := wts_take ds (i + 1)
  rw [TS.take_one h, wts_append, wts_cons, wts_nil] at h1
  omega
theorem wIn_append : ∀ a b : List PyData, wIn (a ++ b) = wIn a + wIn b
  | [], b => by show wIn b = 0 + wIn b; omega
  | x :: r, b => by
    show wts (listOf x) + wIn (r ++ b) = wts (listOf x) + wIn r + wIn b
    rw [wIn_append r b]
    omega
theorem wIn_take (l : List PyData) (i : Nat) : wIn (l.take i) ≤ wIn l := by
  have := wIn_append (l.take i) (l.drop i)
  rw [List.take_append_drop] at this
  omega
theorem wIn_step {l : List PyData} {i : Nat} {x : PyData} (h : l[i]? = some x) : wIn (l.take i) + wts (listOf x) ≤ wIn l := by
  have h1 := wIn_take l (i + 1)
  rw [TS.take_one h, wIn_append] at h1
  have : wIn [x] = wts (listOf x) + 0 := rfl
  omega
section
variable {H H' : Hp} {qs rs : List Addr} {ks ls : List (List Int)}
theorem ta_mono (s : Same H H') (t : TupsAt H qs ks) : TupsAt H' qs ks := by
  induction t with
  | nil => exact .nil
  | cons h t ih => exact .cons (s _ _ h) ih
theorem ta_kp (s : Kp H H') (t : TupsAt H qs ks) : TupsAt H' qs ks := by
  induction t with
  | nil => exact .nil
  | cons h t ih => exact .cons (s _ _ h rfl) ih
theorem ta_upd {l : Addr} {xs : List V} {o : HO} (h : H l = some (.lst xs)) (t : TupsAt H qs ks) : TupsAt (L2.upd H l o) qs ks := by
  induction t with
  | nil => exact .nil
  | cons hq t ih => exact .cons ((L2.upd_ne (fun e => by rw [e, h] at hq; cases hq)).trans hq) ih
theorem ta_app (s : TupsAt H qs ks) (t : TupsAt H rs ls) : TupsAt H (qs ++ rs) (ks ++ ls) := by
  induction s with
  | nil => exact t
  | cons h s ih => exact .cons h ih
theorem ta_len (s : TupsAt H qs ks) : qs.length = ks.length := Paired.length s
theorem ta_dp {K : PySem.W.Frag} (s : TupsAt H qs ks) : DpAll K H (qs.map V.ref) (ks.map fun k => .tuple (k.map .int)) := by
  induction s with
  | nil => exact .nil
  | @cons a b l1 l2 h s ih =>
    refine .cons (.tup (.inl (.inl h)) ?_) ih
    clear h
    induction b with
    | nil => exact .nil
    | cons x r ih' => exact .cons (.int x) ih'
theorem ta_get (s : TupsAt H qs ks) {i : Nat} {q : Addr} (h : qs[i]? = some q) : ∃ k, ks[i]? = some k ∧ H q = some (.tup (k.map V.int)) := by
  induction s generalizing i with
  | nil => simp at h
  | @cons a b l1 l2 hab s ih =>
    cases i with
    | zero =>
      obtain rfl : a = q := Option.some.inj h
      exact ⟨b, rfl, hab⟩
    | succ i => exact ih h
end
def spPaths (K : PySem.W.Frag) (n : Nat) : Sp := fun vs H Q _ => ∃ (rv : V) (pr : Addr) (ds : List PyData) (pre : List Int), vs = [rv, .ref pr] ∧ Dp K H rv (.list ds) ∧ rowsOk n ds ∧ wts ds ≤ 30000 ∧ H pr = some (.tup (pre.map V.int)) ∧ pre.length + 2 * n ≤ 100 ∧
  ∀ (l : Addr) (qs : List Addr) H', Same H H' → H l = none → H' l = some (.lst (qs.map V.ref)) → TupsAt H' qs ((pathsL n ds pre).map (·.1)) → Q (.ref l) H'
section
variable {P : Program} {w : World} {K : PySem.W.Frag} {mg : Str → Option Value} {base : Heap}
theorem sc__law_lists : FnScope ["_law_row", "_law_part"] ["_law_row"] (defScope s__law_lists) := ⟨rfl, rfl, rfl, by decide +kernel, rfl, by decide +kernel, by decide +kernel⟩
theorem ok_lists {f : Addr} {fd : FuncData} (F : Fun K "_law_lists" "_law_lists" s__law_lists f fd) (T : Txt mg) : FnOk P w K mg base CX0 1 f fd ["_law_row"] (spInnerG K) := by
  refine F.ok sc__law_lists (fun vs H Q E h => ?_) (fun cdv A outer s H vs Q E hr h => ?_)
  · obtain ⟨G, t, kind, parts, rfl, _⟩ := h
    rfl
  · obtain ⟨G, t, kind, parts, rfl, hG, hd, hpl, hb, k⟩ := h
    cases hd with
    | @tup _ xs _ hq ha =>
    cases ha with
    | @cons v0 vr d0 dr h0 hr0 =>
    cases h0 with
    | str kind =>
    have hqG := hq
    replace hq := hq.mono hG
    have hvl := hr0.len
    unfold innerL at k
    refine ⟨_, (pss_cons (ps_if (pt_cmpR op_eq (pe_ix ix_tup (pv 0) pe_int (fun _ _ => rfl)) pe_str (nomark _)) (pss_one (ps_ret (pe_callTy call_list_of (by rfl) T.b_list (by decide +kernel) (pa_cons (pe_ix ix_tup (pv 0) pe_int (fun _ _ => rfl)) pa_nil)))) pss_nil)
      (pss_one (ps_ret (pe_lc (own := [("_law_part", 1)]) (g := gName 1)  rfl sc__law_lists.nd (pi_tup (pv 0)) (blkOk_by (own := [("_law_part", 1)]) (N := ["_law_row", "_law_part"]) (sc := defScope s__law_lists) (by decide +kernel)) (fun _ _ _ _ _ => (pg_name (i := 1) sc__law_lists.nd rfl (.inl rfl))) (fun _ _ _ _ _ => (pts_one (pt_val (pe_callB (id := "isinstance") (r := rIsi K) call_isi (by rfl) T.b_isinstance (by decide +kernel) (pa_cons (pv 1) (pa_cons (pe_bltn (v := .ty "list") (by rfl) T.b_list (by decide +kernel) rfl) pa_nil)))))) (fun _ _ _ _ _ => (pv 1)))))), ?_⟩
    refine ⟨_, rfl, t, _, 0, _, rfl, rfl, hq, atI_zero _ _, rfl, _, rfl, ?_⟩
    rw [dec_strV]
    by_cases e1 : kind = "both"
    · rw [if_pos e1] at k
      obtain ⟨ds, r, rfl⟩ := hb e1
      cases hr0 with
      | @cons v1 vs1 d1 dr1 h1 hr1 =>
      cases h1 with
      | @tup q ws _ hqw haw =>
      refine ifT (decide_eq_true e1) ⟨_, rfl, t, _, 1, _, rfl, rfl, hq, atI_one _ _ _, q, ws, rfl, .inr (hqw.mono hG), fun l hl => ?_⟩
      exact k l ws _ (Same.new hl) hl upd_same haw
    · rw [if_neg e1] at k
      refine ifF (decide_eq_false e1) ⟨_, rfl, t, rfl, ⟨_, hq⟩, fun D hD => ?_⟩
      refine lc_it (walk_tup (xs := .str kind :: vr)) (fun i H' => ∃ acc, H' D = some (.lst acc) ∧ acc.length ≤ i ∧ DpAll K G acc (((.str kind :: parts).take i).filter isList) ∧ Same H H') ⟨[], upd_same, Nat.le_refl _, .nil, Same.new hD⟩ (fun i H' _ p => hq.mono (let ⟨_, _, _, _, s⟩ := p; s)) ?_ ?_
      · rintro i x H1 H2 hi ⟨acc, hacc, hal, hdp, sm⟩ ⟨rfl, hx⟩
        obtain ⟨d, hd1, hd2⟩ := DpAll.get (.cons (.str kind) hr0) hx
        refine ⟨rfl, _, rfl, x, _, _, _, _, rfl, .ty _, ty_dp ((hd2.mono hG).mono sm), kit_list d, _, rfl, ?_⟩
        have hi' : i < 2000 := by rw [List.length_cons] at hi; omega
        have e2 : ((.str kind :: parts).take (i + 1)).filter isList = ((.str kind :: parts).take i).filter isList ++ [d].filter isList := by
          rw [TS.take_one hd1, List.filter_append]
        by_cases q : isList d = true
        · rw [q]
          refine ifT rfl ⟨_, rfl, acc, hacc, lt_sz (by omega), acc ++ [x], upd_same, by rw [List.length_append]; show acc.length + 1 ≤ _; omega, ?_, fun b o hb => ?_⟩
          · rw [e2, List.filter_cons_of_pos q, List.filter_nil]
            exact hdp.append (.cons hd2 .nil)
          · rw [upd_ne (ne_of_none hb hD)]
            exact sm b o hb
        · rw [Bool.eq_false_iff.mpr q]
          refine ifF rfl ⟨acc, hacc, by omega, ?_, sm⟩
          rw [e2, List.filter_cons_of_neg (by rw [Bool.eq_false_iff.mpr q]; exact Bool.false_ne_true), List.filter_nil, List.append_nil]
          exact hdp
      · rintro H1 ⟨acc, hacc, _, hdp, sm⟩
        refine k D acc H1 sm hD hacc ?_
        rw [List.take_of_length_le (by rw [List.length_cons, List.length_cons]; omega)] at hdp
        exact hdp
theorem sc__law_paths : FnScope ["_law_rows", "_law_prefix", "_law_paths_here", "_law_index", "_law_lists_here", "_law_number"] ["_law_rows", "_law_prefix"] (defScope s__law_paths) := ⟨rfl, rfl, rfl, by decide +kernel, rfl, by decide +kernel, by decide +kernel⟩
theorem ok_lpaths {f : Addr} {fd : FuncData} {k n : Nat} (F : Fun K "_law_paths" "_law_paths" s__law_paths f fd) (T : Txt mg) (hk : 1 ≤ k) (c__law_lists : Cal P w K mg base CX0 1 "_law_lists" ["_law_row"] (spInnerG K)) (c__law_paths : Cal P w K mg base CX0 k "_law_paths" ["_law_rows", "_law_prefix"] (spPaths K n)) : FnOk P w K mg base CX0 (k + 1) f fd ["_law_rows", "_law_prefix"] (spPaths K (n + 1)) := by
  refine F.ok sc__law_paths (fun vs H Q E h => ?_) (fun cdv A outer s H vs Q E hr h => ?_)
  · obtain ⟨rv, pr, ds, pre, rfl, _⟩ := h
    rfl
  · obtain ⟨rv, pr, ds, pre, rfl, hd, hok, hw, hpr, hpl, kk⟩ := h
    cases hd with
    | @lst r vs _ hq ha =>
    have hvl := ha.len
    have hwl := wts_len ds
    refine ⟨_, (pss_cons (ps_set (i := 2) sc__law_paths.nd rfl (.inl rfl) (pe_lst pa_nil))
      (pss_cons (ps_for PassesOwn.never rfl (pi_range1 (by rfl) T.b_range (pa_cons (pe_callB call_len_seq (by rfl) T.b_len (by decide +kernel) (pa_cons (pv 0) pa_nil)) pa_nil)) (pg_name (i := 3) sc__law_paths.nd rfl (.inl rfl)) (pss_cons (ps_expr (pe_bm PySem.F.plainAttrs_list PySem.F.slot_list_append PySem.F.type_list_append mt_append (pv 2) (pa_cons (pe_op op_catA (pv 1) (pe_tup (pa_cons (pv 3) pa_nil))) pa_nil)))
      (pss_cons (ps_set (i := 4) sc__law_paths.nd rfl (.inl rfl) (pe_cal c__law_lists (hr.mono (by omega)) rfl pass0 (pa_cons (pe_ix ix_list (pv 0) (pv 3) (fun _ _ => rfl)) pa_nil)))
      (pss_one (ps_for PassesOwn.never rfl (pi_range1 (by rfl) T.b_range (pa_cons (pe_callB call_len_seq (by rfl) T.b_len (by decide +kernel) (pa_cons (pv 4) pa_nil)) pa_nil)) (pg_name (i := 5) sc__law_paths.nd rfl (.inl rfl)) (pss_one (ps_set (i := 2) sc__law_paths.nd rfl (.inl rfl) (pe_op op_cat (pv 2) (pe_cal c__law_paths (hr.mono (by omega)) rfl pass0 (pa_cons (pe_ix ix_list (pv 4) (pv 5) (fun _ _ => rfl)) (pa_cons (pe_op op_catA (pv 1) (pe_tup (pa_cons (pv 3) (pa_cons (pv 5) pa_nil)))) pa_nil)))))))))))
      (pss_one (ps_ret (pv 2))))), ?_⟩
    refine ⟨sz_lit (by decide), fun l hl => ?_⟩
    have s1 := Same.new (o := .lst []) hl
    have v1 := at_new (o := .lst []) hl
    revert s1 v1
    generalize upd H l _ = H1
    intro s1 v1
    refine ⟨_, rfl, r, _, rfl, .inl (hq.mono s1), (vs.length : Int), rfl, by omega, by omega, ?_⟩
    rw [Int.toNat_natCast]
    refine for_it (walk_range (lo := 0) (n := vs.length)) (fun i σ H' => ∃ (y3 y4 y5 : Option V) (l : Addr) (qs : List Addr), σ = [some (.ref r), some (.ref pr), some (.ref l), y3, y4, y5] ∧ H l = none ∧ H' l = some (.lst (qs.map V.ref)) ∧ TupsAt H' qs ((rsE (rowE (pathsL n) pre) (ds.take i) 0).map (·.1)) ∧ Same H H') ⟨_, _, _, l, [], rfl, hl, v1, .nil, s1⟩ (fun _ _ _ _ _ => trivial) ?_ ?_
    · clear hl v1 s1
      rintro i x σ H3 H2 hi ⟨y3, y4, y5, l, qs, rfl, hl, hl2, ta2, s2⟩ ⟨rfl, rfl⟩
      show gName 3 (V.int (0 + (i : Int))) _ _ _
      rw [Int.zero_add]
      have hvi : vs[i]? = some vs[i] := List.getElem?_eq_getElem hi
      obtain ⟨d, hd1, hd2⟩ := ha.get hvi
      have hrow := hok d (List.mem_of_getElem? hd1)
      obtain ⟨kind, parts, rfl⟩ : ∃ kind parts, d = .tuple (.str kind :: parts) := by
        unfold rowOk at hrow
        split at hrow
        · exact ⟨_, _, rfl⟩
        · exact hrow.elim
      have hstep := wts_step hd1
      have hlen2 : qs.length ≤ wts (ds.take i) := by
        rw [ta_len ta2, List.length_map]
        exact rs_len (paths_len n) pre _ 0
      rw [wt_tuple, wts_cons] at hstep
      have hin := wIn_inner1 kind parts
      refine ⟨_, rfl, .inl ⟨rfl, _, .inl (.inl hl2)⟩, _, rfl, _, rfl, sz1 _, fun t1 ht1 => ?_⟩
      have s3 := Same.new (o := .tup [.int (i : Int)]) ht1
      have v3 := at_new (o := .tup [.int (i : Int)]) ht1
      revert s3 v3
      generalize upd H2 t1 _ = H3
      intro s3 v3
      refine cat_trk (s3 _ _ (s2 _ _ hpr)) v3 (sz_lit (by rw [List.length_map]; show pre.length + 1 ≤ 100000; omega)) fun t H4 s4 v4 => ?_
      have s24 := s3.trans s4
      have hl4 := s24 _ _ hl2
      have v4 : H4 t = some (.tup ((pre ++ [(i : Int)]).map V.int)) := by rw [v4, List.map_append]; rfl
      refine ⟨l, _, _, rfl, rfl, hl4, lt_sz (by rw [List.length_map]; omega), ?_⟩
      have ta5 : TupsAt (upd H4 l (.lst (qs.map V.ref ++ [.ref t]))) (qs ++ [t]) ((rsE (rowE (pathsL n) pre) (ds.take i) 0).map (·.1) ++ [pre ++ [(i : Int)]]) := ta_upd hl4 (ta_app (ta_mono s24 ta2) (.cons v4 .nil))
      have s5 : Same H (upd H4 l (.lst (qs.map V.ref ++ [.ref t]))) := Same.updN (s2.trans s24) hl
      have v5 : upd H4 l (.lst (qs.map V.ref ++ [.ref t])) l = some (.lst ((qs ++ [t]).map V.ref)) := by rw [upd_same, List.map_append]; rfl
      revert ta5 s5 v5
      generalize upd H4 l _ = H5
      intro ta5 s5 v5
      obtain ⟨tr, hvt⟩ : ∃ tr, vs[i] = .ref tr := by
        generalize vs[i] = v at hd2
        cases hd2 with
        | tup h1 h2 => exact ⟨_, rfl⟩
      rw [hvt] at hvi hd2
      refine ⟨_, rfl, _, rfl, r, _, _, .ref tr, rfl, rfl, hq.mono s5, atI_nat hvi, H, tr, kind, parts, rfl, s5, hd2, by have := hrow.1; omega, fun e => by obtain ⟨es, h1, _⟩ := hrow.2.1 e; exact ⟨es, [], h1⟩, fun ll ws H6 s6 hll hll6 dpw => ?_⟩
      have hwsl := dpw.len
      refine ⟨_, rfl, ll, _, rfl, .inl (.inl (.inl hll6)), (ws.length : Int), rfl, by omega, by omega, ?_⟩
      rw [Int.toNat_natCast]
      refine for_it (walk_range (lo := 0) (n := ws.length)) (fun j σ H' => ∃ (y5 : Option V) (l : Addr) (qs' : List Addr), σ = [some (.ref r), some (.ref pr), some (.ref l), some (.int (i : Int)), some (.ref ll), y5] ∧ H l = none ∧ H' l = some (.lst (qs'.map V.ref)) ∧ TupsAt H' qs' ((rsE (rowE (pathsL n) pre) (ds.take i) 0).map (·.1) ++ [pre ++ [(i : Int)]] ++ (inE (pathsL n) (pre ++ [(i : Int)]) ((innerL kind parts).take j) 0).map (·.1)) ∧ Same H H' ∧ H' ll = some (.lst ws) ∧ ll ≠ l) ⟨_, l, qs ++ [t], rfl, hl, s6 _ _ v5, by rw [List.take_zero]; show TupsAt H6 (qs ++ [t]) (_ ++ []); rw [List.append_nil]; exact ta_mono s6 ta5, s5.trans s6, hll6, fun e => by rw [e, v5] at hll; cases hll⟩ (fun _ _ _ _ _ => trivial) ?_ ?_
      · rintro j x σ H8 H7 hj ⟨y5', l', qs', rfl, hl', hl7, ta7, s7, hll7, nll⟩ ⟨rfl, rfl⟩
        show gName 5 (V.int (0 + (j : Int))) _ _ _
        rw [Int.zero_add]
        have hwj : ws[j]? = some ws[j] := List.getElem?_eq_getElem hj
        obtain ⟨x, hx1, hx2⟩ := dpw.get hwj
        have hxm := List.mem_of_getElem? hx1
        obtain ⟨hxl, hxo⟩ := hrow.2.2.2 x hxm
        obtain ⟨xs, rfl⟩ : ∃ xs, x = .list xs := by
          cases x with
          | list xs => exact ⟨xs, rfl⟩
          | _ => cases hxl
        have hxw := wIn_step hx1
        have hqs' : qs'.length ≤ wts (ds.take i) + 1 + wIn ((innerL kind parts).take j) := by
          have e1 := ta_len ta7
          have e2 := rs_len (paths_len n) pre (ds.take i) 0
          have e3 := in_len (paths_len n) (pre ++ [(i : Int)]) ((innerL kind parts).take j) 0
          rw [List.length_append, List.length_append, List.length_map, List.length_map] at e1
          rw [e1]
          show _ + 1 + _ ≤ _
          omega
        have hxw' : wIn ((innerL kind parts).take j) + wts xs ≤ wIn (innerL kind parts) := hxw
        refine ⟨_, rfl, _, rfl, _, rfl, ll, _, _, ws[j], rfl, rfl, .inl (.inl hll7), atI_nat hwj, _, rfl, _, rfl, _, rfl, sz2 _ _, fun t2 ht2 => ?_⟩
        have s8 := Same.new (o := .tup [.int (i : Int), .int (j : Int)]) ht2
        have v8 := at_new (o := .tup [.int (i : Int), .int (j : Int)]) ht2
        revert s8 v8
        generalize upd H7 t2 _ = H8
        intro s8 v8
        refine cat_trk (s8 _ _ (s7 _ _ hpr)) v8 (sz_lit (by rw [List.length_map]; show pre.length + 2 ≤ 100000; omega)) fun t' H9 s9 v9 => ?_
        have s79 := s8.trans s9
        have v9 : H9 t' = some (.tup ((pre ++ [(i : Int)] ++ [(j : Int)]).map V.int)) := by rw [v9, List.map_append, List.map_append, List.append_assoc]; rfl
        refine ⟨_, t', xs, pre ++ [(i : Int)] ++ [(j : Int)], rfl, hx2.mono (s7.trans s79), hxo, by omega, v9, by rw [List.length_append, List.length_append]; show pre.length + 1 + 1 + _ ≤ _; omega, fun l2 rs H10 s10 hl2 hl10 ta10 => ?_⟩
        have s710 := s79.trans s10
        have hl710 := s710 _ _ hl7
        have hrs : rs.length ≤ wts xs := by
          rw [ta_len ta10, List.length_map]
          exact paths_len n _ _
        refine ⟨l', l2, _, _, rfl, rfl, hl710, hl10, sz_lit (by rw [List.length_map, List.length_map]; omega), fun l3 hl3 => ?_⟩
        have s11 := Same.new (o := .lst (qs'.map V.ref ++ rs.map V.ref)) hl3
        have l3H : H l3 = none := by
          cases z : H l3 with
          | none => rfl
          | some o => rw [(s7.trans s710) _ _ z] at hl3; cases hl3
        refine ⟨_, l3, qs' ++ rs, rfl, l3H, by rw [upd_same, List.map_append], ?_, (s7.trans s710).trans s11, (s710.trans s11) _ _ hll7, fun e => by rw [← e, s710 _ _ hll7] at hl3; cases hl3⟩
        have hij : (j : Nat) = ((innerL kind parts).take j).length := by
          rw [List.length_take]
          have := (List.getElem?_eq_some_iff.mp hx1).1
          omega
        rw [TS.take_one hx1, inE_snoc, List.map_append, ← List.append_assoc, Nat.zero_add, ← hij]
        exact ta_app (ta_mono s11 (ta_mono s710 ta7)) (ta_mono s11 ta10)
      · rintro σ H7 ⟨y5', l', qs', rfl, hl', hl7, ta7, s7, hll7, nll⟩
        refine ⟨_, _, _, l', qs', rfl, hl', hl7, ?_, s7⟩
        have hit : i = (ds.take i).length := by
          rw [List.length_take]
          omega
        rw [show (innerL kind parts).take ws.length = innerL kind parts from List.take_of_length_le (by rw [hwsl]; exact Nat.le_refl _)] at ta7
        rw [TS.take_one hd1, rsE_snoc, List.map_append, Nat.zero_add, ← hit]
        show TupsAt H7 qs' (_ ++ ((pre ++ [(i : Int)], PyData.tuple (.str kind :: parts)) :: inE (pathsL n) (pre ++ [(i : Int)]) (innerL kind parts) 0).map (·.1))
        rw [List.append_assoc] at ta7
        exact ta7
    · rintro σ H3 ⟨y3, y4, y5, l, qs, rfl, hl, hl2, ta2, s2⟩
      rw [List.take_of_length_le (by omega)] at ta2
      exact ⟨_, rfl, kk l qs H3 s2 hl hl2 ta2⟩
theorem ok_lpathsN {f : Addr} {fd : FuncData} (F : Fun K "_law_paths" "_law_paths" s__law_paths f fd) (T : Txt mg) (g : mg "_law_paths" = some (.ref f)) (k1 : PySem.W.keepIn K (.ref f) = true) (b : Binds K fd ["_law_rows", "_law_prefix"] []) (c__law_lists : Cal P w K mg base CX0 1 "_law_lists" ["_law_row"] (spInnerG K)) : ∀ n : Nat, Cal P w K mg base CX0 (n + 1) "_law_paths" ["_law_rows", "_law_prefix"] (spPaths K n)
  | 0 => ⟨f, fd, g, k1, b, F.ok sc__law_paths (fun vs H Q E h => by obtain ⟨rv, pr, ds, pre, rfl, _⟩ := h; rfl) (fun cdv A outer s H vs Q E hr h => by
      obtain ⟨rv, pr, ds, pre, _, _, h, _⟩ := h
      exact h.elim)⟩
  | n + 1 => ⟨f, fd, g, k1, b, ok_lpaths (k := n + 1) F T (by omega) c__law_lists (ok_lpathsN F T g k1 b c__law_lists n)⟩
end
end Op
set_option pp.maxSteps 900
namespace Op
open PySem L2 PyProof.Rows
/-! ### the inner lists of a copy stand in the heap -/
def Dir (U : Hp) (ws : List V) : Prop := ∀ w ∈ ws, ∃ (b : Addr) (xs : List V), w = .ref b ∧ U b = some (.lst xs) ∧ xs.length ≤ 40000
theorem Dir.mono {U U' : Hp} {ws : List V} (h : Dir U ws) (s : Same U U') : Dir U' ws := fun w hw => let ⟨b, xs, h1, h2, h3⟩ := h w hw; ⟨b, xs, h1, s _ _ h2, h3⟩
def InL (K : PySem.W.Frag) (U : Hp) (v : V) (kind : Str) (parts : List PyData) : Prop := ∃ t : Addr, v = .ref t ∧ ((kind = "both" ∧ ∃ (t2 : Addr) (ws : List V), U t = some (.tup [.str kind, .ref t2]) ∧ U t2 = some (.tup ws) ∧ DpAll K U ws (innerL kind parts) ∧ Dir U ws) ∨
  (kind ≠ "both" ∧ ∃ vs : List V, U t = some (.tup vs) ∧ DpAll K U vs (.str kind :: parts) ∧ ∀ (i : Nat) (x : V) (d : PyData), vs[i]? = some x → (.str kind :: parts)[i]? = some d → isList d = true → ∃ (b : Addr) (xs : List V), x = .ref b ∧ U b = some (.lst xs) ∧ xs.length ≤ 40000))
theorem InL.mono {K : PySem.W.Frag} {U U' : Hp} {v : V} {kind : Str} {parts : List PyData} (h : InL K U v kind parts) (s : Same U U') : InL K U' v kind parts := by
  obtain ⟨t, h1, h2⟩ := h
  refine ⟨t, h1, ?_⟩
  rcases h2 with ⟨e, t2, ws, a1, a2, a3, a4⟩ | ⟨e, vs, a1, a2, a3⟩
  · exact .inl ⟨e, t2, ws, s _ _ a1, s _ _ a2, DpAll.mono s a3, a4.mono s⟩
  · exact .inr ⟨e, vs, s _ _ a1, DpAll.mono s a2, fun i x d h1 h2 h3 => let ⟨b, xs, q1, q2, q3⟩ := a3 i x d h1 h2 h3; ⟨b, xs, q1, s _ _ q2, q3⟩⟩
section
variable {P : Program} {w : World} {K : PySem.W.Frag} {mg : Str → Option Value} {base : Heap}
def spWithL (K : PySem.W.Frag) : Sp := fun vs H Q _ => ∃ (S : Addr → Prop) (t l : Addr) (ws : List V) (kind : Str) (parts : List PyData), vs = [.ref t, .ref l] ∧ Dp K H (.ref t) (.tuple (.str kind :: parts)) ∧ H l = some (.lst ws) ∧ (∀ b, S b → LstAt H b) ∧ DpAll K (cutH S H) ws (innerL kind parts) ∧ Dir (cutH S H) ws ∧ parts.length ≤ 4 ∧ (innerL kind parts).length ≤ 40000 ∧
  (kind = "both" → ∃ ds, parts = [.tuple ds] ∧ ds ≠ []) ∧ (kind ≠ "both" → parts = parts.filter notList ++ parts.filter isList ∧ ∀ d ∈ parts, isList d = false → noL d = true) ∧ ∀ v H', Same H H' → Dp K (cutH S H') v (.tuple (.str kind :: parts)) → InL K (cutH S H') v kind parts → Q v H'
def spCRowL (K : PySem.W.Frag) (n : Nat) : Sp := fun vs H Q _ => ∃ (v : V) (d : PyData), vs = [v] ∧ Dp K H v d ∧ rowOk (rowsOk n) d ∧ wt d ≤ 30000 ∧ ∀ kind parts v' H', d = .tuple (.str kind :: parts) → Same H H' → Dp K (cutH (LstAt H) H') v' d → (innerL kind parts = [] ∨ InL K (cutH (LstAt H) H') v' kind parts) → Q v' H'
theorem ok_with_listsL {f : Addr} {fd : FuncData} (F : Fun K "with_lists" "with_lists" s_with_lists f fd) (T : Txt mg) : FnOk P w K mg base CX0 1 f fd ["row", "lists"] (spWithL K) := by
  refine F.ok sc_with_lists (fun vs H Q E h => ?_) (fun cdv A outer s H vs Q E hr h => ?_)
  · obtain ⟨S, t, l, ws, kind, parts, rfl, _⟩ := h
    rfl
  · obtain ⟨S, t, l, ws, kind, parts, rfl, hd, hl, hS, hw, hdir, hpl, hil, hb, hnb, k⟩ := h
    cases hd with
    | @tup _ xs _ hq ha =>
    cases ha with
    | @cons v0 vr d0 dr h0 hr0 =>
    cases h0 with
    | str kind =>
    have hvl := hr0.len
    have hwl := hw.len
    have nS : ∀ b, H b = none → ¬ S b := fun b hb z => by
      obtain ⟨ys, q⟩ := hS b z
      rw [hb] at q
      cases q
    refine ⟨_, (pss_cons (ps_if (pt_cmpR op_eq (pe_ix ix_tup (pv 0) pe_int (fun _ _ => rfl)) pe_str (nomark _)) (pss_one (ps_ret (pe_tup (pa_cons pe_str (pa_cons (pe_callTy call_tuple_of (by rfl) T.b_tuple (by decide +kernel) (pa_cons (pv 1) pa_nil)) pa_nil))))) pss_nil)
      (pss_cons (ps_setLc (i := 2) (own := [("part", 3)]) (g := gName 3)  rfl sc_with_lists.nd rfl rfl (sw_true rfl rfl rfl (by decide +kernel)) (pi_tup (pv 0)) (blkOk_by (own := [("part", 3)]) (N := ["row", "lists", "parts", "part"]) (sc := defScope s_with_lists) (by decide +kernel)) (fun _ _ _ _ _ => (pg_name (i := 3) sc_with_lists.nd rfl (.inl rfl))) (fun _ _ _ _ _ => (pts_one (pt_not (pt_val (pe_callB (id := "isinstance") (r := rIsi K) call_isi (by rfl) T.b_isinstance (by decide +kernel) (pa_cons (pv 3) (pa_cons (pe_bltn (v := .ty "list") (by rfl) T.b_list (by decide +kernel) rfl) pa_nil))))))) (fun _ _ _ _ _ => (pv 3)))
      (pss_one (ps_ret (pe_callTy call_tuple_of (by rfl) T.b_tuple (by decide +kernel) (pa_cons (pe_op op_cat (pv 2) (pv 1)) pa_nil)))))), ?_⟩
    refine ⟨_, rfl, t, _, 0, _, rfl, rfl, hq, atI_zero _ _, rfl, _, rfl, ?_⟩
    rw [dec_strV]
    by_cases e1 : kind = "both"
    · obtain ⟨ds, rfl, _⟩ := hb e1
      refine ifT (decide_eq_true e1) ?_
      have hin : innerL kind [.tuple ds] = ds := by unfold innerL; rw [if_pos e1]
      rw [hin] at hw
      refine ⟨_, rfl, l, ws, rfl, .inl ⟨.inl (.inl hl), fun p hp => ⟨sz2 _ _, fun q hq' => ?_⟩⟩⟩
      have s1 : Same H (upd H p (.tup ws)) := Same.new hp
      have s2 : Same (upd H p (.tup ws)) (upd (upd H p (.tup ws)) q (.tup [.str "both", .ref p])) := Same.new hq'
      have nq : ¬ S q := nS q (s1.free hq')
      have cq : cutH S (upd (upd H p (.tup ws)) q (.tup [.str "both", .ref p])) q = some (.tup [.str "both", .ref p]) := by rw [cut_not nq]; exact upd_same
      have cp : cutH S (upd (upd H p (.tup ws)) q (.tup [.str "both", .ref p])) p = some (.tup ws) := by rw [cut_not (nS p hp)]; exact s2 _ _ upd_same
      have cw := DpAll.mono (cut_same (S := S) (s1.trans s2)) hw
      refine k (.ref q) _ (s1.trans s2) (.tup (.inl (.inl cq)) ?_) ⟨q, rfl, .inl ⟨e1, p, ws, by rw [e1]; exact cq, cp, by rw [hin]; exact cw, hdir.mono (cut_same (s1.trans s2))⟩⟩
      rw [e1]
      exact .cons (.str _) (.cons (.tup (.inl (.inl cp)) cw) .nil)
    · refine ifF (decide_eq_false e1) ⟨_, rfl, t, rfl, ⟨_, hq⟩, fun D hD => ?_⟩
      have hDl : D ≠ l := fun e => by rw [e, hl] at hD; cases hD
      have hin : innerL kind parts = parts.filter isList := by unfold innerL; rw [if_neg e1]
      refine lc_it (walk_tup (xs := .str kind :: vr)) (fun i H' => ∃ acc, H' D = some (.lst acc) ∧ acc.length ≤ i ∧ DpAll K H acc (((.str kind :: parts).take i).filter notList) ∧ Same H H') ⟨[], upd_same, Nat.le_refl _, .nil, Same.new hD⟩ (fun i H' _ p => hq.mono (let ⟨_, _, _, _, s⟩ := p; s)) ?_ ?_
      · rintro i x H1 H2 hi ⟨acc, hacc, hal, hdp, sm⟩ ⟨rfl, hx⟩
        obtain ⟨d, hd1, hd2⟩ := DpAll.get (.cons (.str kind) hr0) hx
        refine ⟨rfl, _, rfl, x, _, _, _, _, rfl, .ty _, ty_dp (hd2.mono sm), kit_list d, _, rfl, ?_⟩
        have hi' : i < 2000 := by rw [List.length_cons] at hi; omega
        have e2 : ((.str kind :: parts).take (i + 1)).filter notList = ((.str kind :: parts).take i).filter notList ++ [d].filter notList := by
          rw [TS.take_one hd1, List.filter_append]
        by_cases q : isList d = true
        · rw [q]
          have q' : ¬ notList d = true := by unfold notList; rw [q]; exact Bool.false_ne_true
          refine ifF rfl ⟨acc, hacc, by omega, ?_, sm⟩
          rw [e2, List.filter_cons_of_neg q', List.filter_nil, List.append_nil]
          exact hdp
        · rw [Bool.eq_false_iff.mpr q]
          have q' : notList d = true := by unfold notList; rw [Bool.eq_false_iff.mpr q]; rfl
          refine ifT rfl ⟨_, rfl, acc, hacc, lt_sz (by omega), acc ++ [x], upd_same, by rw [List.length_append]; show acc.length + 1 ≤ _; omega, ?_, fun b o hb => ?_⟩
          · rw [e2, List.filter_cons_of_pos q', List.filter_nil]
            exact hdp.append (.cons hd2 .nil)
          · rw [upd_ne (ne_of_none hb hD)]
            exact sm b o hb
      · rintro H1 ⟨acc, hacc, hal, hdp, sm⟩
        rw [List.take_of_length_le (by rw [List.length_cons, List.length_cons]; omega)] at hdp
        rw [List.length_cons] at hal
        refine ⟨_, rfl, _, rfl, D, l, acc, ws, rfl, rfl, hacc, sm _ _ hl, sz_lit (by omega), fun p hp => ?_⟩
        refine ⟨p, _, rfl, .inl ⟨.inl (.inl upd_same), fun q hq' => ?_⟩⟩
        have s1 : Same H1 (upd H1 p (.lst (acc ++ ws))) := Same.new hp
        have s2 : Same (upd H1 p (.lst (acc ++ ws))) (upd (upd H1 p (.lst (acc ++ ws))) q (.tup (acc ++ ws))) := Same.new hq'
        have nq : ¬ S q := nS q ((sm.trans s1).free hq')
        have hcat : DpAll K (cutH S H) (acc ++ ws) (.str kind :: parts) := by
          have h1 : DpAll K (cutH S H) acc ((.str kind :: parts).filter notList) := noLs_cut hS hdp (noLs_mem.mpr fun d hd => by
            obtain ⟨m1, m2⟩ := List.mem_filter.mp hd
            rcases List.mem_cons.mp m1 with rfl | m1
            · unfold noL; rfl
            · exact (hnb e1).2 d m1 (by unfold notList at m2; cases q : isList d with | false => rfl | true => rw [q] at m2; cases m2))
          have := h1.append hw
          rw [hin, List.filter_cons_of_pos (by rfl : notList (.str kind) = true), List.cons_append, ← (hnb e1).1] at this
          exact this
        have hc2 := DpAll.mono (cut_same (S := S) (sm.trans (s1.trans s2))) hcat
        have cq : cutH S (upd (upd H1 p (.lst (acc ++ ws))) q (.tup (acc ++ ws))) q = some (.tup (acc ++ ws)) := by rw [cut_not nq]; exact upd_same
        refine k (.ref q) _ (sm.trans (s1.trans s2)) (.tup (.inl (.inl cq)) hc2) ⟨q, rfl, .inr ⟨e1, acc ++ ws, cq, hc2, fun i x d hx hd' hdl => ?_⟩⟩
        have hal' := hdp.len
        by_cases hi : i < acc.length
        · exfalso
          rw [(hnb e1).1, ← List.cons_append] at hd'
          have e3 : (.str kind :: parts.filter notList) = (.str kind :: parts).filter notList := by rw [List.filter_cons_of_pos (by rfl : notList (.str kind) = true)]
          rw [e3, List.getElem?_append_left (by rw [← hal']; exact hi)] at hd'
          have := (List.mem_filter.mp (List.mem_of_getElem? hd')).2
          unfold notList at this
          rw [hdl] at this
          cases this
        · rw [List.getElem?_append_right (by omega)] at hx
          exact (hdir.mono (cut_same (S := S) (sm.trans (s1.trans s2)))) x (List.mem_of_getElem? hx)
theorem ok_copy_rowL {f : Addr} {fd : FuncData} {k : Nat} {n : Nat} (F : Fun K "copy_row" "copy_row" s_copy_row f fd) (T : Txt mg) (c_inner_lists : Cal P w K mg base CX0 1 "inner_lists" ["row"] (spInner K)) (c_with_lists : Cal P w K mg base CX0 1 "with_lists" ["row", "lists"] (spWithL K)) (c_copy_rows : Cal P w K mg base CX0 (k + 1) "copy_rows" ["rows"] (spCRows K n)) : FnOk P w K mg base CX0 (k + 2) f fd ["row"] (spCRowL K n) := by
  refine F.ok sc_copy_row (fun vs H Q E h => ?_) (fun cdv A outer s H vs Q E hr h => ?_)
  · obtain ⟨v, d, rfl, _⟩ := h
    rfl
  · obtain ⟨v, d, rfl, hd, hok, hwt, kk⟩ := h
    obtain ⟨kind, parts, rfl⟩ : ∃ kind parts, d = .tuple (.str kind :: parts) := by
      unfold rowOk at hok
      split at hok
      · exact ⟨_, _, rfl⟩
      · exact hok.elim
    obtain ⟨hpl, hb, hnb, hin⟩ := hok
    have hwi := wIn_inner kind parts
    rw [wt_tuple, wts_cons] at hwt
    obtain ⟨t, rfl⟩ : ∃ t, v = .ref t := by cases hd with | tup _ _ => exact ⟨_, rfl⟩
    refine ⟨_, (pss_cons (ps_set (i := 1) sc_copy_row.nd rfl (.inl rfl) (pe_cal c_inner_lists (hr.mono (by omega)) rfl pass0 (pa_cons (pv 0) pa_nil)))
      (pss_cons (ps_if (pt_cmpR op_eq (pe_callB call_len_seq (by rfl) T.b_len (by decide +kernel) (pa_cons (pv 1) pa_nil)) pe_int (nomark _)) (pss_one (ps_ret (pv 0))) pss_nil)
      (pss_one (ps_ret (pe_cal c_with_lists (hr.mono (by omega)) rfl pass0 (pa_cons (pv 0) (pa_cons (pe_lc (own := [("rows", 2)]) (g := gName 2) (tt := tYes) rfl sc_copy_row.nd (pi_list (pv 1)) (blkOk_by (own := [("rows", 2)]) (N := ["row", "lists", "rows"]) (sc := defScope s_copy_row) (by decide +kernel)) (fun _ _ _ _ _ => (pg_name (i := 2) sc_copy_row.nd rfl (.inl rfl))) (fun _ _ _ _ _ => pts_nil) (fun _ _ _ _ _ => (pe_cal c_copy_rows (hr.mono (by omega)) rfl pass0 (pa_cons (pv 2) pa_nil)))) pa_nil))))))), ?_⟩
    refine ⟨_, rfl, t, kind, parts, rfl, hd, by omega, fun e => ?_, fun p xs H1 s1 hp hp1 hdp => ?_⟩
    · obtain ⟨ds, e', _⟩ := hb e
      exact ⟨ds, [], e'⟩
    have hxl := hdp.len
    refine ⟨_, rfl, p, xs, rfl, .inl (.inl (.inl hp1)), rfl, _, rfl, ?_⟩
    by_cases e0 : xs.length = 0
    · rw [e0]
      refine ifT rfl ⟨_, rfl, ?_⟩
      have hi0 : innerL kind parts = [] := List.length_eq_zero_iff.mp (by omega)
      have nL : noL (.tuple (.str kind :: parts)) = true := by
        unfold noL
        refine noLs_mem.mpr fun d hd' => ?_
        rcases List.mem_cons.mp hd' with rfl | hd'
        · unfold noL; rfl
        · by_cases e : kind = "both"
          · obtain ⟨ds, rfl, hne⟩ := hb e
            unfold innerL at hi0
            rw [if_pos e] at hi0
            exact absurd hi0 hne
          · refine (hnb e).2 d hd' ?_
            unfold innerL at hi0
            rw [if_neg e] at hi0
            exact Bool.eq_false_iff.mpr (List.filter_eq_nil_iff.mp hi0 d hd')
      exact kk kind parts (.ref t) H1 rfl s1 ((noL_cut (S := LstAt H) (fun b h => h) hd nL).mono (cut_same s1)) (.inl hi0)
    · refine ifF (decide_eq_false (by intro z; injection z with z; omega)) ?_
      have hil := inner_len kind parts
      refine ⟨_, rfl, _, rfl, p, rfl, ⟨_, .inl (.inl hp1)⟩, fun D hD => ?_⟩
      refine lc_it (walk_list (xs := xs)) (fun i H' => ∃ acc, H' D = some (.lst acc) ∧ acc.length ≤ i ∧ DpAll K (cutH (fun b => LstAt H b ∨ b = D) H') acc ((innerL kind parts).take i) ∧ Same H1 H' ∧ Dir (cutH (fun b => LstAt H b ∨ b = D) H') acc) ⟨[], upd_same, Nat.le_refl _, .nil, Same.new hD, fun w hw => (List.not_mem_nil hw).elim⟩ (fun i H' _ q => .inl (.inl ((let ⟨_, _, _, _, s, _⟩ := q; s) _ _ hp1))) ?_ ?_
      · rintro i x H0' H2 hi ⟨acc, hacc, hal, hdpa, sm, hdr⟩ ⟨rfl, hx⟩
        obtain ⟨d, hd1, hd2⟩ := hdp.get hx
        have hm := List.mem_of_getElem? hd1
        obtain ⟨hisl, hrok⟩ := hin d hm
        obtain ⟨dl, rfl⟩ : ∃ dl, d = .list dl := by
          cases d with
          | list dl => exact ⟨dl, rfl⟩
          | _ => cases hisl
        have hwl : wts dl ≤ wIn (innerL kind parts) := wIn_mem hm
        refine ⟨rfl, ?_⟩
        refine ⟨_, rfl, x, dl, rfl, hd2.mono (s1.trans sm), hrok, by omega, fun p2 xs2 H3 s3 hp2 hx2 hdp2 => ?_⟩
        have sub : ∀ b, LstAt H b ∨ b = D → LstAt H2 b ∨ b = p2 := fun b hb => by
          rcases hb with hb | rfl
          · exact .inl (hb.mono (s1.trans sm))
          · exact .inl ⟨acc, hacc⟩
        have np2 : ¬ (LstAt H p2 ∨ p2 = D) := fun z => by
          rcases z with z | rfl
          · obtain ⟨ys, q⟩ := z.mono (s1.trans sm)
            rw [hp2] at q
            cases q
          · rw [hacc] at hp2
            cases hp2
        refine ⟨acc, s3 _ _ hacc, lt_sz (by omega), acc ++ [.ref p2], upd_same, by rw [List.length_append]; show acc.length + 1 ≤ _; omega, ?_, fun b o hb => ?_, ?_⟩
        · rw [cut_upd (.inr rfl), TS.take_one hd1]
          refine (DpAll.mono (cut_same s3) hdpa).append (.cons (.lst (.inl (.inl (by rw [cut_not np2]; exact hx2))) (DpAll.mono (cut_sub sub) hdp2)) .nil)
        · rw [upd_ne (ne_of_none hb hD)]
          exact s3 b o (sm b o hb)
        · rw [cut_upd (.inr rfl)]
          intro w hw
          rcases List.mem_append.mp hw with hw | hw
          · exact (hdr.mono (cut_same s3)) w hw
          · exact ⟨p2, xs2, List.mem_singleton.mp hw, by rw [cut_not np2]; exact hx2, by have := hdp2.len; have := wts_len dl; omega⟩
      · rintro H2 ⟨acc, hacc, _, hdpa, sm, hdr⟩
        rw [List.take_of_length_le (by omega)] at hdpa
        exact ⟨LstAt H, t, D, acc, kind, parts, rfl, hd.mono (s1.trans sm), hacc, fun b hb => hb.mono (s1.trans sm), DpAll.mono (cut_sub fun b hb => .inl hb) hdpa, hdr.mono (cut_sub fun b hb => .inl hb), hpl, by omega, hb, hnb, fun v' H' s' hv' hin' => kk kind parts v' H' rfl ((s1.trans sm).trans s') hv' (.inr hin')⟩
end
end Op
set_option pp.maxSteps 1500
namespace Op
open PySem L2 PyProof.Rows
theorem cut2 (a b : V) (r : List V) : cutV (a :: b :: r) (some 2) none = r := by
  unfold cutV
  rw [HT.sIx_none, show (2 : Int) = ((2 : Nat) : Int) from rfl, HT.sIx_nat, List.length_cons, List.length_cons, show min 2 (r.length + 1 + 1) = 2 by omega]
  show r.take (r.length + 1 + 1 - 2) = r
  rw [List.take_of_length_le (by omega)]
theorem cut2n (a b : V) (r : List V) : ¬ (HT.sIx (a :: b :: r).length 0 (some 2) = 0 ∧ HT.sIx (a :: b :: r).length (a :: b :: r).length none = (a :: b :: r).length) := by
  rw [show (2 : Int) = ((2 : Nat) : Int) from rfl, HT.sIx_nat, List.length_cons, List.length_cons]
  omega
def spAt (K : PySem.W.Frag) (n : Nat) : Sp := fun vs H Q _ => ∃ (rv : V) (pr : Addr) (ds : List PyData) (q : List Int) (d : PyData), vs = [rv, .ref pr] ∧ Dp K H rv (.list ds) ∧ rowsOk n ds ∧ SqT K H pr (q.map V.int) ∧ AtP n ds q d ∧ ∀ v H', Same H H' → Dp K H' v d → Q v H'
section
variable {P : Program} {w : World} {K : PySem.W.Frag} {mg : Str → Option Value} {base : Heap}
theorem sc__law_at : FnScope ["_law_rows", "_law_path"] ["_law_rows", "_law_path"] (defScope s__law_at) := ⟨rfl, rfl, rfl, by decide +kernel, rfl, by decide +kernel, by decide +kernel⟩
theorem ok_lat {f : Addr} {fd : FuncData} {k n : Nat} (F : Fun K "_law_at" "_law_at" s__law_at f fd) (T : Txt mg) (hk : 1 ≤ k) (c__law_lists : Cal P w K mg base CX0 1 "_law_lists" ["_law_row"] (spInnerG K)) (c__law_at : Cal P w K mg base CX0 k "_law_at" ["_law_rows", "_law_path"] (spAt K n)) : FnOk P w K mg base CX0 (k + 1) f fd ["_law_rows", "_law_path"] (spAt K (n + 1)) := by
  refine F.ok sc__law_at (fun vs H Q E h => ?_) (fun cdv A outer s H vs Q E hr h => ?_)
  · obtain ⟨rv, pr, ds, q, d, rfl, _⟩ := h
    rfl
  · obtain ⟨rv, pr, ds, q, d, rfl, hd, hok, hpr, hat, kk⟩ := h
    cases hd with
    | @lst r vs _ hq ha =>
    refine ⟨_, (pss_cons (ps_if (pt_cmpR op_eq (pe_callB call_len_seq (by rfl) T.b_len (by decide +kernel) (pa_cons (pv 1) pa_nil)) pe_int (nomark _)) (pss_one (ps_ret (pe_ix ix_list (pv 0) (pe_ix ix_tup (pv 1) pe_int (fun _ _ => rfl)) (fun _ _ => rfl)))) pss_nil)
      (pss_one (ps_ret (pe_cal c__law_at (hr.mono (by omega)) rfl pass0 (pa_cons (pe_ix ix_list (pe_cal c__law_lists (hr.mono (by omega)) rfl pass0 (pa_cons (pe_ix ix_list (pv 0) (pe_ix ix_tup (pv 1) pe_int (fun _ _ => rfl)) (fun _ _ => rfl)) pa_nil)) (pe_ix ix_tup (pv 1) pe_int (fun _ _ => rfl)) (fun _ _ => rfl)) (pa_cons (pe_slice sl_tupA (pv 1) (po_some pe_int) po_none) pa_nil)))))), ?_⟩
    refine ⟨_, rfl, pr, _, rfl, .inr hpr, rfl, _, rfl, ?_⟩
    rw [List.length_map, dec_intV]
    rcases hat with ⟨i, rfl, hi⟩ | ⟨i, j, q', kind, parts, x, rfl, hi, hj, h4⟩
    · obtain ⟨v, hv, dv⟩ := ha.get' hi
      exact ifT (decide_eq_true rfl) ⟨_, rfl, _, rfl, pr, _, 0, .int (i : Int), rfl, rfl, hpr, rfl, r, _, _, v, rfl, rfl, hq, atI_nat hv, kk v H (Same.refl _) dv⟩
    · obtain ⟨v, hv, dv⟩ := ha.get' hi
      obtain ⟨tr, rfl⟩ : ∃ tr, v = .ref tr := by
        cases dv with
        | tup h1 h2 => exact ⟨_, rfl⟩
      have hrow := hok _ (List.mem_of_getElem? hi)
      have hodd := h4.odd
      refine ifF (decide_eq_false (by rw [List.length_cons, List.length_cons]; omega)) ⟨_, rfl, _, rfl, pr, _, 0, .int (i : Int), rfl, rfl, hpr, atI_zero _ _, r, _, _, .ref tr, rfl, rfl, hq, atI_nat hv, H, tr, kind, parts, rfl, Same.refl _, dv, by have := hrow.1; omega, fun e => by obtain ⟨es, h1, _⟩ := hrow.2.1 e; exact ⟨es, [], h1⟩, fun ll ws H1 s1 hll hll1 dpw => ?_⟩
      obtain ⟨xv, hxv, dxv⟩ := dpw.get' hj
      have hxm := List.mem_of_getElem? hj
      obtain ⟨hxl, hxo⟩ := hrow.2.2.2 x hxm
      obtain ⟨xs, rfl⟩ : ∃ xs, x = .list xs := by
        cases x with
        | list xs => exact ⟨xs, rfl⟩
        | _ => cases hxl
      have hpr1 := hpr.mono s1
      refine ⟨_, rfl, pr, _, 1, .int (j : Int), rfl, rfl, hpr1, atI_one _ _ _, ll, _, _, xv, rfl, rfl, .inl (.inl hll1), atI_nat hxv, _, rfl, 2, rfl, pr, _, rfl, hpr1, fun z => absurd z (cut2n _ _ _), fun _ t ht => ?_⟩
      have e2 : cutV (((i : Int) :: (j : Int) :: q').map V.int) (some 2) none = q'.map V.int := cut2 _ _ _
      rw [e2]
      have s2 := Same.new (o := .tup (q'.map V.int)) ht
      have v2 := at_new (o := .tup (q'.map V.int)) ht
      revert s2 v2
      generalize upd H1 t _ = H2
      intro s2 v2
      exact ⟨xv, t, xs, q', d, rfl, dxv.mono (s1.trans s2), hxo, .inl (.inl v2), h4, fun v H3 s3 hv3 => kk v H3 ((s1.trans s2).trans s3) hv3⟩
theorem ok_latN {f : Addr} {fd : FuncData} (F : Fun K "_law_at" "_law_at" s__law_at f fd) (T : Txt mg) (g : mg "_law_at" = some (.ref f)) (k1 : PySem.W.keepIn K (.ref f) = true) (b : Binds K fd ["_law_rows", "_law_path"] []) (c__law_lists : Cal P w K mg base CX0 1 "_law_lists" ["_law_row"] (spInnerG K)) : ∀ n : Nat, Cal P w K mg base CX0 (n + 1) "_law_at" ["_law_rows", "_law_path"] (spAt K n)
  | 0 => ⟨f, fd, g, k1, b, F.ok sc__law_at (fun vs H Q E h => by obtain ⟨rv, pr, ds, q, d, rfl, _⟩ := h; rfl) (fun cdv A outer s H vs Q E hr h => by
      obtain ⟨rv, pr, ds, q, d, _, _, h, _⟩ := h
      exact h.elim)⟩
  | n + 1 => ⟨f, fd, g, k1, b, ok_lat (k := n + 1) F T (by omega) c__law_lists (ok_latN F T g k1 b c__law_lists n)⟩
/-! ### the lists of a row, where they stand in the heap -/
def spLsB (K : PySem.W.Frag) : Sp := fun vs H Q _ => ∃ (G : Hp) (t : Addr) (kind : Str) (parts : List PyData), vs = [.ref t] ∧ Same G H ∧ InL K G (.ref t) kind parts ∧ parts.length ≤ 1000 ∧ ∀ p xs H', Same H H' → H p = none → H' p = some (.lst xs) → DpAll K G xs (innerL kind parts) → Dir G xs → Q (.ref p) H'
theorem FnOk.or {CX : CXT} {k : Nat} {f : Addr} {fd : FuncData} {ps : List Str} {sp sp' : Sp} (F : FnOk P w K mg base CX k f fd ps sp) (F' : FnOk P w K mg base CX k f fd ps sp') : FnOk P w K mg base CX k f fd ps (fun vs H Q E => sp vs H Q E ∨ sp' vs H Q E) :=
  ⟨fun vs H Q E h => h.elim (F.len vs H Q E) (F'.len vs H Q E), fun A outer s H args us vs Q E hr he hb hv hs => hs.elim (F.run A outer s H args us vs Q E hr he hb hv) (F'.run A outer s H args us vs Q E hr he hb hv)⟩
theorem ok_listsB {f : Addr} {fd : FuncData} (F : Fun K "_law_lists" "_law_lists" s__law_lists f fd) (T : Txt mg) : FnOk P w K mg base CX0 1 f fd ["_law_row"] (spLsB K) := by
  refine F.ok sc__law_lists (fun vs H Q E h => ?_) (fun cdv A outer s H vs Q E hr h => ?_)
  · obtain ⟨G, t, kind, parts, rfl, _⟩ := h
    rfl
  · obtain ⟨G, t, kind, parts, rfl, hG, ⟨t', et, hin⟩, hpl, k⟩ := h
    cases et
    unfold innerL at k hin
    refine ⟨_, (pss_cons (ps_if (pt_cmpR op_eq (pe_ix ix_tup (pv 0) pe_int (fun _ _ => rfl)) pe_str (nomark _)) (pss_one (ps_ret (pe_callTy call_list_of (by rfl) T.b_list (by decide +kernel) (pa_cons (pe_ix ix_tup (pv 0) pe_int (fun _ _ => rfl)) pa_nil)))) pss_nil)
      (pss_one (ps_ret (pe_lc (own := [("_law_part", 1)]) (g := gName 1)  rfl sc__law_lists.nd (pi_tup (pv 0)) (blkOk_by (own := [("_law_part", 1)]) (N := ["_law_row", "_law_part"]) (sc := defScope s__law_lists) (by decide +kernel)) (fun _ _ _ _ _ => (pg_name (i := 1) sc__law_lists.nd rfl (.inl rfl))) (fun _ _ _ _ _ => (pts_one (pt_val (pe_callB (id := "isinstance") (r := rIsi K) call_isi (by rfl) T.b_isinstance (by decide +kernel) (pa_cons (pv 1) (pa_cons (pe_bltn (v := .ty "list") (by rfl) T.b_list (by decide +kernel) rfl) pa_nil)))))) (fun _ _ _ _ _ => (pv 1)))))), ?_⟩
    rcases hin with ⟨e1, t2, ws, a1, a2, a3, a4⟩ | ⟨e1, vs, a1, a2, a3⟩
    · rw [if_pos e1] at k a3
      refine ⟨_, rfl, t, _, 0, _, rfl, rfl, .inl (.inl (hG _ _ a1)), atI_zero _ _, rfl, _, rfl, ?_⟩
      rw [dec_strV]
      refine ifT (decide_eq_true e1) ⟨_, rfl, t, _, 1, _, rfl, rfl, .inl (.inl (hG _ _ a1)), atI_one _ _ _, t2, ws, rfl, .inr (.inl (.inl (hG _ _ a2))), fun l hl => ?_⟩
      exact k l ws _ (Same.new hl) hl upd_same a3 a4
    · rw [if_neg e1] at k
      obtain ⟨vr, rfl, hvr⟩ : ∃ vr, vs = .str kind :: vr ∧ DpAll K G vr parts := by
        cases a2 with
        | cons h0 hr0 =>
          cases h0 with
          | str _ => exact ⟨_, rfl, hr0⟩
      have hvl := hvr.len
      have hq : SqT K H t (.str kind :: vr) := .inl (.inl (hG _ _ a1))
      refine ⟨_, rfl, t, _, 0, _, rfl, rfl, hq, atI_zero _ _, rfl, _, rfl, ?_⟩
      rw [dec_strV]
      refine ifF (decide_eq_false e1) ⟨_, rfl, t, rfl, ⟨_, hq⟩, fun D hD => ?_⟩
      refine lc_it (walk_tup (xs := .str kind :: vr)) (fun i H' => ∃ acc, H' D = some (.lst acc) ∧ acc.length ≤ i ∧ DpAll K G acc (((.str kind :: parts).take i).filter isList) ∧ Dir G acc ∧ Same H H') ⟨[], upd_same, Nat.le_refl _, .nil, fun w hw => (List.not_mem_nil hw).elim, Same.new hD⟩ (fun i H' _ p => hq.mono (let ⟨_, _, _, _, _, s⟩ := p; s)) ?_ ?_
      · rintro i x H1 H2 hi ⟨acc, hacc, hal, hdp, hdr, sm⟩ ⟨rfl, hx⟩
        obtain ⟨d, hd1, hd2⟩ := DpAll.get (.cons (.str kind) hvr) hx
        refine ⟨rfl, _, rfl, x, _, _, _, _, rfl, .ty _, ty_dp ((hd2.mono hG).mono sm), kit_list d, _, rfl, ?_⟩
        have hi' : i < 2000 := by rw [List.length_cons] at hi; omega
        have e2 : ((.str kind :: parts).take (i + 1)).filter isList = ((.str kind :: parts).take i).filter isList ++ [d].filter isList := by
          rw [TS.take_one hd1, List.filter_append]
        by_cases q : isList d = true
        · rw [q]
          refine ifT rfl ⟨_, rfl, acc, hacc, lt_sz (by omega), acc ++ [x], upd_same, by rw [List.length_append]; show acc.length + 1 ≤ _; omega, ?_, fun w hw => ?_, fun b o hb => ?_⟩
          · rw [e2, List.filter_cons_of_pos q, List.filter_nil]
            exact hdp.append (.cons hd2 .nil)
          · rcases List.mem_append.mp hw with hw | hw
            · exact hdr w hw
            · rw [List.mem_singleton.mp hw]
              exact a3 i x d hx hd1 q
          · rw [upd_ne (ne_of_none hb hD)]
            exact sm b o hb
        · rw [Bool.eq_false_iff.mpr q]
          refine ifF rfl ⟨acc, hacc, by omega, ?_, hdr, sm⟩
          rw [e2, List.filter_cons_of_neg (by rw [Bool.eq_false_iff.mpr q]; exact Bool.false_ne_true), List.filter_nil, List.append_nil]
          exact hdp
      · rintro H1 ⟨acc, hacc, _, hdp, hdr, sm⟩
        refine k D acc H1 sm hD hacc ?_ hdr
        rw [List.take_of_length_le (by rw [List.length_cons, List.length_cons]; omega)] at hdp
        exact hdp
/-! ### is_path -/
def isPathD : PyData → Bool
  | .tuple xs => xs.all isInt
  | _ => false
def spIsPath (K : PySem.W.Frag) : Sp := fun vs H Q _ => ∃ v d, vs = [v] ∧ Dp K H v d ∧ Q (.bl (isPathD d)) H
theorem sc_is_path : FnScope ["value", "item"] ["value"] (defScope s_is_path) := ⟨rfl, rfl, rfl, by decide +kernel, rfl, by decide +kernel, by decide +kernel⟩
theorem ok_is_path {f : Addr} {fd : FuncData} (F : Fun K "is_path" "is_path" s_is_path f fd) (T : Txt mg) (c_is_integer : Cal P w K mg base CX0 1 "is_integer" ["value"] (spInt K)) : FnOk P w K mg base CX0 2 f fd ["value"] (spIsPath K) := by
  refine F.ok sc_is_path (fun vs H Q E h => ?_) (fun cdv A outer s H vs Q E hr h => ?_)
  · obtain ⟨v, d, rfl, _⟩ := h
    rfl
  · obtain ⟨v, d, rfl, hd, kk⟩ := h
    refine ⟨_, (pss_cons (ps_if (pt_not (pt_val (pe_callB call_isi (by rfl) T.b_isinstance (by decide +kernel) (pa_cons (pv 0) (pa_cons (pe_bltn (v := .ty "tuple") (by rfl) T.b_tuple (by decide +kernel) rfl) pa_nil))))) (pss_one (ps_ret pe_bl)) pss_nil)
      (pss_cons (ps_for PassesOwn.never rfl (pi_tup (pv 0)) (pg_name (i := 1) sc_is_path.nd rfl (.inl rfl)) (pss_one (ps_if (pt_not (pt_val (pe_cal c_is_integer (hr.mono (by omega)) rfl pass0 (pa_cons (pv 1) pa_nil)))) (pss_one (ps_ret pe_bl)) pss_nil)))
      (pss_one (ps_ret pe_bl)))), ?_⟩
    refine ⟨_, rfl, _, _, _, _, _, rfl, .ty _, ty_dp hd, kit_tuple _, _, rfl, ?_⟩
    by_cases ht : isTup d = true
    · obtain ⟨ds, rfl⟩ : ∃ ds, d = .tuple ds := by
        cases d with
        | tuple ds => exact ⟨ds, rfl⟩
        | _ => cases ht
      cases hd with
      | @tup r xs _ hq ha =>
      have hxl := ha.len
      refine ifF rfl ⟨_, rfl, r, rfl, ⟨_, hq⟩, ?_⟩
      refine for_it (walk_tup (xs := xs)) (fun i σ H' => (∃ y1 : Option V, σ = [some (.ref r), y1]) ∧ H' = H ∧ (ds.take i).all isInt = true) ⟨⟨_, rfl⟩, rfl, rfl⟩ (fun i σ H' _ q => by rw [q.2.1]; exact hq) ?_ ?_
      · rintro i x σ H2 H1 hi ⟨⟨y1, rfl⟩, rfl, hall⟩ ⟨rfl, hx⟩
        obtain ⟨d, hd1, hd2⟩ := ha.get hx
        refine ⟨_, rfl, x, d, rfl, hd2, _, rfl, ?_⟩
        by_cases e : isInt d = true
        · refine ifF (by rw [e]; rfl) ⟨⟨_, rfl⟩, rfl, ?_⟩
          rw [TS.take_one hd1, List.all_append, hall]
          show (isInt d && true) = true
          rw [e]
          rfl
        · refine ifT (by rw [Bool.eq_false_iff.mpr e]; rfl) ?_
          have : isPathD (.tuple ds) = false := by
            show ds.all isInt = false
            rw [List.all_eq_false]
            exact ⟨d, List.mem_of_getElem? hd1, e⟩
          rw [this] at kk
          exact kk
      · rintro σ H1 ⟨⟨y1, rfl⟩, rfl, hall⟩
        rw [List.take_of_length_le (by omega)] at hall
        have : isPathD (.tuple ds) = true := hall
        rw [this] at kk
        exact kk
    · refine ifT (by rw [Bool.eq_false_iff.mpr ht]; rfl) ?_
      have : isPathD d = false := by
        cases d with
        | tuple ds => exact absurd rfl ht
        | _ => rfl
      rw [this] at kk
      exact kk
/-! ### the table of rows -/
theorem tab_keys {H : Hp} : ∀ {kvs : List (List Key × V)} {t : PT}, TabR K H kvs t → kvs.map (·.1) = (t.map (·.1)).map kI
  | [], [], _ => rfl
  | (k, v) :: r, (p, d) :: t, ⟨h1, _, h3⟩ => by
    rw [List.map_cons, List.map_cons, List.map_cons, tab_keys h3]
    show k :: _ = _
    rw [h1]
theorem tab_val {H : Hp} {p : List Int} {d : PyData} : ∀ {kvs : List (List Key × V)} {t : PT}, TabR K H kvs t → (t.map (·.1)).Nodup → (p, d) ∈ t → ∃ v, valV kvs (kI p) = some v ∧ Dp K H v d
  | [], [], _, _, hm => (List.not_mem_nil hm).elim
  | (k, v) :: r, (q, e) :: t, ⟨h1, h2, h3⟩, hn, hm => by
    obtain ⟨n1, n2⟩ := List.nodup_cons.mp hn
    rcases List.mem_cons.mp hm with hm | hm
    · injection hm with h4 h5
      subst h4
      subst h5
      exact ⟨v, valV_pos h1, h2⟩
    · obtain ⟨v', hv, dv⟩ := tab_val h3 n2 hm
      refine ⟨v', ?_, dv⟩
      rw [valV_neg]
      · exact hv
      · intro z
        have : q = p := kI_inj (h1.symm.trans z)
        subst this
        exact n1 (List.mem_map.mpr ⟨(q, d), hm, rfl⟩)
theorem tab_none {H : Hp} {p : List Int} : ∀ {kvs : List (List Key × V)} {t : PT}, TabR K H kvs t → p ∉ t.map (·.1) → valV kvs (kI p) = none
  | [], [], _, _ => rfl
  | (k, v) :: r, (q, e) :: t, ⟨h1, h2, h3⟩, hn => by
    rw [List.map_cons, List.mem_cons, not_or] at hn
    rw [valV_neg]
    · exact tab_none h3 hn.2
    · intro z
      exact hn.1 (kI_inj (h1.symm.trans z)).symm
theorem pg_tab {H : Hp} {A : PgA} {g : Pg} (O : PgO K H A g) : ∃ kvs, H A.rt = some (.dT kvs) ∧ TabR K H kvs (pathsL 5 g.rows []) := by
  obtain ⟨kvs, h1, h2⟩ := O.tb.rt
  rw [addL_len] at h2
  exact ⟨kvs, h1, h2⟩
variable {C CA : Addr}
def spPathsM (K : PySem.W.Frag) (C : Addr) : Sp := fun vs H Q _ => ∃ A g, vs = [.ref A.x] ∧ A.C = C ∧ PgO K H A g ∧ ∀ (l : Addr) (qs : List Addr) H', Same H H' → H l = none → H' l = some (.lst (qs.map V.ref)) → TupsAt H' qs ((pathsL 5 g.rows []).map (·.1)) → Q (.ref l) H'
theorem sc_Program_paths : FnScope ["self"] ["self"] (defScope s_Program_paths) := ⟨rfl, rfl, rfl, by decide +kernel, rfl, by decide +kernel, by decide +kernel⟩
theorem ok_ppaths {f : Addr} {fd : FuncData} (F : Fun K "paths" "Program.paths" s_Program_paths f fd) (T : Txt mg) (pc : PgC K C) : FnOk P w K mg base CX0 1 f fd ["self"] (spPathsM K C) := by
  refine F.ok sc_Program_paths (fun vs H Q E h => ?_) (fun cdv A outer s H vs Q E hr h => ?_)
  · obtain ⟨A, g, rfl, _⟩ := h
    rfl
  · obtain ⟨A, g, rfl, rfl, O, kk⟩ := h
    obtain ⟨kvs, h1, h2⟩ := pg_tab O
    refine ⟨_, (pss_one (ps_ret (pe_callB (call_sortedKVT rfl) (by rfl) T.b_sorted (by decide +kernel) (pa_cons (pe_bm0 PySem.F.plainAttrs_dict PySem.F.slot_dict_keys PySem.F.type_dict_keys mt_keysVT (pe_fld (pv 0) rfl)) pa_nil)))), ?_⟩
    refine ⟨_, rfl, _, _, _, _, _, rfl, O.ob, pc.cls, pc.n8, rfl, .inr (.inr (.inl ⟨rfl, .inr ⟨kvs, h1⟩⟩)), A.rt, kvs, rfl, rfl, .inl h1, fun p hp => ?_⟩
    have s1 := Same.new (o := keysO p A.rt) hp
    have v1 := at_new (o := keysO p A.rt) hp
    revert s1 v1
    generalize upd H p _ = H1
    intro s1 v1
    refine ⟨p, A.rt, kvs, (pathsL 5 g.rows []).map (fun e : List Int × PyData => e.1), rfl, v1, .inl (s1 _ _ h1), tab_keys h2, fun k hk => paths_ne hk, (paths_good 5 g.rows []).1, fun qs q ta hq => ?_⟩
    have s2 := Same.new (o := .lst (qs.map V.ref)) hq
    have qH : H q = none := by
      cases z : H q with
      | none => rfl
      | some o => rw [s1 _ _ z] at hq; cases hq
    exact kk q qs _ (s1.trans s2) qH upd_same (ta_mono s2 ta)
/-- InvalidArgument, raised -/
def XArg (H : Hp) (d : Addr) (part : Str) : Prop := H d = some (.xd [("part", .str part)])
structure TxtA (P : Program) (w : World) (K : PySem.W.Frag) (mg : Str → Option Value) (CA : Addr) : Prop extends Txt mg where
  g_InvalidArgument : mg "InvalidArgument" = some (.ref CA)
  k_InvalidArgument : PySem.W.keepIn K (.ref CA) = true
  mk_InvalidArgument : XMk P w K CA 1 [] (fun vs _ => [("part", vs.headD .non)])
  r_InvalidArgument : ∀ (M : Model) (h : Heap), K.In h → PySem.W.Looks M h (isSubtype (.ref CA) (.type "BaseException")) true ∧ PySem.W.Looks M h (typeOf (.ref CA)) (.type "type")
def spRowAt (K : PySem.W.Frag) (C CA : Addr) : Sp := fun vs H Q X => ∃ A g v d, vs = [.ref A.x, v] ∧ A.C = C ∧ PgO K H A g ∧ rowsOk 5 g.rows ∧ wts g.rows ≤ 30000 ∧ Dp K H v d ∧ (isPathD d = true → ∃ (pr : Addr) (q : List Int), v = .ref pr ∧ H pr = some (.tup (q.map V.int)) ∧ d = .tuple (q.map .int)) ∧
  (∀ (q : List Int) (row : PyData), d = .tuple (q.map .int) → (q, row) ∈ pathsL 5 g.rows [] → ∀ kind parts v' H', row = .tuple (.str kind :: parts) → Same H H' → Dp K (cutH (LstAt H) H') v' row → (innerL kind parts = [] ∨ InL K (cutH (LstAt H) H') v' kind parts) → Q v' H') ∧
  (isPathD d = false ∨ (∃ q : List Int, d = .tuple (q.map .int) ∧ q ∉ (pathsL 5 g.rows []).map (·.1)) → ∀ H' dd, Same H H' → XArg H' dd "path" → X (.ref CA) (some dd) H')
end
end Op
set_option pp.maxSteps 1500
namespace Op
open PySem L2 PyProof.Rows
/-- a value that is no path of a row -/
def BadV (K : PySem.W.Frag) (H : Hp) (rows : List PyData) (v : V) : Prop := ∃ d, Dp K H v d ∧ (isPathD d = false ∨ ∃ (pr : Addr) (q : List Int), v = .ref pr ∧ H pr = some (.tup (q.map V.int)) ∧ d = .tuple (q.map .int) ∧ q ∉ (pathsL 5 rows []).map (·.1))
theorem BadV.mono {K : PySem.W.Frag} {H H' : Hp} {rows : List PyData} {v : V} (h : BadV K H rows v) (s : Same H H') : BadV K H' rows v := by
  obtain ⟨d, hd, h⟩ := h
  refine ⟨d, hd.mono s, ?_⟩
  rcases h with h | ⟨pr, q, h1, h2, h3, h4⟩
  · exact .inl h
  · exact .inr ⟨pr, q, h1, s _ _ h2, h3, h4⟩
structure TxtR (P : Program) (w : World) (K : PySem.W.Frag) (mg : Str → Option Value) (CA CI CR CN CO : Addr) : Prop extends TxtA P w K mg CA where
  g_InvalidProgram : mg "InvalidProgram" = some (.ref CI)
  g_RunError : mg "RunError" = some (.ref CR)
  g_InputError : mg "InputError" = some (.ref CN)
  g_OpenError : mg "OpenError" = some (.ref CO)
  k1 : PySem.W.kitOne K (.ref CA) (.ref CI) = some false
  k2 : PySem.W.kitOne K (.ref CA) (.ref CR) = some false
  k3 : PySem.W.kitOne K (.ref CA) (.ref CN) = some true
  k4 : PySem.W.kitOne K (.ref CA) (.ref CO) = some true
  xa : XAsk K CA
  xf : XfC K CA
  n1 : PySem.W.findIn K (.ref CA) "part" = some none
  hex : PySem.W.exmOne K (.ref CA) (.ref CA) = some true
theorem set2 {σ : L2.St} {v : V} (h : σ.length = 3) : (σ.set 2 (some v))[2]? = some (some v) := by
  rw [List.getElem?_set_self (by omega)]
section
variable {P : Program} {w : World} {K : PySem.W.Frag} {mg : Str → Option Value} {base : Heap} {C CA CI CR CN CO : Addr}
theorem sc_Program_row_at : FnScope ["self", "path"] ["self", "path"] (defScope s_Program_row_at) := ⟨rfl, rfl, rfl, by decide +kernel, rfl, by decide +kernel, by decide +kernel⟩
theorem ok_prow_at {f : Addr} {fd : FuncData} (F : Fun K "row_at" "Program.row_at" s_Program_row_at f fd) (T : TxtA P w K mg CA) (pc : PgC K C) (c_is_path : Cal P w K mg base CX0 2 "is_path" ["value"] (spIsPath K)) (c_copy_row : Cal P w K mg base CX0 10 "copy_row" ["row"] (spCRowL K 4)) : FnOk P w K mg base (L2N.CX P w) 11 f fd ["self", "path"] (spRowAt K C CA) := by
  refine F.okN sc_Program_row_at (fun vs H Q E h => ?_) (fun cdv A outer s H vs Q E hr h => ?_)
  · obtain ⟨A, g, v, d, rfl, _⟩ := h
    rfl
  · obtain ⟨A, g, v, d, rfl, rfl, O, hok, hw, hd, hpd, kg, kb⟩ := h
    have hu := hu_of hr
    obtain ⟨kvs, h1, h2⟩ := pg_tab O
    refine ⟨_, (pss_cons (ps_if (PW.pt (pw_or (pt_not (pt_val (pe_cal c_is_path (hr.mono (by omega)) rfl pass0 (pa_cons (pv 1) pa_nil)))) (pw_or1 (pt_cmp (pc_dnotin hu (pv 1) (pe_fld (pv 0) rfl)))))) (pss_one (L2N.ps_raise rfl (L2N.takes_of rfl rfl rfl rfl) (pmk_xN T.mk_InvalidArgument hr rfl T.g_InvalidArgument T.k_InvalidArgument T.r_InvalidArgument (pa_cons pe_str pa_nil)))) pss_nil)
      (pss_one (ps_ret (pe_cal c_copy_row (hr.mono (by omega)) rfl pass0 (pa_cons (pe_dget hu (pe_fld (pv 0) rfl) (pv 1) (fun _ _ => rfl)) pa_nil))))), ?_⟩
    refine ⟨_, rfl, v, d, rfl, hd, _, rfl, ?_⟩
    by_cases hp : isPathD d = true
    · obtain ⟨pr, q, rfl, hpr, rfl⟩ := hpd hp
      have hdk : H pr = some (.tup ((kI q).map kV)) := by rw [kI_kV]; exact hpr
      refine ifF (by rw [hp]; rfl) ⟨_, rfl, _, rfl, _, _, _, _, _, rfl, O.ob, pc.cls, pc.n8, rfl, A.rt, _, rfl, DGet.t (k := kI q) h1 hdk, _, rfl, ?_⟩
      by_cases hq : q ∈ (pathsL 5 g.rows []).map (·.1)
      · obtain ⟨⟨q', row⟩, hm, rfl⟩ := List.mem_map.mp hq
        obtain ⟨v, hv, dv⟩ := tab_val h2 (paths_nodup 5 g.rows []) hm
        obtain ⟨q2, e2, hat⟩ := paths_at 5 g.rows [] _ hm
        obtain ⟨r1, r2⟩ := hat.row hok (m := 4) (by decide)
        refine ifF (by rw [show (q', row).1 = q' from rfl, hv]; rfl) ⟨_, rfl, _, _, _, _, _, rfl, O.ob, pc.cls, pc.n8, rfl, _, rfl, A.rt, v, rfl, ?_, v, row, rfl, dv, r1, by have : wt row ≤ wts g.rows := r2; omega, fun kind parts v' H' e s' dv' hin => kg q' row rfl hm kind parts v' H' e s' dv' hin⟩
        rw [← hv]
        exact DGet.t (k := kI q') h1 hdk
      · refine ifT (by rw [tab_none h2 hq]; rfl) ⟨rfl, fun dd hdd => kb (.inr ⟨q, rfl, hq⟩) _ dd (Same.new hdd) upd_same⟩
    · exact ifT (by rw [Bool.eq_false_iff.mpr hp]; rfl) (ifT rfl ⟨rfl, fun dd hdd => kb (.inl (Bool.eq_false_iff.mpr hp)) _ dd (Same.new hdd) upd_same⟩)
/-- _law_same of two texts, within an except suite -/
def spSameS : Sp := fun vs H Q _ => ∃ z : Str, vs = [.str z, .str z] ∧ ∀ H', Same H H' → Q (.bl true) H'
theorem ok_sameH {f : Addr} {fd : FuncData} (F : Fun K "_law_same" "_law_same" s__law_same f fd) (T : Txt mg) : L2H.FnH P w K mg base CX0 1 f fd ["_law_told", "_law_due"] spSameS := by
  refine F.okH sc__law_same (fun vs H Q E h => ?_) (fun cdv A outer s H vs Q E p hr h => ?_)
  · obtain ⟨z, rfl, _⟩ := h
    rfl
  · obtain ⟨z, rfl, k⟩ := h
    refine ⟨_, (pss_cons (ps_if (pt_val (pe_callB call_isiT (by rfl) T.b_isinstance (by decide +kernel) (pa_cons (pv 1) (pa_cons (pe_tup (pa_cons (pe_bltn (v := .ty "tuple") (by rfl) T.b_tuple (by decide +kernel) rfl) (pa_cons (pe_bltn (v := .ty "list") (by rfl) T.b_list (by decide +kernel) rfl) pa_nil))) pa_nil)))) pss_never pss_nil)
      (pss_cons (ps_if (PW.pt (pw_or (pt_cmpR op_isN (pv 1) pe_non (nomark _)) (pw_or1 (pt_cmpR op_isN (pv 0) pe_non (nomark _))))) (pss_one (ps_ret (pe_and (pe_cmpR op_isN (pv 1) pe_non (nomark _)) (pe_one (pe_cmpR op_isN (pv 0) pe_non (nomark _)))))) pss_nil)
      (pss_cons (ps_if (pt_cmpR op_ne (pe_callB call_isi (by rfl) T.b_isinstance (by decide +kernel) (pa_cons (pv 0) (pa_cons (pe_bltn (v := .ty "bool") (by rfl) T.b_bool (by decide +kernel) rfl) pa_nil))) (pe_callB call_isi (by rfl) T.b_isinstance (by decide +kernel) (pa_cons (pv 1) (pa_cons (pe_bltn (v := .ty "bool") (by rfl) T.b_bool (by decide +kernel) rfl) pa_nil))) (nomark _)) (pss_one (ps_ret pe_bl)) pss_nil)
      (pss_cons (ps_if (pt_cmpR op_ne (pe_callB call_isi (by rfl) T.b_isinstance (by decide +kernel) (pa_cons (pv 0) (pa_cons (pe_bltn (v := .ty "str") (by rfl) T.b_str (by decide +kernel) rfl) pa_nil))) (pe_callB call_isi (by rfl) T.b_isinstance (by decide +kernel) (pa_cons (pv 1) (pa_cons (pe_bltn (v := .ty "str") (by rfl) T.b_str (by decide +kernel) rfl) pa_nil))) (nomark _)) (pss_one (ps_ret pe_bl)) pss_nil)
      (pss_one (ps_ret (pe_and (pe_callB call_isiT (by rfl) T.b_isinstance (by decide +kernel) (pa_cons (pv 0) (pa_cons (pe_tup (pa_cons (pe_bltn (v := .ty "int") (by rfl) T.b_int (by decide +kernel) rfl) (pa_cons (pe_bltn (v := .ty "str") (by rfl) T.b_str (by decide +kernel) rfl) pa_nil))) pa_nil))) (pe_one (pe_cmpR op_eq (pv 0) (pv 1) (nomark _)))))))))), ?_⟩
    have hz : ∀ G : Hp, Dp K G (.str z) (.str z) := fun G => .str z
    refine ⟨_, rfl, sz2 _ _, fun t1 g1 => ?_⟩
    have s1 := Same.new (o := .tup [.ty "tuple", .ty "list"]) g1
    have l1 := at_new (o := .tup [.ty "tuple", .ty "list"]) g1
    revert s1 l1
    generalize upd _ t1 _ = H1
    intro s1 l1
    refine ⟨_, t1, _, _, _, _, rfl, l1, .cons (.ty _) (.cons (.ty _) .nil), ty_dp (hz _), kit_seq (.str z), _, rfl, ifF rfl ?_⟩
    refine ⟨_, rfl, rfl, _, rfl, ifF rfl ⟨_, rfl, rfl, _, rfl, ifF rfl ?_⟩⟩
    refine ⟨_, rfl, _, _, _, _, _, rfl, .ty _, ty_dp (hz _), kit_bool (.str z), _, rfl, _, _, _, _, _, rfl, .ty _, ty_dp (hz _), kit_bool (.str z), rfl, _, rfl, ifF ?_ ?_⟩
    · rfl
    refine ⟨_, rfl, _, _, _, _, _, rfl, .ty _, ty_dp (hz _), kit_str (.str z), _, rfl, _, _, _, _, _, rfl, .ty _, ty_dp (hz _), kit_str (.str z), rfl, _, rfl, ifF ?_ ?_⟩
    · rfl
    refine ⟨_, rfl, sz2 _ _, fun t2 g2 => ?_⟩
    have s2 := Same.new (o := .tup [.ty "int", .ty "str"]) g2
    have l2 := at_new (o := .tup [.ty "int", .ty "str"]) g2
    revert s2 l2
    generalize upd _ t2 _ = H2
    intro s2 l2
    refine ⟨_, t2, _, _, _, _, rfl, l2, .cons (.ty _) (.cons (.ty _) .nil), ty_dp (hz _), kit_intstr (.str z) rfl, _, rfl, ifT rfl ?_⟩
    refine ⟨_, rfl, _, rfl, rfl, ?_⟩
    rw [decide_eq_true rfl]
    exact k H2 (s1.trans s2)
def spRefused (K : PySem.W.Frag) (C : Addr) : Sp := fun vs H Q _ => ∃ A g v, vs = [.ref A.x, v] ∧ A.C = C ∧ PgO K H A g ∧ rowsOk 5 g.rows ∧ wts g.rows ≤ 30000 ∧ BadV K H g.rows v ∧ ∀ H', Same H H' → Q (.bl true) H'
theorem sc__law_refused : FnScope ["_law_program_here", "_law_value", "e"] ["_law_program_here", "_law_value"] (defScope s__law_refused) := ⟨rfl, rfl, rfl, by decide +kernel, rfl, by decide +kernel, by decide +kernel⟩
theorem ok_refused {f : Addr} {fd : FuncData} (F : Fun K "_law_refused" "_law_refused" s__law_refused f fd) (T : TxtR P w K mg CA CI CR CN CO) (pc : PgC K C) (m_row_at : Mcal P w K mg base (L2N.CX P w) 11 C "row_at" ["self", "path"] (spRowAt K C CA)) {fs : Addr} {fds : FuncData} (Fs : L2H.FnH P w K mg base CX0 1 fs fds ["_law_told", "_law_due"] spSameS) (gs : mg "_law_same" = some (.ref fs)) (ks : PySem.W.keepIn K (.ref fs) = true) (bs : Binds K fds ["_law_told", "_law_due"] []) : FnOk P w K mg base CX0 13 f fd ["_law_program_here", "_law_value"] (spRefused K C) := by
  refine F.ok sc__law_refused (fun vs H Q E h => ?_) (fun cdv A0 outer s H vs Q E hr h => ?_)
  · obtain ⟨A, g, v, rfl, _⟩ := h
    rfl
  · obtain ⟨A, g, v, rfl, rfl, O, hok, hw, hb, k⟩ := h
    have c_Program := pc.cls
    refine ⟨_, (pss_cons (L2N.ps_try_as (i := 2) rfl rfl sc__law_refused.nd rfl rfl ⟨rfl, by decide, .inl T.g_InvalidArgument⟩ takes0N
        (fun W pn xe tk own => pss_one (ps_expr (pe_mcal (pv 0) c_Program m_row_at (hr.mono (by omega)) (passes_lenN (E := fun cls d H => ∀ σ : L2.St, σ.length = 3 → W cls d σ H) tk (fun _ _ σ _ hl h => h σ hl)) (pa_cons (pv 1) pa_nil))))
        (fun a oe cls d pn hz hf => pss_cons (ps_if (PW.pt (pw_or (pt_val (pe_callB (call_isEd T.xa hz.zc hf) (by rfl) T.b_isinstance (by decide +kernel) (pa_cons (pv 2) (pa_cons (pe_gref rfl T.g_InvalidProgram) pa_nil)))) (pw_or1 (pt_val (pe_callB (call_isEd T.xa hz.zc hf) (by rfl) T.b_isinstance (by decide +kernel) (pa_cons (pv 2) (pa_cons (pe_gref rfl T.g_RunError) pa_nil))))))) (pss_one (ps_ret pe_bl)) pss_nil)
          (pss_one (ps_ret (pe_and (pe_callB (call_isEd T.xa hz.zc hf) (by rfl) T.b_isinstance (by decide +kernel) (pa_cons (pv 2) (pa_cons (pe_gref rfl T.g_InputError) pa_nil))) (pe_and (pe_callB (call_isEd T.xa hz.zc hf) (by rfl) T.b_isinstance (by decide +kernel) (pa_cons (pv 2) (pa_cons (pe_gref rfl T.g_OpenError) pa_nil))) (pe_one (L2H.pe_callH (E := fun _ => E0) Fs ⟨(hr.mono (show 1 ≤ 12 by decide)).dp, (hr.mono (show 1 ≤ 12 by decide)).un⟩ ⟨(a, oe), ⟨rfl, let ⟨vs, e⟩ := hf; ⟨vs, e, hz.2.2 vs e⟩⟩, List.mem_cons_self⟩ rfl gs ks bs (fun _ _ _ _ _ _ _ h => h.elim) (pa_cons (pe_xf T.xf T.n1 hz.zc hf (pv 2)) (pa_cons pe_str pa_nil))))))))))
      (pss_one (ps_ret pe_bl))), ?_⟩
    obtain ⟨d, hd, hbad⟩ := hb
    refine ⟨_, rfl, A.x, A.dx, _, rfl, O.ob, rfl, _, rfl, A, g, v, d, rfl, rfl, O, hok, hw, hd, fun hp => ?_, fun q row e hm kind parts v' H' _ s' dv _ => ?_, fun _ H' dd s' hx σ hl => ?_⟩
    · rcases hbad with h | ⟨pr, q, h1, h2, h3, _⟩
      · rw [h] at hp; cases hp
      · exact ⟨pr, q, h1, h2, h3⟩
    · exfalso
      subst e
      rcases hbad with h | ⟨pr, q2, h1, h2, h3, h4⟩
      · have : isPathD (.tuple (q.map .int)) = true := by
          show (q.map PyData.int).all isInt = true
          exact List.all_eq_true.mpr fun x hx => by
            obtain ⟨n, _, rfl⟩ := List.mem_map.mp hx
            rfl
        rw [h] at this
        cases this
      · have : q = q2 := by
          injection h3 with h3
          clear hm h4 h2 h1 hd
          induction q generalizing q2 with
          | nil => cases q2 with
            | nil => rfl
            | cons _ _ => cases h3
          | cons a r ih => cases q2 with
            | nil => cases h3
            | cons b t =>
              injection h3 with h5 h6
              injection h5 with h5
              rw [h5, ih t h6]
        subst this
        exact h4 (List.mem_map.mpr ⟨(q, row), hm, rfl⟩)
    · refine ⟨true, T.hex, fun _ a hfree => ?_, nofun⟩
      refine ⟨.ref a, set2 hl, _, _, _, dd, _, rfl, .own _, rfl, rfl, hx, T.k1, _, rfl, ifF rfl ⟨.ref a, set2 hl, _, _, _, dd, _, rfl, .own _, rfl, rfl, hx, T.k2, _, rfl, ifF rfl ?_⟩⟩
      refine ⟨.ref a, set2 hl, _, _, _, dd, _, rfl, .own _, rfl, rfl, hx, T.k3, _, rfl, ifT rfl ⟨.ref a, set2 hl, _, _, _, dd, _, rfl, .own _, rfl, rfl, hx, T.k4, _, rfl, ifT rfl ?_⟩⟩
      exact ⟨.ref a, set2 hl, rfl, rfl, dd, _, _, rfl, hx, rfl, "path", rfl, fun H2 s2 => k H2 (s'.trans s2)⟩
end
end Op
set_option pp.maxSteps 1500
namespace Op
open PySem L2 PyProof.Rows
theorem dp_ints {K : PySem.W.Frag} {H : Hp} : ∀ ns : List Int, DpAll K H (ns.map V.int) (ns.map PyData.int)
  | [] => .nil
  | b :: r => .cons (.int b) (dp_ints r)
/-! ### what is no path -/
def keysOf (rows : List PyData) : List (List Int) := (pathsL 5 rows []).map (·.1)
theorem key_f {rows : List PyData} (hw : wts rows ≤ 30000) {q : List Int} (h : q ∈ keysOf rows) : q.length % 2 = 1 ∧ ∀ x ∈ q, 0 ≤ x ∧ x < 30000 := by
  obtain ⟨e, he, rfl⟩ := List.mem_map.mp h
  obtain ⟨q, e1, hat⟩ := paths_at 5 rows [] e he
  rw [List.nil_append] at e1
  rw [e1]
  exact ⟨hat.odd, hat.bd (B := 30000) hw⟩
section
variable {K : PySem.W.Frag} {H : Hp} {rows : List PyData} {t : Addr}
theorem bad_q {q : List Int} (h : H t = some (.tup (q.map V.int))) (hn : q ∉ keysOf rows) : BadV K H rows (.ref t) := ⟨.tuple (q.map .int), .tup (.inl (.inl h)) (dp_ints q), .inr ⟨t, q, rfl, h, rfl, hn⟩⟩
theorem bad_x {a b : List Int} {x : V} {d : PyData} (h : H t = some (.tup (a.map V.int ++ [x] ++ b.map V.int))) (hx : Dp K H x d) (hd : isInt d = false) : BadV K H rows (.ref t) := by
  refine ⟨.tuple (a.map .int ++ [d] ++ b.map .int), .tup (.inl (.inl h)) (((dp_ints a).append (.cons hx .nil)).append (dp_ints b)), .inl ?_⟩
  show (a.map PyData.int ++ [d] ++ b.map PyData.int).all isInt = false
  rw [List.all_append, List.all_append]
  show (_ && (isInt d && true) && _) = false
  rw [hd, Bool.false_and, Bool.and_false, Bool.false_and]
theorem bad_x1 {a : List Int} {x : V} {d : PyData} (h : H t = some (.tup (a.map V.int ++ [x]))) (hx : Dp K H x d) (hd : isInt d = false) : BadV K H rows (.ref t) := bad_x (a := a) (b := []) (by rw [h]; show _ = some (HO.tup (_ ++ [])); rw [List.append_nil]) hx hd
theorem cut_drop (xs : List V) (n : Nat) : cutV xs (some (n : Int)) none = xs.drop n := by
  unfold cutV
  rw [HT.sIx_nat, HT.sIx_none]
  rcases Nat.le_total n xs.length with h | h
  · rw [Nat.min_eq_left h, List.take_of_length_le (by rw [List.length_drop]; exact Nat.le_refl _)]
  · rw [Nat.min_eq_right h, Nat.sub_self, List.take_zero, List.drop_eq_nil_of_le h]
theorem rd_cat1 {Q : VK} {σ : L2.St} {j : Nat} {a : Addr} {xs : List V} {tx : TE} {x : V} (h2 : σ[j]? = some (some (.ref a))) (ha : H a = some (.tup xs)) (hx : ∀ Q' : VK, Q' x H → tx σ H Q') (hl : xs.length ≤ 1000) (k : ∀ t H', Same H H' → H' t = some (.tup (xs ++ [x])) → Q (.ref t) H') : tOp (rCatA K) (tVar j) (tTup (tCons tx tNil)) σ H Q :=
  ⟨_, h2, hx _ ⟨sz1 _, fun t ht => cat_trk (Same.new ht _ _ ha) upd_same (sz_lit (by show xs.length + 1 ≤ 100000; omega)) fun t' H' s' h' => k t' H' ((Same.new ht).trans s') h'⟩⟩
end
def spWrong (K : PySem.W.Frag) : Sp := fun vs H Q _ => ∃ (rows : List PyData) (pr : Addr) (k : List Int), vs = [.ref pr] ∧ H pr = some (.tup (k.map V.int)) ∧ k.length % 2 = 1 ∧ k.length ≤ 100 ∧ (∀ x ∈ k, 0 ≤ x ∧ x < 30000) ∧ wts rows ≤ 30000 ∧
  ∀ (l : Addr) (vs : List V) H', Same H H' → H l = none → H' l = some (.lst vs) → (∀ v ∈ vs, BadV K H' rows v) → vs.length ≤ 1000 → Q (.ref l) H'
section
variable {P : Program} {w : World} {K : PySem.W.Frag} {mg : Str → Option Value} {base : Heap}
theorem sc__law_wrong : FnScope ["_law_path", "_law_last", "_law_short", "_law_values", "_law_k"] ["_law_path"] (defScope s__law_wrong) := ⟨rfl, rfl, rfl, by decide +kernel, rfl, by decide +kernel, by decide +kernel⟩
theorem ok_wrong {f : Addr} {fd : FuncData} (F : Fun K "_law_wrong" "_law_wrong" s__law_wrong f fd) (T : Txt mg) : FnOk P w K mg base CX0 1 f fd ["_law_path"] (spWrong K) := by
  refine F.ok sc__law_wrong (fun vs H Q E h => ?_) (fun cdv A outer s H vs Q E hr h => ?_)
  · obtain ⟨rows, pr, k, rfl, _⟩ := h
    rfl
  · obtain ⟨rows, pr, k, rfl, hpr, hodd, hkl, hkb, hw, kk⟩ := h
    obtain ⟨sh, la, rfl⟩ : ∃ sh la, k = sh ++ [la] := by
      rcases List.eq_nil_or_concat k with e | ⟨a, b, e⟩
      · rw [e] at hodd; exact absurd hodd (by decide)
      · exact ⟨a, b, by rw [e, List.concat_eq_append]⟩
    have hla := hkb la (by simp)
    have hshl : (sh ++ [la]).length = sh.length + 1 := by rw [List.length_append]; rfl
    rw [hshl] at hodd hkl
    have hlen : (((sh ++ [la]).map V.int).length : Int) - 1 = ((sh.length : Nat) : Int) := by rw [List.length_map, hshl]; omega
    have nkey : ∀ q : List Int, (q.length % 2 = 0 ∨ ∃ x ∈ q, x < 0 ∨ 30000 ≤ x) → q ∉ keysOf rows := fun q hq hm => by
      obtain ⟨h1, h2⟩ := key_f hw hm
      rcases hq with hq | ⟨x, hx, hq⟩
      · omega
      · have := h2 x hx
        omega
    have hS : ∀ {G : Hp}, Same H G → SqT K G pr ((sh ++ [la]).map V.int) := fun s => .inl (.inl (s _ _ hpr))
    refine ⟨_, (pss_cons (ps_set (i := 1) sc__law_wrong.nd rfl (.inl rfl) (pe_ix ix_tup (pv 0) (pe_op op_sub (pe_callB call_len_seq (by rfl) T.b_len (by decide +kernel) (pa_cons (pv 0) pa_nil)) pe_int) (fun _ _ => rfl)))
      (pss_cons (ps_set (i := 2) sc__law_wrong.nd rfl (.inl rfl) (pe_slice sl_tupA (pv 0) po_none (po_some (pe_op op_sub (pe_callB call_len_seq (by rfl) T.b_len (by decide +kernel) (pa_cons (pv 0) pa_nil)) pe_int))))
      (pss_cons (ps_set (i := 3) sc__law_wrong.nd rfl (.inl rfl) (pe_lst (pa_cons pe_non (pa_cons pe_str (pa_cons pe_int (pa_cons (pe_lst pa_nil) (pa_cons (pe_tup pa_nil) (pa_cons (pe_callTy call_list_of (by rfl) T.b_list (by decide +kernel) (pa_cons (pv 0) pa_nil)) (pa_cons (pv 2) (pa_cons (pe_op op_catA (pv 0) (pe_tup (pa_cons pe_int pa_nil))) (pa_cons (pe_op op_catA (pv 2) (pe_tup (pa_cons (pe_op op_add (pv 1) (pe_op op_pow pe_int pe_int)) pa_nil))) (pa_cons (pe_op op_catA (pv 2) (pe_tup (pa_cons (pe_un un_neg pe_int) pa_nil))) pa_nil))))))))))))
      (pss_cons (ps_set (i := 3) sc__law_wrong.nd rfl (.inl rfl) (pe_op op_cat (pv 3) (pe_lst (pa_cons (pe_op op_catA (pv 2) (pe_tup (pa_cons (pe_op op_sub (pe_un un_neg pe_int) (pv 1)) pa_nil))) (pa_cons (pe_op op_catA (pv 2) (pe_tup (pa_cons pe_str pa_nil))) (pa_cons (pe_op op_catA (pv 2) (pe_tup (pa_cons pe_non pa_nil))) (pa_cons (pe_tup (pa_cons (pv 0) pa_nil)) (pa_cons (pe_op op_catA (pv 2) (pe_tup (pa_cons (pe_op op_add (pe_op op_pow pe_int pe_int) (pv 1)) pa_nil))) pa_nil))))))))
      (pss_cons (ps_for PassesOwn.never rfl (pi_range1 (by rfl) T.b_range (pa_cons (pe_callB call_len_seq (by rfl) T.b_len (by decide +kernel) (pa_cons (pv 0) pa_nil)) pa_nil)) (pg_name (i := 4) sc__law_wrong.nd rfl (.inl rfl)) (pss_one (ps_if (pt_cmpR op_in_seq (pe_ix ix_tup (pv 0) (pv 4) (fun _ _ => rfl)) (pe_tup (pa_cons pe_int (pa_cons pe_int pa_nil))) (by rfl)) (pss_one (ps_expr (pe_bm PySem.F.plainAttrs_list PySem.F.slot_list_append PySem.F.type_list_append mt_append (pv 3) (pa_cons (pe_op op_catA (pe_op op_catA (pe_slice sl_tupA (pv 0) po_none (po_some (pv 4))) (pe_tup (pa_cons (pe_cmpR op_eq (pe_ix ix_tup (pv 0) (pv 4) (fun _ _ => rfl)) pe_int (nomark _)) pa_nil))) (pe_slice sl_tupA (pv 0) (po_some (pe_op op_add (pv 4) pe_int)) po_none)) pa_nil)))) pss_nil)))
      (pss_one (ps_ret (pv 3)))))))), ?_⟩
    refine ⟨_, rfl, _, rfl, pr, _, rfl, .inr (hS (Same.refl _)), _, _, rfl, rfl, pr, _, ((sh.length : Nat) : Int), .int la, rfl, congrArg V.int hlen, hS (Same.refl _), atI_nat (by rw [List.getElem?_map, List.getElem?_append_right (Nat.le_refl _), Nat.sub_self]; rfl), ?_⟩
    refine ⟨_, rfl, _, rfl, pr, _, rfl, .inr (hS (Same.refl _)), _, _, rfl, rfl, ((sh.length : Nat) : Int), congrArg V.int hlen, pr, _, rfl, hS (Same.refl _), fun z => ?_, fun _ st hst => ?_⟩
    · exfalso
      have z2 := z.2
      rw [HT.sIx_nat, List.length_map, hshl] at z2
      omega
    rw [cut_take, ← List.map_take, List.take_left]
    have s1 := Same.new (o := .tup (sh.map V.int)) hst
    have v1 := at_new (o := .tup (sh.map V.int)) hst
    revert s1 v1
    generalize upd H st _ = H1
    intro s1 v1
    -- the first ten
    refine ⟨sz_lit (by decide), fun e1 he1 => ⟨sz_lit (by decide), fun t1 ht1 => ?_⟩⟩
    have q1 := Same.new (o := .lst []) he1
    have q2 := Same.new (o := .tup []) ht1
    have b3 : BadV K (upd (upd H1 e1 (.lst [])) t1 (.tup [])) rows (.ref e1) := ⟨.list [], .lst (.inl (.inl (q2 _ _ (at_new (o := .lst []) he1)))) .nil, .inl rfl⟩
    have b4 : BadV K (upd (upd H1 e1 (.lst [])) t1 (.tup [])) rows (.ref t1) := bad_q (q := []) upd_same (nkey _ (.inl rfl))
    have s2 := q1.trans q2
    clear q1 q2
    revert s2 b3 b4
    generalize upd (upd H1 e1 _) t1 _ = H2
    intro b3 b4 s2
    have s02 := s1.trans s2
    refine ⟨_, rfl, pr, _, rfl, .inr (hS s02), fun l1 hl1 => ?_⟩
    have s3 := Same.new (o := .lst ((sh ++ [la]).map V.int)) hl1
    have v3 := at_new (o := .lst ((sh ++ [la]).map V.int)) hl1
    revert s3 v3
    generalize upd H2 l1 _ = H3
    intro s3 v3
    have b5 : BadV K H3 rows (.ref l1) := ⟨.list ((sh ++ [la]).map .int), .lst (.inl (.inl v3)) (dp_ints _), .inl rfl⟩
    have s13 := s2.trans s3
    have s03 := s1.trans s13
    have b6 : BadV K H3 rows (.ref st) := bad_q (s13 _ _ v1) (nkey _ (.inl (by omega)))
    refine ⟨_, rfl, rd_cat1 (x := .int 0) rfl (s03 _ _ hpr) (fun _ h => h) (by rw [List.length_map, hshl]; omega) fun t2 H4 s4 v4 => ?_⟩
    have b7 : BadV K H4 rows (.ref t2) := bad_q (q := (sh ++ [la]) ++ [0]) (v4.trans (congrArg (fun z => some (HO.tup z)) (List.map_append (f := V.int) (l₁ := sh ++ [la]) (l₂ := [0])).symm)) (nkey _ (.inl (by rw [List.length_append, hshl]; show (sh.length + 1 + 1) % 2 = 0; omega)))
    have s14 := s13.trans s4
    refine rd_cat1 (x := .int (la + 10 ^ 9)) rfl (s14 _ _ v1) (fun _ h => ⟨_, rfl, _, _, rfl, rfl, ⟨by decide, by decide, by decide⟩, _, _, rfl, rfl, h⟩) (by rw [List.length_map]; omega) fun t3 H5 s5 v5 => ?_
    have b8 : BadV K H5 rows (.ref t3) := bad_q (q := sh ++ [la + 10 ^ 9]) (by rw [v5, List.map_append]; rfl) (nkey _ (.inr ⟨la + 10 ^ 9, by simp, .inr (by omega)⟩))
    have s15 := s14.trans s5
    refine rd_cat1 (x := .int (-1)) rfl (s15 _ _ v1) (fun _ h => ⟨_, rfl, h⟩) (by rw [List.length_map]; omega) fun t4 H6 s6 v6 => ?_
    have b9 : BadV K H6 rows (.ref t4) := bad_q (q := sh ++ [-1]) (by rw [v6, List.map_append]; rfl) (nkey _ (.inr ⟨-1, by simp, .inl (by omega)⟩))
    have s16 := s15.trans s6
    refine ⟨sz_lit (by show 10 ≤ 100000; decide), fun m1 hm1 => ?_⟩
    have s7 := Same.new (o := .lst [.non, .str "0", .int 0, .ref e1, .ref t1, .ref l1, .ref st, .ref t2, .ref t3, .ref t4]) hm1
    have w7 := at_new (o := .lst [.non, .str "0", .int 0, .ref e1, .ref t1, .ref l1, .ref st, .ref t2, .ref t3, .ref t4]) hm1
    revert s7 w7
    generalize upd H6 m1 _ = H7
    intro s7 w7
    have s67 := s7
    have s57 := s6.trans s67
    have s47 := s5.trans s57
    have s37 := s4.trans s47
    have s27 := s3.trans s37
    have s17 := s2.trans s27
    have bad7 : ∀ v ∈ [.non, .str "0", .int 0, .ref e1, .ref t1, .ref l1, .ref st, .ref t2, .ref t3, .ref t4], BadV K H7 rows v :=
      allc ⟨.none, .non, .inl rfl⟩ (allc ⟨.str "0", .str _, .inl rfl⟩ (allc ⟨.int 0, .int _, .inl rfl⟩ (allc (b3.mono s27) (allc (b4.mono s27) (allc (b5.mono s37) (allc (b6.mono s37) (allc (b7.mono s47) (allc (b8.mono s57) (allc (b9.mono s67) all0)))))))))
    clear b3 b4 b5 b6 b7 b8 b9 v3 v4 v5 v6
    -- the other five
    refine ⟨_, rfl, ?_⟩
    refine rd_cat1 (x := .int (-1 - la)) rfl (s17 _ _ v1) (fun _ h => ⟨_, rfl, _, rfl, _, _, rfl, rfl, h⟩) (by rw [List.length_map]; omega) fun t5 H8 s8 v8 => ?_
    have c1 : BadV K H8 rows (.ref t5) := bad_q (q := sh ++ [-1 - la]) (by rw [v8, List.map_append]; rfl) (nkey _ (.inr ⟨-1 - la, by simp, .inl (by omega)⟩))
    have s18 := s17.trans s8
    refine rd_cat1 (x := .str "0") rfl (s18 _ _ v1) (fun _ h => h) (by rw [List.length_map]; omega) fun t6 H9 s9 v9 => ?_
    have c2 : BadV K H9 rows (.ref t6) := bad_x1 v9 (.str _) rfl
    have s19 := s18.trans s9
    refine rd_cat1 (x := .non) rfl (s19 _ _ v1) (fun _ h => h) (by rw [List.length_map]; omega) fun t7 H10 s10 v10 => ?_
    have c3 : BadV K H10 rows (.ref t7) := bad_x1 v10 .non rfl
    have s110 := s19.trans s10
    have s010 := s1.trans s110
    refine ⟨_, rfl, sz1 _, fun t8 ht8 => ?_⟩
    have s11 := Same.new (o := .tup [.ref pr]) ht8
    have v11 := at_new (o := .tup [.ref pr]) ht8
    revert s11 v11
    generalize upd H10 t8 _ = H11
    intro s11 v11
    have s111 := s110.trans s11
    have s011 := s1.trans s111
    have c4 : BadV K H11 rows (.ref t8) := ⟨.tuple [.tuple ((sh ++ [la]).map .int)], .tup (.inl (.inl v11)) (.cons (.tup (.inl (.inl (s011 _ _ hpr))) (dp_ints _)) .nil), .inl rfl⟩
    refine rd_cat1 (x := .int (10 ^ 40 + la)) rfl (s111 _ _ v1) (fun _ h => ⟨_, _, rfl, rfl, ⟨by decide, by decide, by decide⟩, _, rfl, _, _, rfl, rfl, h⟩) (by rw [List.length_map]; omega) fun t9 H12 s12 v12 => ?_
    have c5 : BadV K H12 rows (.ref t9) := bad_q (q := sh ++ [10 ^ 40 + la]) (by rw [v12, List.map_append]; rfl) (nkey _ (.inr ⟨10 ^ 40 + la, by simp, .inr (by omega)⟩))
    have s112 := s111.trans s12
    refine ⟨sz_lit (by show 5 ≤ 100000; decide), fun m2 hm2 => ?_⟩
    have s13' := Same.new (o := .lst [.ref t5, .ref t6, .ref t7, .ref t8, .ref t9]) hm2
    have w13 := at_new (o := .lst [.ref t5, .ref t6, .ref t7, .ref t8, .ref t9]) hm2
    revert s13' w13
    generalize upd H12 m2 _ = H13
    intro s13' w13
    have d12 := s12.trans s13'
    have d11 := s11.trans d12
    have d10 := s10.trans d11
    have d9 := s9.trans d10
    have d8 := s8.trans d9
    have bad13 : ∀ v ∈ [.ref t5, .ref t6, .ref t7, .ref t8, .ref t9], BadV K H13 rows v :=
      allc (c1.mono d9) (allc (c2.mono d10) (allc (c3.mono d11) (allc (c4.mono d12) (allc (c5.mono s13') all0))))
    refine ⟨m1, m2, _, _, rfl, rfl, d8 _ _ w7, w13, sz_lit (by show 10 + 5 ≤ 100000; decide), fun l hl => ?_⟩
    have s14' := Same.new (o := .lst ([.non, .str "0", .int 0, .ref e1, .ref t1, .ref l1, .ref st, .ref t2, .ref t3, .ref t4] ++ [.ref t5, .ref t6, .ref t7, .ref t8, .ref t9])) hl
    have w14 := at_new (o := .lst ([.non, .str "0", .int 0, .ref e1, .ref t1, .ref l1, .ref st, .ref t2, .ref t3, .ref t4] ++ [.ref t5, .ref t6, .ref t7, .ref t8, .ref t9])) hl
    have bad14 : ∀ v ∈ ([.non, .str "0", .int 0, .ref e1, .ref t1, .ref l1, .ref st, .ref t2, .ref t3, .ref t4] ++ [.ref t5, .ref t6, .ref t7, .ref t8, .ref t9]), BadV K (cutH (· = l) (upd H13 l (.lst ([.non, .str "0", .int 0, .ref e1, .ref t1, .ref l1, .ref st, .ref t2, .ref t3, .ref t4] ++ [.ref t5, .ref t6, .ref t7, .ref t8, .ref t9])))) rows v := fun v hv => by
      rcases List.mem_append.mp hv with hv | hv
      · exact ((bad7 v hv).mono d8).mono (same_cut hl s14')
      · exact (bad13 v hv).mono (same_cut hl s14')
    have lH : H l = none := by
      cases z : H l with
      | none => rfl
      | some o => rw [((s1.trans s17).trans d8) _ _ z] at hl; cases hl
    have s014 := ((s1.trans s17).trans d8).trans s14'
    have len14 : ([V.non, V.str "0", V.int 0, V.ref e1, V.ref t1, V.ref l1, V.ref st, V.ref t2, V.ref t3, V.ref t4] ++ [V.ref t5, V.ref t6, V.ref t7, V.ref t8, V.ref t9] : List V).length ≤ 15 + 0 := by show 15 ≤ 15; decide
    revert bad14 w14 s014 len14
    clear s14' bad7 bad13 c1 c2 c3 c4 c5 w7 w13
    generalize ([V.non, V.str "0", V.int 0, V.ref e1, V.ref t1, V.ref l1, V.ref st, V.ref t2, V.ref t3, V.ref t4] ++ [V.ref t5, V.ref t6, V.ref t7, V.ref t8, V.ref t9] : List V) = vs0
    generalize upd H13 l (.lst vs0) = H14
    intro w14 bad14 s014 len14
    -- the flags
    refine ⟨_, rfl, pr, _, rfl, .inr (hS s014), ((sh.length + 1 : Nat) : Int), congrArg (fun z => [V.int z]) (by rw [List.length_map, hshl]), by omega, by omega, ?_⟩
    rw [Int.toNat_natCast]
    refine for_it (walk_range (lo := 0) (n := sh.length + 1)) (fun i σ H' => (∃ y4 : Option V, σ = [some (.ref pr), some (.int la), some (.ref st), some (.ref l), y4]) ∧ ∃ vs, H' l = some (.lst vs) ∧ (∀ v ∈ vs, BadV K (cutH (· = l) H') rows v) ∧ vs.length ≤ 15 + i ∧ Same H H') ⟨⟨_, rfl⟩, vs0, w14, bad14, len14, s014⟩ (fun _ _ _ _ _ => trivial) ?_ ?_
    · rintro i x σ H16 H15 hi ⟨⟨y4, rfl⟩, vs, hv15, bad15, len15, s015⟩ ⟨rfl, rfl⟩
      show gName 4 (V.int (0 + (i : Int))) _ _ _
      rw [Int.zero_add]
      have hki : i < (sh ++ [la]).length := by rw [hshl]; exact hi
      obtain ⟨z, hz⟩ : ∃ z, (sh ++ [la])[i]? = some z := ⟨_, List.getElem?_eq_getElem hki⟩
      have hzV : ((sh ++ [la]).map V.int)[i]? = some (.int z) := by rw [List.getElem?_map, hz]; rfl
      refine ⟨_, rfl, _, rfl, pr, _, _, .int z, rfl, rfl, hS s015, atI_nat hzV, sz2 _ _, fun tt htt => ?_⟩
      have s16 := Same.new (o := .tup [.int 0, .int 1]) htt
      have v16 := at_new (o := .tup [.int 0, .int 1]) htt
      revert s16 v16
      generalize upd H15 tt _ = H16
      intro s16 v16
      have s016 := s015.trans s16
      refine ⟨tt, _, rfl, .inr (.inl (.inl v16)), rfl, rfl, _, rfl, ?_⟩
      have hl16 := s16 _ _ hv15
      have bad16 : ∀ v ∈ vs, BadV K (cutH (· = l) H16) rows v := fun v hv => (bad15 v hv).mono (cut_same s16)
      cases hb : inV (.int z) [.int 0, .int 1] with
      | false => exact ifF rfl ⟨⟨_, rfl⟩, vs, hl16, bad16, by omega, s016⟩
      | true =>
        refine ifT rfl ⟨_, rfl, .inl ⟨rfl, _, .inl (.inl hl16)⟩, _, rfl, _, rfl, (i : Int), rfl, pr, _, rfl, hS s016, fun z => ?_, fun _ a1 ha1 => ?_⟩
        · exfalso
          have z2 := z.2
          rw [HT.sIx_nat, List.length_map, hshl] at z2
          omega
        rw [cut_take, ← List.map_take]
        have s17' := Same.new (o := .tup (((sh ++ [la]).take i).map V.int)) ha1
        have v17 := at_new (o := .tup (((sh ++ [la]).take i).map V.int)) ha1
        revert s17' v17
        generalize upd H16 a1 _ = H17
        intro s17' v17
        have s017 := s016.trans s17'
        refine ⟨_, rfl, _, rfl, pr, _, _, .int z, rfl, rfl, hS s017, atI_nat hzV, rfl, sz1 _, fun a2 ha2 => ?_⟩
        have s18' := Same.new (o := .tup [.bl (decide (V.int z = V.int 1))]) ha2
        have v18 := at_new (o := .tup [.bl (decide (V.int z = V.int 1))]) ha2
        revert s18' v18
        generalize upd H17 a2 _ = H18
        intro s18' v18
        refine cat_trk (s18' _ _ v17) v18 (sz_lit (by rw [List.length_map, List.length_take]; show min i _ + 1 ≤ 100000; omega)) fun a3 H19 s19' v19 => ?_
        have s1619 := s17'.trans (s18'.trans s19')
        have s019 := s016.trans s1619
        refine ⟨_, rfl, _, rfl, _, _, rfl, rfl, ((i + 1 : Nat) : Int), congrArg V.int (by omega), pr, _, rfl, hS s019, fun z => ?_, fun _ a4 ha4 => ?_⟩
        · exfalso
          have z1 := z.1
          rw [HT.sIx_nat, List.length_map, hshl] at z1
          omega
        rw [cut_drop, ← List.map_drop]
        have s20 := Same.new (o := .tup (((sh ++ [la]).drop (i + 1)).map V.int)) ha4
        have v20 := at_new (o := .tup (((sh ++ [la]).drop (i + 1)).map V.int)) ha4
        revert s20 v20
        generalize upd H19 a4 _ = H20
        intro s20 v20
        refine cat_trk (s20 _ _ v19) v20 (sz_lit (by rw [List.length_append, List.length_map, List.length_map, List.length_take, List.length_drop]; show min i _ + 1 + _ ≤ 100000; omega)) fun a5 H21 s21 v21 => ?_
        have s1621 := s1619.trans (s20.trans s21)
        have s021 := s016.trans s1621
        have hl21 := s1621 _ _ hl16
        have na5 : a5 ≠ l := fun e => by rw [e, hl21] at v21; cases v21
        have c5 : BadV K (cutH (· = l) H21) rows (.ref a5) := bad_x (a := (sh ++ [la]).take i) (b := (sh ++ [la]).drop (i + 1)) (d := .bool (decide (V.int z = V.int 1))) (by rw [cut_not (S := (· = l)) na5]; exact v21) (.bl _) rfl
        refine ⟨l, _, _, rfl, rfl, hl21, lt_sz (by omega), ⟨_, rfl⟩, vs ++ [.ref a5], upd_same, fun v hv => ?_, by rw [List.length_append]; show vs.length + 1 ≤ _; omega, Same.updN s021 lH⟩
        rw [cut_upd (S := (· = l)) rfl]
        rcases List.mem_append.mp hv with hv | hv
        · exact (bad16 v hv).mono (cut_same s1621)
        · rw [List.mem_singleton.mp hv]; exact c5
    · rintro σ H16 ⟨⟨y4, rfl⟩, vs, hv, bad, len, s016⟩
      exact ⟨_, rfl, kk l vs H16 s016 lH hv (fun v hv => (bad v hv).mono cut_all) (by omega)⟩
end
end Op
namespace Op
open PySem L2 PyProof.Rows
theorem smK_up : ∀ {n : Nat} {d : PyData}, smK n d → smK (n + 1) d
  | 0, d, h => h.elim
  | n + 1, .tuple ds, h => ⟨h.1, fun d hd => smK_up (h.2 d hd)⟩
  | n + 1, .list ds, h => ⟨h.1, fun d hd => smK_up (h.2 d hd)⟩
  | n + 1, .none, h => h
  | n + 1, .bool _, h => h
  | n + 1, .int _, h => h
  | n + 1, .str _, h => h
  | n + 1, .dict _, h => h.elim
theorem dpt_sm : ∀ {n : Nat} {d : PyData}, dpt n d → wt d ≤ 10000 → smK n d
  | 0, d, h, _ => h.elim
  | n + 1, d, .inl ⟨z, e⟩, hw => by
    rw [e, wt_str] at hw
    rw [e]
    show z.length ≤ _
    first | omega | trivial
  | n + 1, d, .inr (.inl ⟨xs, e, h⟩), hw => by
    rw [e, wt_tuple] at hw
    rw [e]
    have := wts_len xs
    exact ⟨by omega, fun x hx => dpt_sm (h x hx) (by have := wts_mem hx; omega)⟩
  | n + 1, d, .inr (.inr ⟨xs, e, h⟩), hw => by
    rw [e, wt_list] at hw
    rw [e]
    have := wts_len xs
    exact ⟨by omega, fun x hx => dpt_sm (h x hx) (by have := wts_mem hx; omega)⟩
theorem dpt_in {m : Nat} {kind : Str} {parts : List PyData} {x : PyData} (h : dpt m (.tuple (.str kind :: parts))) (hx : x ∈ innerL kind parts) : ∀ e ∈ listOf x, dpt m e := by
  have lst : ∀ {a : Nat} {x : PyData}, dpt a x → ∀ e ∈ listOf x, dpt a e := fun {a x} h e he => by
    cases a with
    | zero => exact h.elim
    | succ a =>
      rcases h with ⟨z, rfl⟩ | ⟨xs, rfl, h⟩ | ⟨xs, rfl, h⟩
      · exact (List.not_mem_nil he).elim
      · exact (List.not_mem_nil he).elim
      · exact dpt_up (h e he)
  cases m with
  | zero => exact h.elim
  | succ a =>
    rcases h with ⟨z, e⟩ | ⟨xs, e, h⟩ | ⟨xs, e, h⟩
    · cases e
    · injection e with e
      subst e
      intro e he
      unfold innerL at hx
      split at hx
      · cases parts with
        | nil => exact (List.not_mem_nil hx).elim
        | cons y r =>
          have hy := h y (by simp)
          cases y with
          | tuple ds =>
            have hx : x ∈ ds := hx
            cases a with
            | zero => exact hy.elim
            | succ a =>
              rcases hy with ⟨z, e'⟩ | ⟨ys, e', hh⟩ | ⟨ys, e', hh⟩
              · cases e'
              · injection e' with e'
                subst e'
                exact dpt_up (dpt_up (lst (hh x hx) e he))
              · cases e'
          | _ => exact (List.not_mem_nil hx).elim
      · exact dpt_up (lst (h x (List.mem_cons_of_mem _ (List.mem_filter.mp hx).1)) e he)
    · cases e
theorem AtP.dpt : ∀ {n m : Nat} {ds : List PyData} {q : List Int} {d : PyData}, AtP n ds q d → (∀ e ∈ ds, dpt m e) → dpt m d
  | 0, _, _, _, _, h, _ => h.elim
  | n + 1, m, ds, q, d, .inl ⟨i, h, h2⟩, hd => hd d (List.mem_of_getElem? h2)
  | n + 1, m, ds, q, d, .inr ⟨i, j, q', kind, parts, x0, h, h2, h3, h4⟩, hd => AtP.dpt h4 (dpt_in (hd _ (List.mem_of_getElem? h2)) (List.mem_of_getElem? h3))
theorem AtP.lenN : ∀ {n : Nat} {ds : List PyData} {q : List Int} {d : PyData}, AtP n ds q d → q.length ≤ 2 * n
  | 0, _, _, _, h => h.elim
  | n + 1, ds, q, d, .inl ⟨i, h, _⟩ => by rw [h]; show 1 ≤ 2 * (n + 1); omega
  | n + 1, ds, q, d, .inr ⟨i, j, q', kind, parts, x, h, _, _, h4⟩ => by
    have := AtP.lenN h4
    rw [h, List.length_cons, List.length_cons]
    omega
theorem AtP.len10 {ds : List PyData} {q : List Int} {d : PyData} (h : AtP 5 ds q d) : q.length ≤ 10 := h.lenN
/-! ### the paths as data -/
def dueD (ks : List (List Int)) : PyData := .list (ks.map fun k => .tuple (k.map .int))
theorem due_sm {ks : List (List Int)} (n : Nat) (h1 : ks.length ≤ 10000) (h2 : ∀ k ∈ ks, k.length ≤ 10000) : smK (n + 3) (dueD ks) := by
  refine ⟨by rw [List.length_map]; exact h1, fun d hd => ?_⟩
  obtain ⟨k, hk, rfl⟩ := List.mem_map.mp hd
  refine ⟨by rw [List.length_map]; exact h2 k hk, fun d hd => ?_⟩
  obtain ⟨x, _, rfl⟩ := List.mem_map.mp hd
  trivial
theorem eqv_ints : ∀ k : List Int, PyData.eqvAll (k.map .int) (k.map .int) = true
  | [] => by rw [List.map_nil, PyData.eqvAll]
  | x :: r => by
    rw [List.map_cons, PyData.eqvAll, eqv_ints r, PyData.eqv]
    simp
theorem eqv_tups : ∀ ks : List (List Int), PyData.eqvAll (ks.map fun k => .tuple (k.map .int)) (ks.map fun k => .tuple (k.map .int)) = true
  | [] => by rw [List.map_nil, PyData.eqvAll]
  | x :: r => by
    rw [List.map_cons, PyData.eqvAll, eqv_tups r, PyData.eqv, eqv_ints x]
    rfl
theorem due_eqv (ks : List (List Int)) : PyData.eqv (dueD ks) (dueD ks) = true := by
  unfold dueD
  rw [PyData.eqv]
  exact eqv_tups ks
theorem lay_ints : ∀ k : List Int, PyData.canLayAll0 (k.map .int) = true ∧ PyData.depthAll (k.map .int) ≤ 1
  | [] => ⟨by simp [PyData.canLayAll0], by simp [PyData.depthAll]⟩
  | x :: r => by
    have h := lay_ints r
    refine ⟨by simp [PyData.canLayAll0, PyData.canLay0, h.1], ?_⟩
    have h2 := h.2
    simp only [List.map_cons, PyData.depthAll, PyData.depth]
    omega
theorem lay_tups : ∀ ks : List (List Int), PyData.canLayAll0 (ks.map fun k => .tuple (k.map .int)) = true ∧ PyData.depthAll (ks.map fun k => .tuple (k.map .int)) ≤ 3
  | [] => ⟨by simp [PyData.canLayAll0], by simp [PyData.depthAll]⟩
  | x :: r => by
    have h := lay_tups r
    have g := lay_ints x
    refine ⟨by simp [PyData.canLayAll0, PyData.canLay0, h.1, g.1], ?_⟩
    have h2 := h.2
    have g2 := g.2
    simp only [List.map_cons, PyData.depthAll, PyData.depth]
    omega
theorem due_shaped (ks : List (List Int)) : SeqAt.shaped (dueD ks) = true := by
  have h := lay_tups ks
  have h2 := h.2
  show ((dueD ks).canLay0 && decide ((dueD ks).depth ≤ 64)) = true
  rw [Bool.and_eq_true]
  refine ⟨by unfold dueD; simp only [PyData.canLay0]; exact h.1, decide_eq_true ?_⟩
  unfold dueD
  simp only [PyData.depth]
  omega
/-! ### the program, while the bag is drawn from -/
section
variable {K : PySem.W.Frag} {H H' : Hp} {p c : Addr} {A : PgA} {g : Pg}
theorem PgO.but (O : PgO K H A g) (pl : Pl H p c) (b : But p H H') (ha : g.asks.length ≤ 3) (hs : g.sigs.length ≤ 3) : PgO K H' A g := by
  have k := pl.kp b
  obtain ⟨_, _, _, _, _, hp, _⟩ := pl
  obtain ⟨wa, a1, a2⟩ := O.da
  obtain ⟨ws, s1, s2⟩ := O.ds
  obtain ⟨kvs, t1, t2⟩ := O.tb.rt
  have five : ∀ {ws : List (Key × V)} {t : List (Str × PyData)} {q : Addr}, KvsR K H ws t → t.length ≤ 3 → H q = some (.dK ws) → q ≠ p := fun {ws t q} r hl hq e => by
    rw [e, hp] at hq
    have h1 := HO.dK.inj (Option.some.inj hq)
    have h2 := r.len
    rw [← h1] at h2
    have h2 : 5 = t.length := h2
    omega
  have nx : A.x ≠ p := fun e => by have := O.ob; rw [e, hp] at this; cases this
  have nr : A.rt ≠ p := fun e => by rw [e, hp] at t1; cases t1
  have nz : A.lz ≠ p := fun e => by have := O.tb.lz; rw [show (TbA.mk A.x A.C A.dx A.rt A.lz (pgF A)).lz = A.lz from rfl, e, hp] at this; cases this
  exact ⟨b _ _ O.ob nx, ⟨wa, b _ _ a1 (five a2 ha a1), a2.mono k⟩, ⟨ws, b _ _ s1 (five s2 hs s1), s2.mono k⟩, O.di.kp k, O.dr.kp k, k _ _ O.n1 rfl, k _ _ O.n2 rfl, k _ _ O.n3 rfl, ⟨b _ _ O.ob nx, O.tb.f1, O.tb.f2, O.tb.f3, ⟨kvs, b _ _ t1 nr, t2.kp k⟩, b _ _ O.tb.lz nz, O.tb.ne⟩⟩
end
end Op
set_option pp.maxSteps 900
namespace L2
open PySem PySem.Spec PyProof.Rows
/-- a call that lets nothing out -/
theorem passFN {X : Cx} {P : Program} {w : World} : Passes (L2N.CX P w) X (fun _ _ _ => False) := fun _ _ _ _ _ _ _ h => by
  obtain ⟨a, B, H', cls, d, _, _, _, _, _, _, _, h⟩ := h
  exact h.elim
end L2
namespace Op
open PySem L2 PyProof.Rows
theorem ints_inj {a b : List Int} (h : PyData.tuple (a.map .int) = .tuple (b.map .int)) : a = b := by
  injection h with h
  induction a generalizing b with
  | nil => cases b with
    | nil => rfl
    | cons _ _ => cases h
  | cons x r ih => cases b with
    | nil => cases h
    | cons y t =>
      injection h with h5 h6
      injection h5 with h5
      rw [h5, ih h6]
theorem ints_path (k : List Int) : isPathD (.tuple (k.map .int)) = true := by
  show (k.map PyData.int).all isInt = true
  exact List.all_eq_true.mpr fun x hx => by
    obtain ⟨n, _, rfl⟩ := List.mem_map.mp hx
    rfl
section
variable {P : Program} {w : World} {K : PySem.W.Frag} {mg : Str → Option Value} {base : Heap} {C CA : Addr}
def spLaw (K : PySem.W.Frag) : Sp := fun vs H Q _ => ∃ (a : Addr) (ns : List Int), vs = [.ref a] ∧ SqL K H a (ns.map V.int) ∧ ns.length ≤ 63 ∧ ∀ H', Q (.bl true) H'
theorem sc_law : FnScope ["_law_script", "_law_bag_here", "_law_plan_here", "_law_program_here", "_law_due", "_law_path", "_law_told", "_law_inner", "_law_asked", "_law_value"] ["_law_script"] (defScope s_law) := ⟨rfl, rfl, rfl, by decide +kernel, rfl, by decide +kernel, by decide +kernel⟩
theorem ok_law {f : Addr} {fd : FuncData} (F : Fun K "law" "law" s_law f fd) (T : Txt mg) (pc : PgC K C) (c__law_bag : Cal P w K mg base CX0 1 "_law_bag" ["_law_script"] (spBag K)) (c__law_draw : Cal P w K mg base CX0 1 "_law_draw" ["_law_bag_here", "_law_many"] spD)
    (c__law_plan : Cal P w K mg base CX0 15 "_law_plan" ["_law_bag_here", "_law_room", "_law_deepest", "_law_gated"] (spPlan K)) (c__law_program : Cal P w K mg base CX0 33 "_law_program" ["_law_plan_here"] (spProgram K C)) (c__law_paths : Cal P w K mg base CX0 6 "_law_paths" ["_law_rows", "_law_prefix"] (spPaths K 5)) (c__law_at : Cal P w K mg base CX0 6 "_law_at" ["_law_rows", "_law_path"] (spAt K 5))
    (c__law_lists : Cal P w K mg base CX0 1 "_law_lists" ["_law_row"] (fun vs H Q E => spInnerG K vs H Q E ∨ spLsB K vs H Q E)) (c__law_same : Cal P w K mg base CX0 17 "_law_same" ["_law_told", "_law_due"] (spSame K 16)) (c__law_wrong : Cal P w K mg base CX0 1 "_law_wrong" ["_law_path"] (spWrong K)) (c__law_refused : Cal P w K mg base CX0 13 "_law_refused" ["_law_program_here", "_law_value"] (spRefused K C))
    (m_paths : Mcal P w K mg base CX0 1 C "paths" ["self"] (spPathsM K C)) (m_rows : Mcal P w K mg base CX0 12 C "rows" ["self"] (spRowsM K C)) (m_row_at : Mcal P w K mg base (L2N.CX P w) 11 C "row_at" ["self", "path"] (spRowAt K C CA)) : FnOk P w K mg base CX0 34 f fd ["_law_script"] (spLaw K) := by
  refine F.ok sc_law (fun vs H Q E h => ?_) (fun cdv A0 outer s H vs Q E hr h => ?_)
  · obtain ⟨a, ns, rfl, _⟩ := h
    rfl
  · obtain ⟨a, ns, rfl, hS, hlen, k⟩ := h
    have hu := hu_of hr
    have c_Program := pc.cls
    refine ⟨_, (pss_cons (ps_set (i := 1) sc_law.nd rfl (.inl rfl) (pe_cal c__law_bag (hr.mono (by omega)) rfl pass0 (pa_cons (pv 0) pa_nil)))
      (pss_cons (ps_set (i := 2) sc_law.nd rfl (.inl rfl) (pe_cal c__law_plan (hr.mono (by omega)) rfl pass0 (pa_cons (pv 1) (pa_cons pe_int (pa_cons pe_int (pa_cons (pe_cmpR op_eq (pe_cal c__law_draw (hr.mono (by omega)) rfl pass0 (pa_cons (pv 1) (pa_cons pe_int pa_nil))) pe_int (nomark _)) pa_nil))))))
      (pss_cons (ps_set (i := 3) sc_law.nd rfl (.inl rfl) (pe_cal c__law_program (hr.mono (by omega)) rfl pass0 (pa_cons (pv 2) pa_nil)))
      (pss_cons (ps_set (i := 4) sc_law.nd rfl (.inl rfl) (pe_cal c__law_paths (hr.mono (by omega)) rfl pass0 (pa_cons (pe_dget hu (pv 2) pe_str (fun _ _ => rfl)) (pa_cons (pe_tup pa_nil) pa_nil))))
      (pss_cons (ps_if (PW.pt (pw_or (pt_not (pt_val (pe_cal c__law_same (hr.mono (by omega)) rfl pass0 (pa_cons (pe_mcal0 (pv 3) c_Program m_paths (hr.mono (by omega)) pass0) (pa_cons (pv 4) pa_nil))))) (pw_or1 (pt_cmpR (op_neD hr.units) (pv 4) (pe_callB call_sortT (by rfl) T.b_sorted (by decide +kernel) (pa_cons (pv 4) pa_nil)) (nomark _))))) (pss_one (ps_ret pe_bl)) pss_nil)
      (pss_cons (ps_for PassesOwn.never rfl (pi_list (pv 4)) (pg_name (i := 5) sc_law.nd rfl (.inl rfl)) (pss_cons (ps_set (i := 6) sc_law.nd rfl (.inl rfl) (pe_mcal (pv 3) c_Program m_row_at (hr.mono (by omega)) passFN (pa_cons (pv 5) pa_nil)))
      (pss_cons (ps_if (pt_not (pt_val (pe_cal c__law_same (hr.mono (by omega)) rfl pass0 (pa_cons (pv 6) (pa_cons (pe_cal c__law_at (hr.mono (by omega)) rfl pass0 (pa_cons (pe_dget hu (pv 2) pe_str (fun _ _ => rfl)) (pa_cons (pv 5) pa_nil))) pa_nil))))) (pss_one (ps_ret pe_bl)) pss_nil)
      (pss_cons (ps_for PassesOwn.never rfl (pi_list (pe_cal c__law_lists (hr.mono (by omega)) rfl pass0 (pa_cons (pv 6) pa_nil))) (pg_name (i := 7) sc_law.nd rfl (.inl rfl)) (pss_one (ps_expr (pe_bm PySem.F.plainAttrs_list PySem.F.slot_list_append PySem.F.type_list_append mt_append (pv 7) (pa_cons pe_non pa_nil)))))
      (pss_one (ps_if (pt_not (pt_val (pe_cal c__law_same (hr.mono (by omega)) rfl pass0 (pa_cons (pe_mcal (pv 3) c_Program m_row_at (hr.mono (by omega)) passFN (pa_cons (pv 5) pa_nil)) (pa_cons (pe_cal c__law_at (hr.mono (by omega)) rfl pass0 (pa_cons (pe_dget hu (pv 2) pe_str (fun _ _ => rfl)) (pa_cons (pv 5) pa_nil))) pa_nil))))) (pss_one (ps_ret pe_bl)) pss_nil))))))
      (pss_cons (ps_if (pt_not (pt_val (pe_cal c__law_same (hr.mono (by omega)) rfl pass0 (pa_cons (pe_mcal0 (pv 3) c_Program m_rows (hr.mono (by omega)) pass0) (pa_cons (pe_dget hu (pv 2) pe_str (fun _ _ => rfl)) pa_nil))))) (pss_one (ps_ret pe_bl)) pss_nil)
      (pss_cons (ps_set (i := 8) sc_law.nd rfl (.inl rfl) (pe_tup (pa_cons pe_int pa_nil)))
      (Evl.pss_cut (ps_if (pt_cmpR op_gt (pe_callB call_len_seq (by rfl) T.b_len (by decide +kernel) (pa_cons (pv 4) pa_nil)) pe_int (nomark _)) (pss_one (ps_set (i := 8) sc_law.nd rfl (.inl rfl) (pe_ix ix_list (pv 4) (pe_cal c__law_draw (hr.mono (by omega)) rfl pass0 (pa_cons (pv 1) (pa_cons (pe_callB call_len_seq (by rfl) T.b_len (by decide +kernel) (pa_cons (pv 4) pa_nil)) pa_nil))) (fun _ _ => rfl)))) pss_nil)
      (pss_cons (ps_for PassesOwn.never rfl (pi_list (pe_cal c__law_wrong (hr.mono (by omega)) rfl pass0 (pa_cons (pv 8) pa_nil))) (pg_name (i := 9) sc_law.nd rfl (.inl rfl)) (pss_one (ps_if (pt_not (pt_val (pe_cal c__law_refused (hr.mono (by omega)) rfl pass0 (pa_cons (pv 3) (pa_cons (pv 9) pa_nil))))) (pss_one (ps_ret pe_bl)) pss_nil)))
      (pss_cons (ps_expr (pe_bm PySem.F.plainAttrs_list PySem.F.slot_list_append PySem.F.type_list_append mt_append (pe_mcal0 (pv 3) c_Program m_paths (hr.mono (by omega)) pass0) (pa_cons (pe_tup (pa_cons pe_int pa_nil)) pa_nil)))
      (pss_cons (ps_if (pt_not (pt_val (pe_cal c__law_refused (hr.mono (by omega)) rfl pass0 (pa_cons (pv 3) (pa_cons (pe_tup (pa_cons pe_int pa_nil)) pa_nil))))) (pss_one ps_never) pss_nil)
      (pss_one (ps_ret (pe_cal c__law_same (hr.mono (by omega)) rfl pass0 (pa_cons (pe_mcal0 (pv 3) c_Program m_paths (hr.mono (by omega)) pass0) (pa_cons (pv 4) pa_nil))))))))))))))))), ?_⟩
    refine ⟨_, rfl, a, ns, rfl, hS, hlen, fun p c H1 hp0 s1 pl1 => ?_⟩
    refine ⟨_, rfl, _, rfl, p, c, 2, rfl, pl1, by decide, fun r H2 r1 r2 b2 pl2 => ⟨rfl, ?_⟩⟩
    refine ⟨p, c, 14, 5, _, rfl, pl2, by decide, by decide, by decide, by decide, fun kd A t rm l xs ds H3 hkd hpa hps nak nsk b3 pl3 O kv gr ct wt' dl => ?_⟩
    have v : PlV t ds := ⟨kv, gr, by omega, by omega⟩
    have nkp := (pl2.new hkd).1
    have nap := (pl2.new hpa).1
    have nsp := (pl2.new hps).1
    have hwt : wts ds ≤ 1400 := by omega
    clear b3 hkd hpa hps hS
    refine ⟨_, rfl, kd, A, t, rm, l, xs, ds, rfl, O, v, fun H4 R kva kvs ls ss gs s4 hRx eC pa ps O4 => ?_⟩
    have hla : kva.length ≤ 3 := by rw [pa.length_eq]; exact v.al
    have hls : kvs.length ≤ 3 := by rw [ps.length_eq]; exact v.bl
    have O4' : PlO K H4 kd A t rm l xs ds := O.mono s4
    have pl4 := pl3.mono s4
    refine ⟨_, rfl, kd, _, rfl, DGet.k (k := (.inr "rows" : Key)) O4'.at', sz_lit (by decide), fun t0 ht0 => ?_⟩
    have s5 := Same.new (o := .tup []) ht0
    have v5 := at_new (o := .tup []) ht0
    revert s5 v5
    generalize upd H4 t0 _ = H5
    intro s5 v5
    have O5 := O4'.mono s5
    have hrok := v.rowsOk
    refine ⟨_, t0, ds, [], rfl, .lst (.inl (.inl O5.rows)) O5.dp, hrok, by omega, v5, by decide, fun ld qs H6 s6 hld hld6 ta6 => ?_⟩
    have s46 := s5.trans s6
    have P6 : PgO K H6 R ⟨kva, kvs, .tuple (t.ins.map .str), ds, ls, ss, gs⟩ := O4.mono s46
    have O6 : PlO K H6 kd A t rm l xs ds := O5.mono s6
    have pl6 := pl4.mono s46
    clear O5 O4' O4 pl4 pl3 O v5 ht0 hld s5 s6 s46 s4
    obtain ⟨ks, hks⟩ : ∃ ks, ks = (pathsL 5 ds []).map (fun e : List Int × PyData => e.1) := ⟨_, rfl⟩
    rw [← hks] at ta6
    have hkl : ks.length ≤ 1400 := by rw [hks, List.length_map]; have := paths_len 5 ds []; omega
    have hkf : ∀ q ∈ ks, q.length % 2 = 1 ∧ ∀ x ∈ q, 0 ≤ x ∧ x < 30000 := fun q hq => key_f (rows := ds) (by omega) (by rw [hks] at hq; exact hq)
    have hkn : ∀ q ∈ ks, q ≠ [] := fun q hq => by rw [hks] at hq; exact paths_ne hq
    have hka : ks.Pairwise fun a b => pLt a b = true := by rw [hks]; exact (paths_good 5 ds []).1
    have hk100 : ∀ q ∈ ks, q.length ≤ 10 := fun q hq => by
      rw [hks] at hq
      obtain ⟨e, he, rfl⟩ := List.mem_map.mp hq
      obtain ⟨q, e1, hat⟩ := paths_at 5 ds [] e he
      rw [List.nil_append] at e1
      rw [e1]
      exact hat.len10
    have dueSm : smK 16 (dueD ks) := due_sm 13 (by omega) fun q hq => by have := hk100 q hq; omega
    have dueDp : ∀ {G : Hp} {l' : Addr} {rs : List Addr}, G l' = some (.lst (rs.map V.ref)) → TupsAt G rs ks → Dp K G (.ref l') (dueD ks) := fun h1 h2 => .lst (.inl (.inl h1)) (ta_dp h2)
    -- paths
    refine ⟨_, rfl, R.x, R.dx, _, rfl, by rw [← eC]; exact P6.ob, rfl, R, _, rfl, eC, P6, fun l7 qs7 H7 s7 hl7 hl7' ta7 => ?_⟩
    have ta7 : TupsAt H7 qs7 ks := by rw [hks]; exact ta7
    refine ⟨_, rfl, .ref l7, .ref ld, dueD ks, rfl, dueDp hl7' ta7, dueDp (s7 _ _ hld6) (ta_mono s7 ta6), dueSm, fun H8 s8 => ⟨_, rfl, ifF rfl ?_⟩⟩
    have s68 := s7.trans s8
    refine ⟨_, rfl, _, rfl, ld, qs, ks, rfl, s68 _ _ hld6, ta_mono s68 ta6, hkn, hka, fun q9 hq9 => ?_⟩
    have s9 := Same.new (o := .lst (qs.map V.ref)) hq9
    have v9 := at_new (o := .lst (qs.map V.ref)) hq9
    revert s9 v9
    generalize upd H8 q9 _ = H9
    intro s9 v9
    have s69 := s68.trans s9
    refine ⟨dueD ks, dueD ks, dueDp (s69 _ _ hld6) (ta_mono s69 ta6), dueDp v9 (ta_mono s69 ta6), due_shaped ks, due_shaped ks, _, rfl, ifF (by rw [due_eqv]; rfl) ?_⟩
    clear ta7 hl7' hl7 v9 hq9 s7 s8 s68 s9
    -- the rows at their paths
    refine ⟨_, rfl, ld, rfl, ⟨_, .inl (.inl (s69 _ _ hld6))⟩, ?_⟩
    refine for_it (walk_list (xs := qs.map V.ref)) (fun i σ H' => (∃ y5 y6 y7 : Option V, σ = [some (.ref a), some (.ref p), some (.ref kd), some (.ref R.x), some (.ref ld), y5, y6, y7, none, none]) ∧ Same H6 H') ⟨⟨_, _, _, rfl⟩, s69⟩ (fun i σ H' _ q => .inl (.inl (q.2 _ _ hld6))) ?_ ?_
    · rintro i x σ H11 H10 hi ⟨⟨y5, y6, y7, rfl⟩, s10⟩ ⟨rfl, hx⟩
      have hiq : i < qs.length := by rw [List.length_map] at hi; exact hi
      have hqi : qs[i]? = some qs[i] := List.getElem?_eq_getElem hiq
      obtain rfl : x = .ref qs[i] := by
        rw [List.getElem?_map, hqi] at hx
        exact (Option.some.inj hx).symm
      obtain ⟨k1, hk1, hq1⟩ := ta_get ta6 hqi
      generalize qs[i] = q1 at hq1 hqi
      have P10 := P6.mono s10
      have hq10 := s10 _ _ hq1
      have once : ∀ (G : Hp) (Z : VK), Same H6 G → (∀ (q2 : List Int) (row : PyData) (kind : Str) (parts : List PyData) (v' : V) (H' : Hp), q2 = k1 → (q2, row) ∈ pathsL 5 ds [] → row = .tuple (.str kind :: parts) → Same G H' → Dp K (cutH (LstAt G) H') v' row → (innerL kind parts = [] ∨ InL K (cutH (LstAt G) H') v' kind parts) → Z v' H') → spRowAt K C CA [.ref R.x, .ref q1] G Z (fun _ _ _ => False) := fun G Z sG hZ => by
        refine ⟨R, _, .ref q1, .tuple (k1.map .int), rfl, eC, P6.mono sG, hrok, by show wts ds ≤ 30000; omega, .tup (.inl (.inl (sG _ _ hq1))) (dp_ints k1), fun _ => ⟨q1, k1, rfl, sG _ _ hq1, rfl⟩, fun q2 row e hm kind parts v' H' er s' dv hin => hZ q2 row kind parts v' H' (ints_inj e).symm hm er s' dv hin, fun hb H' dd _ _ => ?_⟩
        rcases hb with hb | ⟨q2, e, hn⟩
        · have : isPathD (.tuple (k1.map .int)) = true := ints_path k1
          rw [this] at hb
          cases hb
        · have : k1 = q2 := ints_inj e
          subst this
          refine hn ?_
          show k1 ∈ (pathsL 5 ds []).map (·.1)
          rw [hks] at hk1
          exact List.mem_of_getElem? hk1
      have told : ∀ (q2 : List Int) (row : PyData), q2 = k1 → (q2, row) ∈ pathsL 5 ds [] → AtP 5 ds k1 row ∧ smK 16 row := fun q2 row e hm => by
        obtain ⟨q3, e3, hat⟩ := paths_at 5 ds [] _ hm
        have e4 : q3 = k1 := by
          rw [List.nil_append] at e3
          exact e3.symm.trans e
        rw [e4] at hat
        refine ⟨hat, smK_up (dpt_sm (hat.dpt (rows_dpt gr)) ?_)⟩
        have h5 : wt row ≤ wts ds := (hat.row hrok (m := 4) (by decide)).2
        omega
      refine ⟨_, rfl, R.x, R.dx, _, rfl, by rw [← eC]; exact P10.ob, rfl, _, rfl, once H10 _ s10 fun q2 row kind parts v1 H11 e2 hm er s11 dv1 hin1 => ?_⟩
      obtain ⟨hat, hsm⟩ := told q2 row e2 hm
      have s611 := s10.trans s11
      refine ⟨_, rfl, _, rfl, kd, _, rfl, DGet.k (k := (.inr "rows" : Key)) (s611 _ _ O6.at'), _, rfl, ?_⟩
      refine ⟨.ref l, q1, ds, k1, row, rfl, .lst (.inl (.inl (s611 _ _ O6.rows))) (DpAll.mono s611 O6.dp), hrok, .inl (.inl (s611 _ _ hq1)), hat, fun v2 H12 s12 dv2 => ?_⟩
      refine ⟨v1, v2, row, rfl, (dv1.mono cut_all).mono s12, dv2, hsm, fun H13 s13 => ⟨_, rfl, ifF rfl ?_⟩⟩
      subst er
      obtain ⟨t1, rfl⟩ : ∃ t1, v1 = .ref t1 := by
        cases dv1 with
        | tup h1 h2 => exact ⟨_, rfl⟩
      have hrow := (hat.row hrok (m := 4) (by decide)).1
      have s1113 := s12.trans s13
      have s1013 := s11.trans s1113
      have ls1 : ∀ (Z : VK) (E' : XK), (∀ (ll : Addr) (ws : List V) (H14 : Hp), Same H13 H14 → H13 ll = none → H14 ll = some (.lst ws) → ws.length = (innerL kind parts).length → Dir (cutH (LstAt H10) H13) ws → Z (.ref ll) H14) → (spInnerG K [.ref t1] H13 Z E' ∨ spLsB K [.ref t1] H13 Z E') := fun Z E' hZ => by
        rcases hin1 with h0 | hL
        · refine .inl ⟨cutH (LstAt H10) H13, t1, kind, parts, rfl, cut_all, dv1.mono (cut_same s1113), by have := hrow.1; omega, fun e => by obtain ⟨es, h1, _⟩ := hrow.2.1 e; exact ⟨es, [], h1⟩, fun ll ws H14 s14 hll hll14 dpw => hZ ll ws H14 s14 hll hll14 dpw.len fun w hw => ?_⟩
          rw [h0] at dpw
          cases dpw
          exact (List.not_mem_nil hw).elim
        · exact .inr ⟨cutH (LstAt H10) H13, t1, kind, parts, rfl, cut_all, hL.mono (cut_same s1113), by have := hrow.1; omega, fun ll ws H14 s14 hll hll14 dpw hdir => hZ ll ws H14 s14 hll hll14 dpw.len hdir⟩
      refine ⟨_, rfl, ls1 _ _ fun ll ws H14 s14 hll hll14 hwsl hdir => ⟨ll, rfl, ⟨_, .inl (.inl hll14)⟩, ?_⟩⟩
      have newB : ∀ w ∈ ws, ∃ (b : Addr) (xs : List V), w = .ref b ∧ H14 b = some (.lst xs) ∧ xs.length ≤ 40000 + 0 ∧ H10 b = none ∧ b ≠ ll := fun w hw => by
        obtain ⟨b, xs, h1, h2, h3⟩ := hdir w hw
        have h4 := cut_at h2
        refine ⟨b, xs, h1, s14 _ _ h4, h3, ?_, fun e => by rw [e, hll] at h4; cases h4⟩
        cases z : H10 b with
        | none => rfl
        | some o =>
          have := s1013 _ _ z
          rw [h4] at this
          cases this
          exact absurd ⟨xs, z⟩ (cut_has h2)
      refine for_it (walk_list (xs := ws)) (fun i σ H' => (∃ y7 : Option V, σ = [some (.ref a), some (.ref p), some (.ref kd), some (.ref R.x), some (.ref ld), some (.ref q1), some (.ref t1), y7, none, none]) ∧ Same H10 H' ∧ H' ll = some (.lst ws) ∧ i ≤ ws.length ∧ ∀ w ∈ ws, ∃ (b : Addr) (xs : List V), w = .ref b ∧ H' b = some (.lst xs) ∧ xs.length ≤ 40000 + i ∧ H10 b = none ∧ b ≠ ll) ⟨⟨_, rfl⟩, s1013.trans s14, hll14, Nat.zero_le _, newB⟩ (fun i σ H' _ q => .inl (.inl q.2.2.1)) ?_ ?_
      · rintro j x σ H16 H15 hj ⟨⟨y7, rfl⟩, s15, hll15, hjl, hb⟩ ⟨rfl, hx⟩
        obtain ⟨b, xs, rfl, hb1, hb2, hb3, hb4⟩ := hb x (List.mem_of_getElem? hx)
        have hwb : ws.length ≤ 1400 := by
          have h5 : wt (.tuple (.str kind :: parts)) ≤ wts ds := (hat.row hrok (m := 4) (by decide)).2
          have h6 := wIn_inner1 kind parts
          rw [wt_tuple, wts_cons] at h5
          omega
        refine ⟨_, rfl, .inl ⟨rfl, _, .inl (.inl hb1)⟩, b, xs, .non, rfl, rfl, hb1, lt_sz (by omega), ⟨_, rfl⟩, Same.updN s15 hb3, by rw [L2.upd_ne (Ne.symm hb4)]; exact hll15, by omega, fun w hw => ?_⟩
        obtain ⟨b', xs', h1, h2, h3, h4, h5⟩ := hb w hw
        by_cases e : b' = b
        · subst e
          exact ⟨b', xs ++ [.non], h1, upd_same, by rw [List.length_append]; show xs.length + 1 ≤ _; omega, h4, h5⟩
        · exact ⟨b', xs', h1, by rw [L2.upd_ne e]; exact h2, by omega, h4, h5⟩
      · rintro σ H15 ⟨⟨y7, rfl⟩, s15, hll15, hjl, hb⟩
        have s615 := s10.trans s15
        refine ⟨_, rfl, R.x, R.dx, _, rfl, by rw [← eC]; exact (P6.mono s615).ob, rfl, _, rfl, once H15 _ s615 fun q2 row kind parts v1 H16 e2 hm er s16 dv1 hin1 => ?_⟩
        obtain ⟨hat, hsm⟩ := told q2 row e2 hm
        have s616 := s615.trans s16
        refine ⟨_, rfl, kd, _, rfl, DGet.k (k := (.inr "rows" : Key)) (s616 _ _ O6.at'), _, rfl, ?_⟩
        refine ⟨.ref l, q1, ds, k1, row, rfl, .lst (.inl (.inl (s616 _ _ O6.rows))) (DpAll.mono s616 O6.dp), hrok, .inl (.inl (s616 _ _ hq1)), hat, fun v2 H17 s17 dv2 => ?_⟩
        exact ⟨v1, v2, row, rfl, (dv1.mono cut_all).mono s17, dv2, hsm, fun H18 s18 => ⟨_, rfl, ifF rfl ⟨⟨_, _, _, rfl⟩, (s616.trans s17).trans s18⟩⟩⟩
    · rintro σ H10 ⟨⟨y5, y6, y7, rfl⟩, s10⟩
      refine ⟨_, rfl, R.x, R.dx, _, rfl, by rw [← eC]; exact (P6.mono s10).ob, rfl, R, _, rfl, eC, P6.mono s10, hrok, by show wts ds ≤ 30000; omega, fun l11 xs11 H11 s11 hl11 hl11' dp11 => ?_⟩
      have s611 := s10.trans s11
      refine ⟨_, rfl, kd, _, rfl, DGet.k (k := (.inr "rows" : Key)) (s611 _ _ O6.at'), .ref l11, .ref l, .list ds, rfl, .lst (.inl (.inl hl11')) (DpAll.mono cut_all dp11), .lst (.inl (.inl (s611 _ _ O6.rows))) (DpAll.mono s611 O6.dp), ⟨by have := wts_len ds; omega, fun d hd => dpt_sm (rows_dpt gr d hd) (by have := wts_mem hd; omega)⟩, fun H12 s12 => ⟨_, rfl, ifF rfl ?_⟩⟩
      have s612 := s611.trans s12
      refine ⟨sz1 _, fun t13 ht13 => ?_⟩
      have s13 := Same.new (o := .tup [.int 0]) ht13
      have v13 := at_new (o := .tup [.int 0]) ht13
      revert s13 v13
      generalize upd H12 t13 _ = H13
      intro s13 v13
      have s613 := s612.trans s13
      have pl13 := pl6.mono s613
      refine ⟨fun σ H' => ∃ (pr : Addr) (k : List Int), σ = [some (.ref a), some (.ref p), some (.ref kd), some (.ref R.x), some (.ref ld), y5, y6, y7, some (.ref pr), none] ∧ H' pr = some (.tup (k.map V.int)) ∧ k.length % 2 = 1 ∧ k.length ≤ 100 ∧ (∀ x ∈ k, 0 ≤ x ∧ x < 30000) ∧ But p H6 H' ∧ Pl H' p c, ?_, ?_⟩
      · refine ⟨_, rfl, ld, _, rfl, .inl (.inl (.inl (s613 _ _ hld6))), _, _, rfl, rfl, _, rfl, ?_⟩
        have hql : qs.length = ks.length := ta_len ta6
        by_cases h0 : 0 < qs.length
        · refine ifT (decide_eq_true (by rw [List.length_map]; omega)) ⟨_, rfl, _, rfl, _, rfl, ld, _, rfl, .inl (.inl (.inl (s613 _ _ hld6))), p, c, _, rfl, pl13, by rw [List.length_map]; omega, fun r' H14 r1' r2' b14 pl14 => ?_⟩
          rw [List.length_map] at r2'
          obtain ⟨n, rfl⟩ := Int.eq_ofNat_of_zero_le r1'
          have hn : n < qs.length := by omega
          have hqn : qs[n]? = some qs[n] := List.getElem?_eq_getElem hn
          obtain ⟨k1, hk1, hq1⟩ := ta_get ta6 hqn
          have hkm := List.mem_of_getElem? hk1
          have kp14 := pl13.kp b14
          refine ⟨ld, _, _, .ref qs[n], rfl, rfl, .inl (.inl (kp14 _ _ (s613 _ _ hld6) rfl)), atI_nat (by rw [List.getElem?_map, hqn]; rfl), qs[n], k1, rfl, kp14 _ _ (s613 _ _ hq1) rfl, (hkf k1 hkm).1, by have := hk100 k1 hkm; omega, (hkf k1 hkm).2, (Same.but s613).trans b14, pl14⟩
        · exact ifF (decide_eq_false (by rw [List.length_map]; omega)) ⟨t13, [0], rfl, v13, rfl, by decide, fun x hx => by rw [List.mem_singleton.mp hx]; decide, Same.but s613, pl13⟩
      · rintro σ H14 ⟨pr, k1, rfl, hpr, hodd, hkl1, hkb, b14, pl14⟩
        have kp14 := pl6.kp b14
        have P14 : PgO K H14 R ⟨kva, kvs, .tuple (t.ins.map .str), ds, ls, ss, gs⟩ := P6.but pl6 b14 hla hls
        have hld14 := kp14 _ _ hld6 rfl
        have ta14 := ta_kp kp14 ta6
        refine ⟨_, rfl, ds, pr, k1, rfl, hpr, hodd, hkl1, hkb, by omega, fun lw vs H15 s15 hlw hlw' bad vlen => ⟨lw, rfl, ⟨_, .inl (.inl hlw')⟩, ?_⟩⟩
        refine for_it (walk_list (xs := vs)) (fun i σ H' => (∃ y9 : Option V, σ = [some (.ref a), some (.ref p), some (.ref kd), some (.ref R.x), some (.ref ld), y5, y6, y7, some (.ref pr), y9]) ∧ Same H15 H') ⟨⟨_, rfl⟩, Same.refl _⟩ (fun i σ H' _ q => .inl (.inl (q.2 _ _ hlw'))) ?_ ?_
        · rintro i x σ H17 H16 hi ⟨⟨y9, rfl⟩, s16⟩ ⟨rfl, hx⟩
          have hm := List.mem_of_getElem? hx
          exact ⟨_, rfl, _, rfl, R, _, x, rfl, eC, (P14.mono s15).mono s16, hrok, by show wts ds ≤ 30000; omega, (bad x hm).mono s16, fun H17 s17 => ⟨_, rfl, ifF rfl ⟨⟨_, rfl⟩, s16.trans s17⟩⟩⟩
        · rintro σ H16 ⟨⟨y9, rfl⟩, s16⟩
          have s1416 := s15.trans s16
          have P16 := P14.mono s1416
          refine ⟨_, rfl, R.x, R.dx, _, rfl, by rw [← eC]; exact P16.ob, rfl, R, _, rfl, eC, P16, fun l17 qs17 H17 s17 hl17 hl17' ta17 => ?_⟩
          refine ⟨.inl ⟨rfl, _, .inl (.inl hl17')⟩, sz1 _, fun t18 ht18 => ?_⟩
          have s18 := Same.new (o := .tup [.int 9]) ht18
          have hl18 := s18 _ _ hl17'
          have hqs : qs17.length ≤ 1400 := by
            rw [ta_len ta17, List.length_map]
            have := paths_len 5 ds []
            show (pathsL 5 ds []).length ≤ 1400
            omega
          refine ⟨l17, _, _, rfl, rfl, hl18, lt_sz (by rw [List.length_map]; omega), ?_⟩
          have s19 : Same H16 (upd (upd H17 t18 (.tup [.int 9])) l17 (.lst (qs17.map V.ref ++ [.ref t18]))) := Same.updN (s17.trans s18) hl17
          revert s19
          generalize upd (upd H17 t18 (.tup [.int 9])) l17 (.lst (qs17.map V.ref ++ [.ref t18])) = H19
          intro s19
          have s1419 := s1416.trans s19
          refine ⟨_, rfl, sz1 _, fun t20 ht20 => ?_⟩
          have s20 := Same.new (o := .tup [.int 9]) ht20
          have v20 := at_new (o := .tup [.int 9]) ht20
          revert s20 v20
          generalize upd H19 t20 _ = H20
          intro s20 v20
          have s1420 := s1419.trans s20
          refine ⟨R, _, .ref t20, rfl, eC, P14.mono s1420, hrok, by show wts ds ≤ 30000; omega, bad_q (q := [9]) v20 (fun hm => ?_), fun H21 s21 => ⟨_, rfl, ifF rfl ?_⟩⟩
          · obtain ⟨e, he, e9⟩ := List.mem_map.mp hm
            obtain ⟨q, e1, hat⟩ := paths_at 5 ds [] e he
            obtain ⟨i, q', e2, hi⟩ := hat.first
            rw [List.nil_append] at e1
            have e3 : [(9 : Int)] = (i : Int) :: q' := e9.symm.trans (e1.trans e2)
            injection e3 with e4 _
            omega
          have s1421 := s1420.trans s21
          refine ⟨_, rfl, R.x, R.dx, _, rfl, by rw [← eC]; exact (P14.mono s1421).ob, rfl, R, _, rfl, eC, P14.mono s1421, fun l22 qs22 H22 s22 hl22 hl22' ta22 => ?_⟩
          have ta22 : TupsAt H22 qs22 ks := by rw [hks]; exact ta22
          exact ⟨_, rfl, .ref l22, .ref ld, dueD ks, rfl, dueDp hl22' ta22, dueDp ((s1421.trans s22) _ _ hld14) (ta_mono (s1421.trans s22) ta14), dueSm, fun H23 _ => k H23⟩
end
end Op
namespace Op
open PySem L2 PyProof.Rows PySem.XL
theorem vals_app : ∀ {vs ws : List V} {us zs : List Value}, Vals vs us → Vals ws zs → Vals (vs ++ ws) (us ++ zs)
  | _, _, _, _, .nil, h => h
  | _, _, _, _, .cons a b, h => .cons a (vals_app b h)
theorem exm_own {K : PySem.W.Frag} {C : Addr} (hb : PySem.W.subIn K (.ref C) (.type "BaseException") = some true) (hi : PySem.W.isClsIn K C = true) (ht : PySem.W.typeIn K (.ref C) = some (.type "type")) (hs : PySem.W.subIn K (.ref C) (.ref C) = some true) : PySem.W.exmOne K (.ref C) (.ref C) = some true := by
  unfold PySem.W.exmOne
  rw [hb, if_pos (by simp)]
  have hi' : (PySem.W.clsIn K C).isSome = true := hi
  show (if ((PySem.W.clsIn K C).isSome && PySem.W.typeIn K (.ref C) == some (.type "type")) = true then PySem.W.subIn K (.ref C) (.ref C) else none) = some true
  rw [hi', ht, if_pos (by simp)]
  exact hs
theorem kit_own {K : PySem.W.Frag} {t : Value} {C : Addr} {b : Bool} (hn : (t == Value.ref C) = false) (hi : PySem.W.isClsIn K C = true) (ht : PySem.W.typeIn K (.ref C) = some (.type "type")) (hs : PySem.W.subIn K t (.ref C) = some b) : PySem.W.kitOne K t (.ref C) = some b := by
  unfold PySem.W.kitOne
  rw [hn, if_neg Bool.false_ne_true]
  unfold PySem.W.kitCls
  have hi' : (PySem.W.clsIn K C).isSome = true := hi
  simp [ht, hi', hs]
theorem Sh_InvalidProgram : ∃ (Ps : Ps2) (a1 a2 a3 : Pos), defArgs s_InvalidProgram___init__ = args2 a1 a2 a3 "part" "path" ∧ defBody s_InvalidProgram___init__ = body2 Ps "invalid program" "part" "path" ∧ defScope s_InvalidProgram___init__ = scope2 "part" "path" ∧ ∀ fI, EvOk "InvalidProgram.__init__" (scope2 "part" "path") fI Ps.toPs1 "invalid program" :=
  ⟨⟨⟨_, _, _, _, _, _, _, _, _, _, _⟩, _, _, _, _⟩, _, _, _, rfl, rfl, rfl, fun fI L cda cc => ⟨_, rfl, rfl, rfl⟩⟩
theorem Xm_InvalidProgram {P : Program} {w : World} {K : PySem.W.Frag} {C fI : Addr} (T : XCls P K C) (Fn : XFn P K C fI "InvalidProgram.__init__" (defArgs s_InvalidProgram___init__) (defBody s_InvalidProgram___init__) (defScope s_InvalidProgram___init__)) (nof : PySem.W.findIn K (.ref C) "part" = some none) (nof2 : PySem.W.findIn K (.ref C) "path" = some none) :
    XMk P w K C 2 [] (fun vs _ => [("path", vs.getD 1 .non), ("part", vs.getD 0 .non)]) ∧ XMk P w K C 0 ["path", "part"] (fun _ zs => [("path", zs.getD 0 .non), ("part", zs.getD 1 .non)]) := by
  obtain ⟨Ps, a1, a2, a3, e1, e2, e3, ev⟩ := Sh_InvalidProgram
  rw [e1, e2, e3] at Fn
  exact ⟨xmk2 T Fn (by decide +kernel) (by decide +kernel) (by decide +kernel) nof nof2 (ev fI) fun s x v v2 kV doc pm an cdv ct cc => .of_eq rfl, xmk2k T Fn (by decide +kernel) (by decide +kernel) (by decide +kernel) nof nof2 (ev fI) fun s x v v2 kV doc pm an cdv ct cc => .of_eq rfl⟩
theorem Sh_InvalidArgument : ∃ (Ps : Ps1) (a1 a2 : Pos), defArgs s_InvalidArgument___init__ = args1 a1 a2 "part" ∧ defBody s_InvalidArgument___init__ = body1 Ps "invalid argument" "part" ∧ defScope s_InvalidArgument___init__ = scope1 "part" ∧ ∀ fI, EvOk "InvalidArgument.__init__" (scope1 "part") fI Ps "invalid argument" :=
  ⟨⟨_, _, _, _, _, _, _, _, _, _, _⟩, _, _, rfl, rfl, rfl, fun fI L cda cc => ⟨_, rfl, rfl, rfl⟩⟩
theorem Xm_InvalidArgument {P : Program} {w : World} {K : PySem.W.Frag} {C fI : Addr} (T : XCls P K C) (Fn : XFn P K C fI "InvalidArgument.__init__" (defArgs s_InvalidArgument___init__) (defBody s_InvalidArgument___init__) (defScope s_InvalidArgument___init__)) (nof : PySem.W.findIn K (.ref C) "part" = some none) :
    XMk P w K C 1 [] (fun vs _ => [("part", vs.headD .non)]) ∧ XMk P w K C 0 ["part"] (fun _ zs => [("part", zs.headD .non)]) := by
  obtain ⟨Ps, a1, a2, e1, e2, e3, ev⟩ := Sh_InvalidArgument
  rw [e1, e2, e3] at Fn
  exact ⟨xmk1 T Fn (by decide +kernel) nof (ev fI) fun s x v kV doc pm an cdv ct cc => .of_eq rfl, xmk1k T Fn (by decide +kernel) nof (ev fI) fun s x v kV doc pm an cdv ct cc => .of_eq rfl⟩
theorem all_mk {w : World} {K : PySem.W.Frag} {h : Heap} {mg : Str → Option Value} {fa p_SHAPES c_InputError c_OpenError c_RunError c_InvalidProgram i_InvalidProgram c_InvalidArgument i_InvalidArgument g_is_integer g_is_word g_are_words g_is_branches g_inner_lists g_with_lists g_copy_row g_copy_rows g_checked_asks g_is_box g_checked_signals g_checked_inputs g_is_path g__law_bag g__law_draw g__law_one g__law_words g__law_kit g__law_start_row g__law_plain_row g__law_great_row g__law_list g__law_plan g__law_copy_part g__law_copy_rows g__law_program g__law_same g__law_lists g__law_paths g__law_at g__law_refused g__law_wrong g_law c_RowCheck m_RowCheck___init__ m_RowCheck_check m_RowCheck_check_sizes m_RowCheck_check_list m_RowCheck_fits m_RowCheck_id_fits m_RowCheck_part_fits m_RowCheck_collect c_Program m_Program___init__ m_Program_add_rows m_Program_paths m_Program_rows m_Program_row_at : Addr} (X : K.In h) (G : h.Ns mainGlobals mg) (hfa : mg "law" = some (.ref fa))
    {tk_LETTERS : Tok}
    {tk_MOST_ROWS : Tok}
    {tk_MOST_LABELS : Tok}
    {tk_MOST_SLOTS : Tok}
    {tk_MOST_GATES : Tok}
    {tk_MOST_EDITS : Tok}
    {tk_DEEPEST : Tok}
    {es_SHAPES : Array DictEntry} {en_SHAPES : Nat}
    {nm_InvalidProgram q_InvalidProgram : Str} {N_InvalidProgram : Addr} {bs_InvalidProgram : List Value} {sn_InvalidProgram : List Str} {sub_InvalidProgram : List Value} {ab_InvalidProgram : Bool} {col_InvalidProgram : Option Bool} {dd_InvalidProgram : Option Addr} {ka_InvalidProgram kb_InvalidProgram kc_InvalidProgram kd_InvalidProgram ke_InvalidProgram : Option Value}
    {oc_InvalidProgram kV_InvalidProgram dc_InvalidProgram pm_InvalidProgram ct_InvalidProgram ccl_InvalidProgram cll_InvalidProgram : Value} {od_InvalidProgram an_InvalidProgram cdd_InvalidProgram cld_InvalidProgram : Option Addr} {cd_InvalidProgram cc_InvalidProgram : Addr} {sl_InvalidProgram ccs_InvalidProgram csl_InvalidProgram : Array (Option Value)} {vs_InvalidProgram : Array Value} {fl_InvalidProgram : Str} {tf_InvalidProgram : Tok}
    {nm_InvalidArgument q_InvalidArgument : Str} {N_InvalidArgument : Addr} {bs_InvalidArgument : List Value} {sn_InvalidArgument : List Str} {sub_InvalidArgument : List Value} {ab_InvalidArgument : Bool} {col_InvalidArgument : Option Bool} {dd_InvalidArgument : Option Addr} {ka_InvalidArgument kb_InvalidArgument kc_InvalidArgument kd_InvalidArgument ke_InvalidArgument : Option Value}
    {oc_InvalidArgument kV_InvalidArgument dc_InvalidArgument pm_InvalidArgument ct_InvalidArgument ccl_InvalidArgument cll_InvalidArgument : Value} {od_InvalidArgument an_InvalidArgument cdd_InvalidArgument cld_InvalidArgument : Option Addr} {cd_InvalidArgument cc_InvalidArgument : Addr} {sl_InvalidArgument ccs_InvalidArgument csl_InvalidArgument : Array (Option Value)} {vs_InvalidArgument : Array Value} {fl_InvalidArgument : Str} {tf_InvalidArgument : Tok}
    {xo_is_integer xk_is_integer xc_is_integer xp_is_integer xe_is_integer xt_is_integer : Value} {xd_is_integer xa_is_integer : Option Addr} {xs_is_integer : Array (Option Value)}
    {xo_is_word xk_is_word xc_is_word xp_is_word xe_is_word xt_is_word : Value} {xd_is_word xa_is_word : Option Addr} {xs_is_word : Array (Option Value)}
    {xo_are_words xk_are_words xc_are_words xp_are_words xe_are_words xt_are_words : Value} {xd_are_words xa_are_words : Option Addr} {xs_are_words : Array (Option Value)}
    {xo_is_branches xk_is_branches xc_is_branches xp_is_branches xe_is_branches xt_is_branches : Value} {xd_is_branches xa_is_branches : Option Addr} {xs_is_branches : Array (Option Value)}
    {xo_inner_lists xk_inner_lists xc_inner_lists xp_inner_lists xe_inner_lists xt_inner_lists : Value} {xd_inner_lists xa_inner_lists : Option Addr} {xs_inner_lists : Array (Option Value)}
    {xo_with_lists xk_with_lists xc_with_lists xp_with_lists xe_with_lists xt_with_lists : Value} {xd_with_lists xa_with_lists : Option Addr} {xs_with_lists : Array (Option Value)}
    {xo_copy_row xk_copy_row xc_copy_row xp_copy_row xe_copy_row xt_copy_row : Value} {xd_copy_row xa_copy_row : Option Addr} {xs_copy_row : Array (Option Value)}
    {xo_copy_rows xk_copy_rows xc_copy_rows xp_copy_rows xe_copy_rows xt_copy_rows : Value} {xd_copy_rows xa_copy_rows : Option Addr} {xs_copy_rows : Array (Option Value)}
    {xo_checked_asks xk_checked_asks xc_checked_asks xp_checked_asks xe_checked_asks xt_checked_asks : Value} {xd_checked_asks xa_checked_asks : Option Addr} {xs_checked_asks : Array (Option Value)}
    {xo_is_box xk_is_box xc_is_box xp_is_box xe_is_box xt_is_box : Value} {xd_is_box xa_is_box : Option Addr} {xs_is_box : Array (Option Value)}
    {xo_checked_signals xk_checked_signals xc_checked_signals xp_checked_signals xe_checked_signals xt_checked_signals : Value} {xd_checked_signals xa_checked_signals : Option Addr} {xs_checked_signals : Array (Option Value)}
    {xo_checked_inputs xk_checked_inputs xc_checked_inputs xp_checked_inputs xe_checked_inputs xt_checked_inputs : Value} {xd_checked_inputs xa_checked_inputs : Option Addr} {xs_checked_inputs : Array (Option Value)}
    {xo_is_path xk_is_path xc_is_path xp_is_path xe_is_path xt_is_path : Value} {xd_is_path xa_is_path : Option Addr} {xs_is_path : Array (Option Value)}
    {xo__law_bag xk__law_bag xc__law_bag xp__law_bag xe__law_bag xt__law_bag : Value} {xd__law_bag xa__law_bag : Option Addr} {xs__law_bag : Array (Option Value)}
    {xo__law_draw xk__law_draw xc__law_draw xp__law_draw xe__law_draw xt__law_draw : Value} {xd__law_draw xa__law_draw : Option Addr} {xs__law_draw : Array (Option Value)}
    {xo__law_one xk__law_one xc__law_one xp__law_one xe__law_one xt__law_one : Value} {xd__law_one xa__law_one : Option Addr} {xs__law_one : Array (Option Value)}
    {xo__law_words xk__law_words xc__law_words xp__law_words xe__law_words xt__law_words : Value} {xd__law_words xa__law_words : Option Addr} {xs__law_words : Array (Option Value)}
    {xo__law_kit xk__law_kit xc__law_kit xp__law_kit xe__law_kit xt__law_kit : Value} {xd__law_kit xa__law_kit : Option Addr} {xs__law_kit : Array (Option Value)}
    {xo__law_start_row xk__law_start_row xc__law_start_row xp__law_start_row xe__law_start_row xt__law_start_row : Value} {xd__law_start_row xa__law_start_row : Option Addr} {xs__law_start_row : Array (Option Value)}
    {xo__law_plain_row xk__law_plain_row xc__law_plain_row xp__law_plain_row xe__law_plain_row xt__law_plain_row : Value} {xd__law_plain_row xa__law_plain_row : Option Addr} {xs__law_plain_row : Array (Option Value)}
    {xo__law_great_row xk__law_great_row xc__law_great_row xp__law_great_row xe__law_great_row xt__law_great_row : Value} {xd__law_great_row xa__law_great_row : Option Addr} {xs__law_great_row : Array (Option Value)}
    {xo__law_list xk__law_list xc__law_list xp__law_list xe__law_list xt__law_list : Value} {xd__law_list xa__law_list : Option Addr} {xs__law_list : Array (Option Value)}
    {xo__law_plan xk__law_plan xc__law_plan xp__law_plan xe__law_plan xt__law_plan : Value} {xd__law_plan xa__law_plan : Option Addr} {xs__law_plan : Array (Option Value)}
    {xo__law_copy_part xk__law_copy_part xc__law_copy_part xp__law_copy_part xe__law_copy_part xt__law_copy_part : Value} {xd__law_copy_part xa__law_copy_part : Option Addr} {xs__law_copy_part : Array (Option Value)}
    {xo__law_copy_rows xk__law_copy_rows xc__law_copy_rows xp__law_copy_rows xe__law_copy_rows xt__law_copy_rows : Value} {xd__law_copy_rows xa__law_copy_rows : Option Addr} {xs__law_copy_rows : Array (Option Value)}
    {xo__law_program xk__law_program xc__law_program xp__law_program xe__law_program xt__law_program : Value} {xd__law_program xa__law_program : Option Addr} {xs__law_program : Array (Option Value)}
    {xo__law_same xk__law_same xc__law_same xp__law_same xe__law_same xt__law_same : Value} {xd__law_same xa__law_same : Option Addr} {xs__law_same : Array (Option Value)}
    {xo__law_lists xk__law_lists xc__law_lists xp__law_lists xe__law_lists xt__law_lists : Value} {xd__law_lists xa__law_lists : Option Addr} {xs__law_lists : Array (Option Value)}
    {xo__law_paths xk__law_paths xc__law_paths xp__law_paths xe__law_paths xt__law_paths : Value} {xd__law_paths xa__law_paths : Option Addr} {xs__law_paths : Array (Option Value)}
    {xo__law_at xk__law_at xc__law_at xp__law_at xe__law_at xt__law_at : Value} {xd__law_at xa__law_at : Option Addr} {xs__law_at : Array (Option Value)}
    {xo__law_refused xk__law_refused xc__law_refused xp__law_refused xe__law_refused xt__law_refused : Value} {xd__law_refused xa__law_refused : Option Addr} {xs__law_refused : Array (Option Value)}
    {xo__law_wrong xk__law_wrong xc__law_wrong xp__law_wrong xe__law_wrong xt__law_wrong : Value} {xd__law_wrong xa__law_wrong : Option Addr} {xs__law_wrong : Array (Option Value)}
    {xo_law xk_law xc_law xp_law xe_law xt_law : Value} {xd_law xa_law : Option Addr} {xs_law : Array (Option Value)}
    {xo_RowCheck___init__ xk_RowCheck___init__ xc_RowCheck___init__ xp_RowCheck___init__ xe_RowCheck___init__ xt_RowCheck___init__ : Value} {xd_RowCheck___init__ xa_RowCheck___init__ : Option Addr} {xs_RowCheck___init__ : Array (Option Value)}
    {xo_RowCheck_check xk_RowCheck_check xc_RowCheck_check xp_RowCheck_check xe_RowCheck_check xt_RowCheck_check : Value} {xd_RowCheck_check xa_RowCheck_check : Option Addr} {xs_RowCheck_check : Array (Option Value)}
    {xo_RowCheck_check_sizes xk_RowCheck_check_sizes xc_RowCheck_check_sizes xp_RowCheck_check_sizes xe_RowCheck_check_sizes xt_RowCheck_check_sizes : Value} {xd_RowCheck_check_sizes xa_RowCheck_check_sizes : Option Addr} {xs_RowCheck_check_sizes : Array (Option Value)}
    {xo_RowCheck_check_list xk_RowCheck_check_list xc_RowCheck_check_list xp_RowCheck_check_list xe_RowCheck_check_list xt_RowCheck_check_list : Value} {xd_RowCheck_check_list xa_RowCheck_check_list : Option Addr} {xs_RowCheck_check_list : Array (Option Value)}
    {xo_RowCheck_fits xk_RowCheck_fits xc_RowCheck_fits xp_RowCheck_fits xe_RowCheck_fits xt_RowCheck_fits : Value} {xd_RowCheck_fits xa_RowCheck_fits : Option Addr} {xs_RowCheck_fits : Array (Option Value)}
    {xo_RowCheck_id_fits xk_RowCheck_id_fits xc_RowCheck_id_fits xp_RowCheck_id_fits xe_RowCheck_id_fits xt_RowCheck_id_fits : Value} {xd_RowCheck_id_fits xa_RowCheck_id_fits : Option Addr} {xs_RowCheck_id_fits : Array (Option Value)}
    {xo_RowCheck_part_fits xk_RowCheck_part_fits xc_RowCheck_part_fits xp_RowCheck_part_fits xe_RowCheck_part_fits xt_RowCheck_part_fits : Value} {xd_RowCheck_part_fits xa_RowCheck_part_fits : Option Addr} {xs_RowCheck_part_fits : Array (Option Value)}
    {xo_RowCheck_collect xk_RowCheck_collect xc_RowCheck_collect xp_RowCheck_collect xe_RowCheck_collect xt_RowCheck_collect : Value} {xd_RowCheck_collect xa_RowCheck_collect : Option Addr} {xs_RowCheck_collect : Array (Option Value)}
    {xo_Program___init__ xk_Program___init__ xc_Program___init__ xp_Program___init__ xe_Program___init__ xt_Program___init__ : Value} {xd_Program___init__ xa_Program___init__ : Option Addr} {xs_Program___init__ : Array (Option Value)}
    {xo_Program_add_rows xk_Program_add_rows xc_Program_add_rows xp_Program_add_rows xe_Program_add_rows xt_Program_add_rows : Value} {xd_Program_add_rows xa_Program_add_rows : Option Addr} {xs_Program_add_rows : Array (Option Value)}
    {xo_Program_paths xk_Program_paths xc_Program_paths xp_Program_paths xe_Program_paths xt_Program_paths : Value} {xd_Program_paths xa_Program_paths : Option Addr} {xs_Program_paths : Array (Option Value)}
    {xo_Program_rows xk_Program_rows xc_Program_rows xp_Program_rows xe_Program_rows xt_Program_rows : Value} {xd_Program_rows xa_Program_rows : Option Addr} {xs_Program_rows : Array (Option Value)}
    {xo_Program_row_at xk_Program_row_at xc_Program_row_at xp_Program_row_at xe_Program_row_at xt_Program_row_at : Value} {xd_Program_row_at xa_Program_row_at : Option Addr} {xs_Program_row_at : Array (Option Value)}
    (z_len : PySem.W.nsIn K mainGlobals "len" = some none)
    (z_int : PySem.W.nsIn K mainGlobals "int" = some none)
    (z_bool : PySem.W.nsIn K mainGlobals "bool" = some none)
    (z_str : PySem.W.nsIn K mainGlobals "str" = some none)
    (z_list : PySem.W.nsIn K mainGlobals "list" = some none)
    (z_tuple : PySem.W.nsIn K mainGlobals "tuple" = some none)
    (z_dict : PySem.W.nsIn K mainGlobals "dict" = some none)
    (z_set : PySem.W.nsIn K mainGlobals "set" = some none)
    (z_range : PySem.W.nsIn K mainGlobals "range" = some none)
    (z_zip : PySem.W.nsIn K mainGlobals "zip" = some none)
    (z_enumerate : PySem.W.nsIn K mainGlobals "enumerate" = some none)
    (z_sorted : PySem.W.nsIn K mainGlobals "sorted" = some none)
    (z_isinstance : PySem.W.nsIn K mainGlobals "isinstance" = some none)
    (z_LETTERS : PySem.W.nsIn K mainGlobals "LETTERS" = some (some (.str "abcdefghijklmnopqrstuvwxyz" tk_LETTERS)))
    (z_MOST_ROWS : PySem.W.nsIn K mainGlobals "MOST_ROWS" = some (some (.int 60 tk_MOST_ROWS)))
    (z_MOST_LABELS : PySem.W.nsIn K mainGlobals "MOST_LABELS" = some (some (.int 6 tk_MOST_LABELS)))
    (z_MOST_SLOTS : PySem.W.nsIn K mainGlobals "MOST_SLOTS" = some (some (.int 4 tk_MOST_SLOTS)))
    (z_MOST_GATES : PySem.W.nsIn K mainGlobals "MOST_GATES" = some (some (.int 8 tk_MOST_GATES)))
    (z_MOST_EDITS : PySem.W.nsIn K mainGlobals "MOST_EDITS" = some (some (.int 4 tk_MOST_EDITS)))
    (z_DEEPEST : PySem.W.nsIn K mainGlobals "DEEPEST" = some (some (.int 5 tk_DEEPEST)))
    (A_SHAPES : PySem.W.nsIn K mainGlobals "SHAPES" = some (some (.ref p_SHAPES)))
    (L_SHAPES : K.lookup p_SHAPES = some ⟨.type "dict", none, .dict es_SHAPES en_SHAPES, #[]⟩)
    (E_SHAPES : Ents w.params es_SHAPES.toList (shapes.map fun p => (p.1, V.str p.2)))
    (S_SHAPES : (p_SHAPES == sysModules) = false)
    (opq : PySem.W.nsIn K cStatics "thirdparty.any" = some none)
    (sg : PySem.W.nsIn K mainGlobals "super" = some none)
    (A_InputError : PySem.W.nsIn K mainGlobals "InputError" = some (some (.ref c_InputError)))
    (A_OpenError : PySem.W.nsIn K mainGlobals "OpenError" = some (some (.ref c_OpenError)))
    (A_RunError : PySem.W.nsIn K mainGlobals "RunError" = some (some (.ref c_RunError)))
    (A_InvalidProgram : PySem.W.nsIn K mainGlobals "InvalidProgram" = some (some (.ref c_InvalidProgram)))
    (l_InvalidProgram : K.lookup c_InvalidProgram = some (excClassObj nm_InvalidProgram q_InvalidProgram c_InvalidProgram N_InvalidProgram bs_InvalidProgram [.ref c_InputError, .ref c_OpenError, .type "LookupError", .type "Exception", .type "BaseException", .type "object"] true sn_InvalidProgram sub_InvalidProgram ab_InvalidProgram col_InvalidProgram dd_InvalidProgram ka_InvalidProgram kb_InvalidProgram kc_InvalidProgram kd_InvalidProgram ke_InvalidProgram "LookupError.__new__"))
    (sa_InvalidProgram : PySem.W.findIn K (.ref c_InvalidProgram) "__setattr__" = some (some (.builtin "object.__setattr__")))
    (su_InvalidProgram : PySem.W.ks_superIn K c_InvalidProgram c_InvalidProgram "__init__" = some (some (.builtin "LookupError.__init__")))
    (ii_InvalidProgram : PySem.W.findIn K (.ref c_InvalidProgram) "__init__" = some (some (.ref i_InvalidProgram)))
    (ti_InvalidProgram : PySem.W.typeIn K (.ref i_InvalidProgram) = some (.type "function"))
    (lf_InvalidProgram : K.lookup i_InvalidProgram = some ⟨oc_InvalidProgram, od_InvalidProgram, .func (PySem.W.ksFn "__init__" "InvalidProgram.__init__" (defArgs s_InvalidProgram___init__) (defBody s_InvalidProgram___init__) (defScope s_InvalidProgram___init__) .none kV_InvalidProgram dc_InvalidProgram pm_InvalidProgram an_InvalidProgram (.ref cd_InvalidProgram) ct_InvalidProgram cc_InvalidProgram), sl_InvalidProgram⟩)
    (cf_InvalidProgram : PySem.W.codeIn K (.ref cd_InvalidProgram) "InvalidProgram.__init__" = true)
    (lc_InvalidProgram : K.lookup cc_InvalidProgram = some ⟨cll_InvalidProgram, cld_InvalidProgram, .cell (some (.ref c_InvalidProgram)), csl_InvalidProgram⟩)
    (ld_InvalidProgram : K.lookup cd_InvalidProgram = some ⟨ccl_InvalidProgram, cdd_InvalidProgram, .fields vs_InvalidProgram, ccs_InvalidProgram⟩)
    (v2_InvalidProgram : vs_InvalidProgram[2]? = some (.str fl_InvalidProgram tf_InvalidProgram))
    (fe_InvalidProgram : ((PP.main.file : Str) == fl_InvalidProgram) = true)
    (kp_InvalidProgram : PySem.W.keepIn K (.ref c_InvalidProgram) = true)
    (hg_InvalidProgram : PySem.W.findIn K (.ref c_InvalidProgram) "__getattribute__" = some (some (.builtin "BaseException.__getattribute__")))
    (hk_InvalidProgram : PySem.W.findIn K (.ref c_InvalidProgram) "__getattr__" = some none)
    (hs_InvalidProgram : PySem.W.subIn K (.ref c_InvalidProgram) (.type "BaseException") = some true)
    (hd_InvalidProgram : PySem.W.hasDictIn K c_InvalidProgram = true)
    (ty_InvalidProgram : PySem.W.typeIn K (.ref c_InvalidProgram) = some (.type "type"))
    (ic_InvalidProgram : PySem.W.isClsIn K c_InvalidProgram = true)
    (ss_InvalidProgram : PySem.W.subIn K (.ref c_InvalidProgram) (.ref c_InvalidProgram) = some true)
    (no_part_InvalidProgram : PySem.W.findIn K (.ref c_InvalidProgram) "part" = some none)
    (no_path_InvalidProgram : PySem.W.findIn K (.ref c_InvalidProgram) "path" = some none)
    (A_InvalidArgument : PySem.W.nsIn K mainGlobals "InvalidArgument" = some (some (.ref c_InvalidArgument)))
    (l_InvalidArgument : K.lookup c_InvalidArgument = some (excClassObj nm_InvalidArgument q_InvalidArgument c_InvalidArgument N_InvalidArgument bs_InvalidArgument [.ref c_InputError, .ref c_OpenError, .type "LookupError", .type "Exception", .type "BaseException", .type "object"] true sn_InvalidArgument sub_InvalidArgument ab_InvalidArgument col_InvalidArgument dd_InvalidArgument ka_InvalidArgument kb_InvalidArgument kc_InvalidArgument kd_InvalidArgument ke_InvalidArgument "LookupError.__new__"))
    (sa_InvalidArgument : PySem.W.findIn K (.ref c_InvalidArgument) "__setattr__" = some (some (.builtin "object.__setattr__")))
    (su_InvalidArgument : PySem.W.ks_superIn K c_InvalidArgument c_InvalidArgument "__init__" = some (some (.builtin "LookupError.__init__")))
    (ii_InvalidArgument : PySem.W.findIn K (.ref c_InvalidArgument) "__init__" = some (some (.ref i_InvalidArgument)))
    (ti_InvalidArgument : PySem.W.typeIn K (.ref i_InvalidArgument) = some (.type "function"))
    (lf_InvalidArgument : K.lookup i_InvalidArgument = some ⟨oc_InvalidArgument, od_InvalidArgument, .func (PySem.W.ksFn "__init__" "InvalidArgument.__init__" (defArgs s_InvalidArgument___init__) (defBody s_InvalidArgument___init__) (defScope s_InvalidArgument___init__) .none kV_InvalidArgument dc_InvalidArgument pm_InvalidArgument an_InvalidArgument (.ref cd_InvalidArgument) ct_InvalidArgument cc_InvalidArgument), sl_InvalidArgument⟩)
    (cf_InvalidArgument : PySem.W.codeIn K (.ref cd_InvalidArgument) "InvalidArgument.__init__" = true)
    (lc_InvalidArgument : K.lookup cc_InvalidArgument = some ⟨cll_InvalidArgument, cld_InvalidArgument, .cell (some (.ref c_InvalidArgument)), csl_InvalidArgument⟩)
    (ld_InvalidArgument : K.lookup cd_InvalidArgument = some ⟨ccl_InvalidArgument, cdd_InvalidArgument, .fields vs_InvalidArgument, ccs_InvalidArgument⟩)
    (v2_InvalidArgument : vs_InvalidArgument[2]? = some (.str fl_InvalidArgument tf_InvalidArgument))
    (fe_InvalidArgument : ((PP.main.file : Str) == fl_InvalidArgument) = true)
    (kp_InvalidArgument : PySem.W.keepIn K (.ref c_InvalidArgument) = true)
    (hg_InvalidArgument : PySem.W.findIn K (.ref c_InvalidArgument) "__getattribute__" = some (some (.builtin "BaseException.__getattribute__")))
    (hk_InvalidArgument : PySem.W.findIn K (.ref c_InvalidArgument) "__getattr__" = some none)
    (hs_InvalidArgument : PySem.W.subIn K (.ref c_InvalidArgument) (.type "BaseException") = some true)
    (hd_InvalidArgument : PySem.W.hasDictIn K c_InvalidArgument = true)
    (ty_InvalidArgument : PySem.W.typeIn K (.ref c_InvalidArgument) = some (.type "type"))
    (ic_InvalidArgument : PySem.W.isClsIn K c_InvalidArgument = true)
    (ss_InvalidArgument : PySem.W.subIn K (.ref c_InvalidArgument) (.ref c_InvalidArgument) = some true)
    (no_part_InvalidArgument : PySem.W.findIn K (.ref c_InvalidArgument) "part" = some none)
    (xa1 : PySem.W.findIn K (.ref c_InvalidArgument) "__class__" = some (some (.builtin "object.__class__")))
    (xa2 : PySem.W.specialIn K (.builtin "object.__class__") "__get__" = some (some (.builtin "getset_descriptor.__get__")))
    (xa3 : PySem.W.takesIn K (.builtin "object.__class__") = some true)
    (xa4 : PySem.W.mroIn K c_InvalidArgument (.type "object") = some true)
    (kq1s : PySem.W.subIn K (.ref c_InvalidArgument) (.ref c_InvalidProgram) = some false)
    (kq1n : (Value.ref c_InvalidArgument == Value.ref c_InvalidProgram) = false)
    (ty_RunError : PySem.W.typeIn K (.ref c_RunError) = some (.type "type"))
    (ic_RunError : PySem.W.isClsIn K c_RunError = true)
    (kq2s : PySem.W.subIn K (.ref c_InvalidArgument) (.ref c_RunError) = some false)
    (kq2n : (Value.ref c_InvalidArgument == Value.ref c_RunError) = false)
    (ty_InputError : PySem.W.typeIn K (.ref c_InputError) = some (.type "type"))
    (ic_InputError : PySem.W.isClsIn K c_InputError = true)
    (kq3s : PySem.W.subIn K (.ref c_InvalidArgument) (.ref c_InputError) = some true)
    (kq3n : (Value.ref c_InvalidArgument == Value.ref c_InputError) = false)
    (ty_OpenError : PySem.W.typeIn K (.ref c_OpenError) = some (.type "type"))
    (ic_OpenError : PySem.W.isClsIn K c_OpenError = true)
    (kq4s : PySem.W.subIn K (.ref c_InvalidArgument) (.ref c_OpenError) = some true)
    (kq4n : (Value.ref c_InvalidArgument == Value.ref c_OpenError) = false)
    (A_is_integer : PySem.W.nsIn K mainGlobals "is_integer" = some (some (.ref g_is_integer)))
    (L_is_integer : K.lookup g_is_integer = some ⟨xo_is_integer, xd_is_integer, .func (PySem.W.fnOf "is_integer" "is_integer" (defArgs s_is_integer) (defBody s_is_integer) (defScope s_is_integer) .none xk_is_integer xc_is_integer xp_is_integer xa_is_integer xe_is_integer xt_is_integer), xs_is_integer⟩)
    (D_is_integer : PySem.W.codeIn K xe_is_integer "is_integer" = true)
    (P_is_integer : PySem.W.keepIn K (.ref g_is_integer) = true)
    (A_is_word : PySem.W.nsIn K mainGlobals "is_word" = some (some (.ref g_is_word)))
    (L_is_word : K.lookup g_is_word = some ⟨xo_is_word, xd_is_word, .func (PySem.W.fnOf "is_word" "is_word" (defArgs s_is_word) (defBody s_is_word) (defScope s_is_word) .none xk_is_word xc_is_word xp_is_word xa_is_word xe_is_word xt_is_word), xs_is_word⟩)
    (D_is_word : PySem.W.codeIn K xe_is_word "is_word" = true)
    (P_is_word : PySem.W.keepIn K (.ref g_is_word) = true)
    (A_are_words : PySem.W.nsIn K mainGlobals "are_words" = some (some (.ref g_are_words)))
    (L_are_words : K.lookup g_are_words = some ⟨xo_are_words, xd_are_words, .func (PySem.W.fnOf "are_words" "are_words" (defArgs s_are_words) (defBody s_are_words) (defScope s_are_words) .none xk_are_words xc_are_words xp_are_words xa_are_words xe_are_words xt_are_words), xs_are_words⟩)
    (D_are_words : PySem.W.codeIn K xe_are_words "are_words" = true)
    (P_are_words : PySem.W.keepIn K (.ref g_are_words) = true)
    (A_is_branches : PySem.W.nsIn K mainGlobals "is_branches" = some (some (.ref g_is_branches)))
    (L_is_branches : K.lookup g_is_branches = some ⟨xo_is_branches, xd_is_branches, .func (PySem.W.fnOf "is_branches" "is_branches" (defArgs s_is_branches) (defBody s_is_branches) (defScope s_is_branches) .none xk_is_branches xc_is_branches xp_is_branches xa_is_branches xe_is_branches xt_is_branches), xs_is_branches⟩)
    (D_is_branches : PySem.W.codeIn K xe_is_branches "is_branches" = true)
    (P_is_branches : PySem.W.keepIn K (.ref g_is_branches) = true)
    (A_inner_lists : PySem.W.nsIn K mainGlobals "inner_lists" = some (some (.ref g_inner_lists)))
    (L_inner_lists : K.lookup g_inner_lists = some ⟨xo_inner_lists, xd_inner_lists, .func (PySem.W.fnOf "inner_lists" "inner_lists" (defArgs s_inner_lists) (defBody s_inner_lists) (defScope s_inner_lists) .none xk_inner_lists xc_inner_lists xp_inner_lists xa_inner_lists xe_inner_lists xt_inner_lists), xs_inner_lists⟩)
    (D_inner_lists : PySem.W.codeIn K xe_inner_lists "inner_lists" = true)
    (P_inner_lists : PySem.W.keepIn K (.ref g_inner_lists) = true)
    (A_with_lists : PySem.W.nsIn K mainGlobals "with_lists" = some (some (.ref g_with_lists)))
    (L_with_lists : K.lookup g_with_lists = some ⟨xo_with_lists, xd_with_lists, .func (PySem.W.fnOf "with_lists" "with_lists" (defArgs s_with_lists) (defBody s_with_lists) (defScope s_with_lists) .none xk_with_lists xc_with_lists xp_with_lists xa_with_lists xe_with_lists xt_with_lists), xs_with_lists⟩)
    (D_with_lists : PySem.W.codeIn K xe_with_lists "with_lists" = true)
    (P_with_lists : PySem.W.keepIn K (.ref g_with_lists) = true)
    (A_copy_row : PySem.W.nsIn K mainGlobals "copy_row" = some (some (.ref g_copy_row)))
    (L_copy_row : K.lookup g_copy_row = some ⟨xo_copy_row, xd_copy_row, .func (PySem.W.fnOf "copy_row" "copy_row" (defArgs s_copy_row) (defBody s_copy_row) (defScope s_copy_row) .none xk_copy_row xc_copy_row xp_copy_row xa_copy_row xe_copy_row xt_copy_row), xs_copy_row⟩)
    (D_copy_row : PySem.W.codeIn K xe_copy_row "copy_row" = true)
    (P_copy_row : PySem.W.keepIn K (.ref g_copy_row) = true)
    (A_copy_rows : PySem.W.nsIn K mainGlobals "copy_rows" = some (some (.ref g_copy_rows)))
    (L_copy_rows : K.lookup g_copy_rows = some ⟨xo_copy_rows, xd_copy_rows, .func (PySem.W.fnOf "copy_rows" "copy_rows" (defArgs s_copy_rows) (defBody s_copy_rows) (defScope s_copy_rows) .none xk_copy_rows xc_copy_rows xp_copy_rows xa_copy_rows xe_copy_rows xt_copy_rows), xs_copy_rows⟩)
    (D_copy_rows : PySem.W.codeIn K xe_copy_rows "copy_rows" = true)
    (P_copy_rows : PySem.W.keepIn K (.ref g_copy_rows) = true)
    (A_checked_asks : PySem.W.nsIn K mainGlobals "checked_asks" = some (some (.ref g_checked_asks)))
    (L_checked_asks : K.lookup g_checked_asks = some ⟨xo_checked_asks, xd_checked_asks, .func (PySem.W.fnOf "checked_asks" "checked_asks" (defArgs s_checked_asks) (defBody s_checked_asks) (defScope s_checked_asks) .none xk_checked_asks xc_checked_asks xp_checked_asks xa_checked_asks xe_checked_asks xt_checked_asks), xs_checked_asks⟩)
    (D_checked_asks : PySem.W.codeIn K xe_checked_asks "checked_asks" = true)
    (P_checked_asks : PySem.W.keepIn K (.ref g_checked_asks) = true)
    (A_is_box : PySem.W.nsIn K mainGlobals "is_box" = some (some (.ref g_is_box)))
    (L_is_box : K.lookup g_is_box = some ⟨xo_is_box, xd_is_box, .func (PySem.W.fnOf "is_box" "is_box" (defArgs s_is_box) (defBody s_is_box) (defScope s_is_box) .none xk_is_box xc_is_box xp_is_box xa_is_box xe_is_box xt_is_box), xs_is_box⟩)
    (D_is_box : PySem.W.codeIn K xe_is_box "is_box" = true)
    (P_is_box : PySem.W.keepIn K (.ref g_is_box) = true)
    (A_checked_signals : PySem.W.nsIn K mainGlobals "checked_signals" = some (some (.ref g_checked_signals)))
    (L_checked_signals : K.lookup g_checked_signals = some ⟨xo_checked_signals, xd_checked_signals, .func (PySem.W.fnOf "checked_signals" "checked_signals" (defArgs s_checked_signals) (defBody s_checked_signals) (defScope s_checked_signals) .none xk_checked_signals xc_checked_signals xp_checked_signals xa_checked_signals xe_checked_signals xt_checked_signals), xs_checked_signals⟩)
    (D_checked_signals : PySem.W.codeIn K xe_checked_signals "checked_signals" = true)
    (P_checked_signals : PySem.W.keepIn K (.ref g_checked_signals) = true)
    (A_checked_inputs : PySem.W.nsIn K mainGlobals "checked_inputs" = some (some (.ref g_checked_inputs)))
    (L_checked_inputs : K.lookup g_checked_inputs = some ⟨xo_checked_inputs, xd_checked_inputs, .func (PySem.W.fnOf "checked_inputs" "checked_inputs" (defArgs s_checked_inputs) (defBody s_checked_inputs) (defScope s_checked_inputs) .none xk_checked_inputs xc_checked_inputs xp_checked_inputs xa_checked_inputs xe_checked_inputs xt_checked_inputs), xs_checked_inputs⟩)
    (D_checked_inputs : PySem.W.codeIn K xe_checked_inputs "checked_inputs" = true)
    (P_checked_inputs : PySem.W.keepIn K (.ref g_checked_inputs) = true)
    (A_is_path : PySem.W.nsIn K mainGlobals "is_path" = some (some (.ref g_is_path)))
    (L_is_path : K.lookup g_is_path = some ⟨xo_is_path, xd_is_path, .func (PySem.W.fnOf "is_path" "is_path" (defArgs s_is_path) (defBody s_is_path) (defScope s_is_path) .none xk_is_path xc_is_path xp_is_path xa_is_path xe_is_path xt_is_path), xs_is_path⟩)
    (D_is_path : PySem.W.codeIn K xe_is_path "is_path" = true)
    (P_is_path : PySem.W.keepIn K (.ref g_is_path) = true)
    (A__law_bag : PySem.W.nsIn K mainGlobals "_law_bag" = some (some (.ref g__law_bag)))
    (L__law_bag : K.lookup g__law_bag = some ⟨xo__law_bag, xd__law_bag, .func (PySem.W.fnOf "_law_bag" "_law_bag" (defArgs s__law_bag) (defBody s__law_bag) (defScope s__law_bag) .none xk__law_bag xc__law_bag xp__law_bag xa__law_bag xe__law_bag xt__law_bag), xs__law_bag⟩)
    (D__law_bag : PySem.W.codeIn K xe__law_bag "_law_bag" = true)
    (P__law_bag : PySem.W.keepIn K (.ref g__law_bag) = true)
    (A__law_draw : PySem.W.nsIn K mainGlobals "_law_draw" = some (some (.ref g__law_draw)))
    (L__law_draw : K.lookup g__law_draw = some ⟨xo__law_draw, xd__law_draw, .func (PySem.W.fnOf "_law_draw" "_law_draw" (defArgs s__law_draw) (defBody s__law_draw) (defScope s__law_draw) .none xk__law_draw xc__law_draw xp__law_draw xa__law_draw xe__law_draw xt__law_draw), xs__law_draw⟩)
    (D__law_draw : PySem.W.codeIn K xe__law_draw "_law_draw" = true)
    (P__law_draw : PySem.W.keepIn K (.ref g__law_draw) = true)
    (A__law_one : PySem.W.nsIn K mainGlobals "_law_one" = some (some (.ref g__law_one)))
    (L__law_one : K.lookup g__law_one = some ⟨xo__law_one, xd__law_one, .func (PySem.W.fnOf "_law_one" "_law_one" (defArgs s__law_one) (defBody s__law_one) (defScope s__law_one) .none xk__law_one xc__law_one xp__law_one xa__law_one xe__law_one xt__law_one), xs__law_one⟩)
    (D__law_one : PySem.W.codeIn K xe__law_one "_law_one" = true)
    (P__law_one : PySem.W.keepIn K (.ref g__law_one) = true)
    (A__law_words : PySem.W.nsIn K mainGlobals "_law_words" = some (some (.ref g__law_words)))
    (L__law_words : K.lookup g__law_words = some ⟨xo__law_words, xd__law_words, .func (PySem.W.fnOf "_law_words" "_law_words" (defArgs s__law_words) (defBody s__law_words) (defScope s__law_words) .none xk__law_words xc__law_words xp__law_words xa__law_words xe__law_words xt__law_words), xs__law_words⟩)
    (D__law_words : PySem.W.codeIn K xe__law_words "_law_words" = true)
    (P__law_words : PySem.W.keepIn K (.ref g__law_words) = true)
    (A__law_kit : PySem.W.nsIn K mainGlobals "_law_kit" = some (some (.ref g__law_kit)))
    (L__law_kit : K.lookup g__law_kit = some ⟨xo__law_kit, xd__law_kit, .func (PySem.W.fnOf "_law_kit" "_law_kit" (defArgs s__law_kit) (defBody s__law_kit) (defScope s__law_kit) .none xk__law_kit xc__law_kit xp__law_kit xa__law_kit xe__law_kit xt__law_kit), xs__law_kit⟩)
    (D__law_kit : PySem.W.codeIn K xe__law_kit "_law_kit" = true)
    (P__law_kit : PySem.W.keepIn K (.ref g__law_kit) = true)
    (A__law_start_row : PySem.W.nsIn K mainGlobals "_law_start_row" = some (some (.ref g__law_start_row)))
    (L__law_start_row : K.lookup g__law_start_row = some ⟨xo__law_start_row, xd__law_start_row, .func (PySem.W.fnOf "_law_start_row" "_law_start_row" (defArgs s__law_start_row) (defBody s__law_start_row) (defScope s__law_start_row) .none xk__law_start_row xc__law_start_row xp__law_start_row xa__law_start_row xe__law_start_row xt__law_start_row), xs__law_start_row⟩)
    (D__law_start_row : PySem.W.codeIn K xe__law_start_row "_law_start_row" = true)
    (P__law_start_row : PySem.W.keepIn K (.ref g__law_start_row) = true)
    (A__law_plain_row : PySem.W.nsIn K mainGlobals "_law_plain_row" = some (some (.ref g__law_plain_row)))
    (L__law_plain_row : K.lookup g__law_plain_row = some ⟨xo__law_plain_row, xd__law_plain_row, .func (PySem.W.fnOf "_law_plain_row" "_law_plain_row" (defArgs s__law_plain_row) (defBody s__law_plain_row) (defScope s__law_plain_row) .none xk__law_plain_row xc__law_plain_row xp__law_plain_row xa__law_plain_row xe__law_plain_row xt__law_plain_row), xs__law_plain_row⟩)
    (D__law_plain_row : PySem.W.codeIn K xe__law_plain_row "_law_plain_row" = true)
    (P__law_plain_row : PySem.W.keepIn K (.ref g__law_plain_row) = true)
    (A__law_great_row : PySem.W.nsIn K mainGlobals "_law_great_row" = some (some (.ref g__law_great_row)))
    (L__law_great_row : K.lookup g__law_great_row = some ⟨xo__law_great_row, xd__law_great_row, .func (PySem.W.fnOf "_law_great_row" "_law_great_row" (defArgs s__law_great_row) (defBody s__law_great_row) (defScope s__law_great_row) .none xk__law_great_row xc__law_great_row xp__law_great_row xa__law_great_row xe__law_great_row xt__law_great_row), xs__law_great_row⟩)
    (D__law_great_row : PySem.W.codeIn K xe__law_great_row "_law_great_row" = true)
    (P__law_great_row : PySem.W.keepIn K (.ref g__law_great_row) = true)
    (A__law_list : PySem.W.nsIn K mainGlobals "_law_list" = some (some (.ref g__law_list)))
    (L__law_list : K.lookup g__law_list = some ⟨xo__law_list, xd__law_list, .func (PySem.W.fnOf "_law_list" "_law_list" (defArgs s__law_list) (defBody s__law_list) (defScope s__law_list) .none xk__law_list xc__law_list xp__law_list xa__law_list xe__law_list xt__law_list), xs__law_list⟩)
    (D__law_list : PySem.W.codeIn K xe__law_list "_law_list" = true)
    (P__law_list : PySem.W.keepIn K (.ref g__law_list) = true)
    (A__law_plan : PySem.W.nsIn K mainGlobals "_law_plan" = some (some (.ref g__law_plan)))
    (L__law_plan : K.lookup g__law_plan = some ⟨xo__law_plan, xd__law_plan, .func (PySem.W.fnOf "_law_plan" "_law_plan" (defArgs s__law_plan) (defBody s__law_plan) (defScope s__law_plan) .none xk__law_plan xc__law_plan xp__law_plan xa__law_plan xe__law_plan xt__law_plan), xs__law_plan⟩)
    (D__law_plan : PySem.W.codeIn K xe__law_plan "_law_plan" = true)
    (P__law_plan : PySem.W.keepIn K (.ref g__law_plan) = true)
    (A__law_copy_part : PySem.W.nsIn K mainGlobals "_law_copy_part" = some (some (.ref g__law_copy_part)))
    (L__law_copy_part : K.lookup g__law_copy_part = some ⟨xo__law_copy_part, xd__law_copy_part, .func (PySem.W.fnOf "_law_copy_part" "_law_copy_part" (defArgs s__law_copy_part) (defBody s__law_copy_part) (defScope s__law_copy_part) .none xk__law_copy_part xc__law_copy_part xp__law_copy_part xa__law_copy_part xe__law_copy_part xt__law_copy_part), xs__law_copy_part⟩)
    (D__law_copy_part : PySem.W.codeIn K xe__law_copy_part "_law_copy_part" = true)
    (P__law_copy_part : PySem.W.keepIn K (.ref g__law_copy_part) = true)
    (A__law_copy_rows : PySem.W.nsIn K mainGlobals "_law_copy_rows" = some (some (.ref g__law_copy_rows)))
    (L__law_copy_rows : K.lookup g__law_copy_rows = some ⟨xo__law_copy_rows, xd__law_copy_rows, .func (PySem.W.fnOf "_law_copy_rows" "_law_copy_rows" (defArgs s__law_copy_rows) (defBody s__law_copy_rows) (defScope s__law_copy_rows) .none xk__law_copy_rows xc__law_copy_rows xp__law_copy_rows xa__law_copy_rows xe__law_copy_rows xt__law_copy_rows), xs__law_copy_rows⟩)
    (D__law_copy_rows : PySem.W.codeIn K xe__law_copy_rows "_law_copy_rows" = true)
    (P__law_copy_rows : PySem.W.keepIn K (.ref g__law_copy_rows) = true)
    (A__law_program : PySem.W.nsIn K mainGlobals "_law_program" = some (some (.ref g__law_program)))
    (L__law_program : K.lookup g__law_program = some ⟨xo__law_program, xd__law_program, .func (PySem.W.fnOf "_law_program" "_law_program" (defArgs s__law_program) (defBody s__law_program) (defScope s__law_program) .none xk__law_program xc__law_program xp__law_program xa__law_program xe__law_program xt__law_program), xs__law_program⟩)
    (D__law_program : PySem.W.codeIn K xe__law_program "_law_program" = true)
    (P__law_program : PySem.W.keepIn K (.ref g__law_program) = true)
    (A__law_same : PySem.W.nsIn K mainGlobals "_law_same" = some (some (.ref g__law_same)))
    (L__law_same : K.lookup g__law_same = some ⟨xo__law_same, xd__law_same, .func (PySem.W.fnOf "_law_same" "_law_same" (defArgs s__law_same) (defBody s__law_same) (defScope s__law_same) .none xk__law_same xc__law_same xp__law_same xa__law_same xe__law_same xt__law_same), xs__law_same⟩)
    (D__law_same : PySem.W.codeIn K xe__law_same "_law_same" = true)
    (P__law_same : PySem.W.keepIn K (.ref g__law_same) = true)
    (A__law_lists : PySem.W.nsIn K mainGlobals "_law_lists" = some (some (.ref g__law_lists)))
    (L__law_lists : K.lookup g__law_lists = some ⟨xo__law_lists, xd__law_lists, .func (PySem.W.fnOf "_law_lists" "_law_lists" (defArgs s__law_lists) (defBody s__law_lists) (defScope s__law_lists) .none xk__law_lists xc__law_lists xp__law_lists xa__law_lists xe__law_lists xt__law_lists), xs__law_lists⟩)
    (D__law_lists : PySem.W.codeIn K xe__law_lists "_law_lists" = true)
    (P__law_lists : PySem.W.keepIn K (.ref g__law_lists) = true)
    (A__law_paths : PySem.W.nsIn K mainGlobals "_law_paths" = some (some (.ref g__law_paths)))
    (L__law_paths : K.lookup g__law_paths = some ⟨xo__law_paths, xd__law_paths, .func (PySem.W.fnOf "_law_paths" "_law_paths" (defArgs s__law_paths) (defBody s__law_paths) (defScope s__law_paths) .none xk__law_paths xc__law_paths xp__law_paths xa__law_paths xe__law_paths xt__law_paths), xs__law_paths⟩)
    (D__law_paths : PySem.W.codeIn K xe__law_paths "_law_paths" = true)
    (P__law_paths : PySem.W.keepIn K (.ref g__law_paths) = true)
    (A__law_at : PySem.W.nsIn K mainGlobals "_law_at" = some (some (.ref g__law_at)))
    (L__law_at : K.lookup g__law_at = some ⟨xo__law_at, xd__law_at, .func (PySem.W.fnOf "_law_at" "_law_at" (defArgs s__law_at) (defBody s__law_at) (defScope s__law_at) .none xk__law_at xc__law_at xp__law_at xa__law_at xe__law_at xt__law_at), xs__law_at⟩)
    (D__law_at : PySem.W.codeIn K xe__law_at "_law_at" = true)
    (P__law_at : PySem.W.keepIn K (.ref g__law_at) = true)
    (A__law_refused : PySem.W.nsIn K mainGlobals "_law_refused" = some (some (.ref g__law_refused)))
    (L__law_refused : K.lookup g__law_refused = some ⟨xo__law_refused, xd__law_refused, .func (PySem.W.fnOf "_law_refused" "_law_refused" (defArgs s__law_refused) (defBody s__law_refused) (defScope s__law_refused) .none xk__law_refused xc__law_refused xp__law_refused xa__law_refused xe__law_refused xt__law_refused), xs__law_refused⟩)
    (D__law_refused : PySem.W.codeIn K xe__law_refused "_law_refused" = true)
    (P__law_refused : PySem.W.keepIn K (.ref g__law_refused) = true)
    (A__law_wrong : PySem.W.nsIn K mainGlobals "_law_wrong" = some (some (.ref g__law_wrong)))
    (L__law_wrong : K.lookup g__law_wrong = some ⟨xo__law_wrong, xd__law_wrong, .func (PySem.W.fnOf "_law_wrong" "_law_wrong" (defArgs s__law_wrong) (defBody s__law_wrong) (defScope s__law_wrong) .none xk__law_wrong xc__law_wrong xp__law_wrong xa__law_wrong xe__law_wrong xt__law_wrong), xs__law_wrong⟩)
    (D__law_wrong : PySem.W.codeIn K xe__law_wrong "_law_wrong" = true)
    (P__law_wrong : PySem.W.keepIn K (.ref g__law_wrong) = true)
    (A_law : PySem.W.nsIn K mainGlobals "law" = some (some (.ref g_law)))
    (L_law : K.lookup g_law = some ⟨xo_law, xd_law, .func (PySem.W.fnOf "law" "law" (defArgs s_law) (defBody s_law) (defScope s_law) .none xk_law xc_law xp_law xa_law xe_law xt_law), xs_law⟩)
    (D_law : PySem.W.codeIn K xe_law "law" = true)
    (P_law : PySem.W.keepIn K (.ref g_law) = true)
    (A_RowCheck : PySem.W.nsIn K mainGlobals "RowCheck" = some (some (.ref c_RowCheck)))
    (c1_RowCheck : PySem.W.plainGet K c_RowCheck Str.empty = true)
    (c2_RowCheck : PySem.W.hasDictIn K c_RowCheck = true)
    (c3_RowCheck : PySem.W.plainOver K c_RowCheck = true)
    (c4_RowCheck : PySem.W.findIn K (.ref c_RowCheck) "__setattr__" = some (some (.builtin "object.__setattr__")))
    (n_RowCheck_known_asks : PySem.W.findIn K (.ref c_RowCheck) "known_asks" = some none)
    (n_RowCheck_known_signals : PySem.W.findIn K (.ref c_RowCheck) "known_signals" = some none)
    (n_RowCheck_with_edits : PySem.W.findIn K (.ref c_RowCheck) "with_edits" = some none)
    (n_RowCheck_total : PySem.W.findIn K (.ref c_RowCheck) "total" = some none)
    (n_RowCheck_label_words : PySem.W.findIn K (.ref c_RowCheck) "label_words" = some none)
    (n_RowCheck_slot_words : PySem.W.findIn K (.ref c_RowCheck) "slot_words" = some none)
    (n_RowCheck_gate_words : PySem.W.findIn K (.ref c_RowCheck) "gate_words" = some none)
    (n_RowCheck_edit_words : PySem.W.findIn K (.ref c_RowCheck) "edit_words" = some none)
    (mk_RowCheck : PySem.W.makesIn K c_RowCheck = true)
    (kp_RowCheck : PySem.W.keepIn K (.ref c_RowCheck) = true)
    (at_RowCheck___init__ : PySem.W.findIn K (.ref c_RowCheck) "__init__" = some (some (.ref m_RowCheck___init__)))
    (fn_RowCheck___init__ : PySem.W.isFn K (.ref m_RowCheck___init__) = true)
    (L_RowCheck___init__ : K.lookup m_RowCheck___init__ = some ⟨xo_RowCheck___init__, xd_RowCheck___init__, .func (PySem.W.fnOf "__init__" "RowCheck.__init__" (defArgs s_RowCheck___init__) (defBody s_RowCheck___init__) (defScope s_RowCheck___init__) .none xk_RowCheck___init__ xc_RowCheck___init__ xp_RowCheck___init__ xa_RowCheck___init__ xe_RowCheck___init__ xt_RowCheck___init__), xs_RowCheck___init__⟩)
    (D_RowCheck___init__ : PySem.W.codeIn K xe_RowCheck___init__ "RowCheck.__init__" = true)
    (P_RowCheck___init__ : PySem.W.keepIn K (.ref m_RowCheck___init__) = true)
    (at_RowCheck_check : PySem.W.findIn K (.ref c_RowCheck) "check" = some (some (.ref m_RowCheck_check)))
    (fn_RowCheck_check : PySem.W.isFn K (.ref m_RowCheck_check) = true)
    (L_RowCheck_check : K.lookup m_RowCheck_check = some ⟨xo_RowCheck_check, xd_RowCheck_check, .func (PySem.W.fnOf "check" "RowCheck.check" (defArgs s_RowCheck_check) (defBody s_RowCheck_check) (defScope s_RowCheck_check) .none xk_RowCheck_check xc_RowCheck_check xp_RowCheck_check xa_RowCheck_check xe_RowCheck_check xt_RowCheck_check), xs_RowCheck_check⟩)
    (D_RowCheck_check : PySem.W.codeIn K xe_RowCheck_check "RowCheck.check" = true)
    (P_RowCheck_check : PySem.W.keepIn K (.ref m_RowCheck_check) = true)
    (at_RowCheck_check_sizes : PySem.W.findIn K (.ref c_RowCheck) "check_sizes" = some (some (.ref m_RowCheck_check_sizes)))
    (fn_RowCheck_check_sizes : PySem.W.isFn K (.ref m_RowCheck_check_sizes) = true)
    (L_RowCheck_check_sizes : K.lookup m_RowCheck_check_sizes = some ⟨xo_RowCheck_check_sizes, xd_RowCheck_check_sizes, .func (PySem.W.fnOf "check_sizes" "RowCheck.check_sizes" (defArgs s_RowCheck_check_sizes) (defBody s_RowCheck_check_sizes) (defScope s_RowCheck_check_sizes) .none xk_RowCheck_check_sizes xc_RowCheck_check_sizes xp_RowCheck_check_sizes xa_RowCheck_check_sizes xe_RowCheck_check_sizes xt_RowCheck_check_sizes), xs_RowCheck_check_sizes⟩)
    (D_RowCheck_check_sizes : PySem.W.codeIn K xe_RowCheck_check_sizes "RowCheck.check_sizes" = true)
    (P_RowCheck_check_sizes : PySem.W.keepIn K (.ref m_RowCheck_check_sizes) = true)
    (at_RowCheck_check_list : PySem.W.findIn K (.ref c_RowCheck) "check_list" = some (some (.ref m_RowCheck_check_list)))
    (fn_RowCheck_check_list : PySem.W.isFn K (.ref m_RowCheck_check_list) = true)
    (L_RowCheck_check_list : K.lookup m_RowCheck_check_list = some ⟨xo_RowCheck_check_list, xd_RowCheck_check_list, .func (PySem.W.fnOf "check_list" "RowCheck.check_list" (defArgs s_RowCheck_check_list) (defBody s_RowCheck_check_list) (defScope s_RowCheck_check_list) .none xk_RowCheck_check_list xc_RowCheck_check_list xp_RowCheck_check_list xa_RowCheck_check_list xe_RowCheck_check_list xt_RowCheck_check_list), xs_RowCheck_check_list⟩)
    (D_RowCheck_check_list : PySem.W.codeIn K xe_RowCheck_check_list "RowCheck.check_list" = true)
    (P_RowCheck_check_list : PySem.W.keepIn K (.ref m_RowCheck_check_list) = true)
    (at_RowCheck_fits : PySem.W.findIn K (.ref c_RowCheck) "fits" = some (some (.ref m_RowCheck_fits)))
    (fn_RowCheck_fits : PySem.W.isFn K (.ref m_RowCheck_fits) = true)
    (L_RowCheck_fits : K.lookup m_RowCheck_fits = some ⟨xo_RowCheck_fits, xd_RowCheck_fits, .func (PySem.W.fnOf "fits" "RowCheck.fits" (defArgs s_RowCheck_fits) (defBody s_RowCheck_fits) (defScope s_RowCheck_fits) .none xk_RowCheck_fits xc_RowCheck_fits xp_RowCheck_fits xa_RowCheck_fits xe_RowCheck_fits xt_RowCheck_fits), xs_RowCheck_fits⟩)
    (D_RowCheck_fits : PySem.W.codeIn K xe_RowCheck_fits "RowCheck.fits" = true)
    (P_RowCheck_fits : PySem.W.keepIn K (.ref m_RowCheck_fits) = true)
    (at_RowCheck_id_fits : PySem.W.findIn K (.ref c_RowCheck) "id_fits" = some (some (.ref m_RowCheck_id_fits)))
    (fn_RowCheck_id_fits : PySem.W.isFn K (.ref m_RowCheck_id_fits) = true)
    (L_RowCheck_id_fits : K.lookup m_RowCheck_id_fits = some ⟨xo_RowCheck_id_fits, xd_RowCheck_id_fits, .func (PySem.W.fnOf "id_fits" "RowCheck.id_fits" (defArgs s_RowCheck_id_fits) (defBody s_RowCheck_id_fits) (defScope s_RowCheck_id_fits) .none xk_RowCheck_id_fits xc_RowCheck_id_fits xp_RowCheck_id_fits xa_RowCheck_id_fits xe_RowCheck_id_fits xt_RowCheck_id_fits), xs_RowCheck_id_fits⟩)
    (D_RowCheck_id_fits : PySem.W.codeIn K xe_RowCheck_id_fits "RowCheck.id_fits" = true)
    (P_RowCheck_id_fits : PySem.W.keepIn K (.ref m_RowCheck_id_fits) = true)
    (at_RowCheck_part_fits : PySem.W.findIn K (.ref c_RowCheck) "part_fits" = some (some (.ref m_RowCheck_part_fits)))
    (fn_RowCheck_part_fits : PySem.W.isFn K (.ref m_RowCheck_part_fits) = true)
    (L_RowCheck_part_fits : K.lookup m_RowCheck_part_fits = some ⟨xo_RowCheck_part_fits, xd_RowCheck_part_fits, .func (PySem.W.fnOf "part_fits" "RowCheck.part_fits" (defArgs s_RowCheck_part_fits) (defBody s_RowCheck_part_fits) (defScope s_RowCheck_part_fits) .none xk_RowCheck_part_fits xc_RowCheck_part_fits xp_RowCheck_part_fits xa_RowCheck_part_fits xe_RowCheck_part_fits xt_RowCheck_part_fits), xs_RowCheck_part_fits⟩)
    (D_RowCheck_part_fits : PySem.W.codeIn K xe_RowCheck_part_fits "RowCheck.part_fits" = true)
    (P_RowCheck_part_fits : PySem.W.keepIn K (.ref m_RowCheck_part_fits) = true)
    (at_RowCheck_collect : PySem.W.findIn K (.ref c_RowCheck) "collect" = some (some (.ref m_RowCheck_collect)))
    (fn_RowCheck_collect : PySem.W.isFn K (.ref m_RowCheck_collect) = true)
    (L_RowCheck_collect : K.lookup m_RowCheck_collect = some ⟨xo_RowCheck_collect, xd_RowCheck_collect, .func (PySem.W.fnOf "collect" "RowCheck.collect" (defArgs s_RowCheck_collect) (defBody s_RowCheck_collect) (defScope s_RowCheck_collect) .none xk_RowCheck_collect xc_RowCheck_collect xp_RowCheck_collect xa_RowCheck_collect xe_RowCheck_collect xt_RowCheck_collect), xs_RowCheck_collect⟩)
    (D_RowCheck_collect : PySem.W.codeIn K xe_RowCheck_collect "RowCheck.collect" = true)
    (P_RowCheck_collect : PySem.W.keepIn K (.ref m_RowCheck_collect) = true)
    (A_Program : PySem.W.nsIn K mainGlobals "Program" = some (some (.ref c_Program)))
    (c1_Program : PySem.W.plainGet K c_Program Str.empty = true)
    (c2_Program : PySem.W.hasDictIn K c_Program = true)
    (c3_Program : PySem.W.plainOver K c_Program = true)
    (c4_Program : PySem.W.findIn K (.ref c_Program) "__setattr__" = some (some (.builtin "object.__setattr__")))
    (n_Program_ask_table : PySem.W.findIn K (.ref c_Program) "ask_table" = some none)
    (n_Program_signal_table : PySem.W.findIn K (.ref c_Program) "signal_table" = some none)
    (n_Program_input_words : PySem.W.findIn K (.ref c_Program) "input_words" = some none)
    (n_Program_row_list : PySem.W.findIn K (.ref c_Program) "row_list" = some none)
    (n_Program_label_names : PySem.W.findIn K (.ref c_Program) "label_names" = some none)
    (n_Program_slot_names : PySem.W.findIn K (.ref c_Program) "slot_names" = some none)
    (n_Program_gate_names : PySem.W.findIn K (.ref c_Program) "gate_names" = some none)
    (n_Program_row_table : PySem.W.findIn K (.ref c_Program) "row_table" = some none)
    (n_Program_list_sizes : PySem.W.findIn K (.ref c_Program) "list_sizes" = some none)
    (mk_Program : PySem.W.makesIn K c_Program = true)
    (kp_Program : PySem.W.keepIn K (.ref c_Program) = true)
    (at_Program___init__ : PySem.W.findIn K (.ref c_Program) "__init__" = some (some (.ref m_Program___init__)))
    (fn_Program___init__ : PySem.W.isFn K (.ref m_Program___init__) = true)
    (L_Program___init__ : K.lookup m_Program___init__ = some ⟨xo_Program___init__, xd_Program___init__, .func (PySem.W.fnOf "__init__" "Program.__init__" (defArgs s_Program___init__) (defBody s_Program___init__) (defScope s_Program___init__) .none xk_Program___init__ xc_Program___init__ xp_Program___init__ xa_Program___init__ xe_Program___init__ xt_Program___init__), xs_Program___init__⟩)
    (D_Program___init__ : PySem.W.codeIn K xe_Program___init__ "Program.__init__" = true)
    (P_Program___init__ : PySem.W.keepIn K (.ref m_Program___init__) = true)
    (at_Program_add_rows : PySem.W.findIn K (.ref c_Program) "add_rows" = some (some (.ref m_Program_add_rows)))
    (fn_Program_add_rows : PySem.W.isFn K (.ref m_Program_add_rows) = true)
    (L_Program_add_rows : K.lookup m_Program_add_rows = some ⟨xo_Program_add_rows, xd_Program_add_rows, .func (PySem.W.fnOf "add_rows" "Program.add_rows" (defArgs s_Program_add_rows) (defBody s_Program_add_rows) (defScope s_Program_add_rows) .none xk_Program_add_rows xc_Program_add_rows xp_Program_add_rows xa_Program_add_rows xe_Program_add_rows xt_Program_add_rows), xs_Program_add_rows⟩)
    (D_Program_add_rows : PySem.W.codeIn K xe_Program_add_rows "Program.add_rows" = true)
    (P_Program_add_rows : PySem.W.keepIn K (.ref m_Program_add_rows) = true)
    (at_Program_paths : PySem.W.findIn K (.ref c_Program) "paths" = some (some (.ref m_Program_paths)))
    (fn_Program_paths : PySem.W.isFn K (.ref m_Program_paths) = true)
    (L_Program_paths : K.lookup m_Program_paths = some ⟨xo_Program_paths, xd_Program_paths, .func (PySem.W.fnOf "paths" "Program.paths" (defArgs s_Program_paths) (defBody s_Program_paths) (defScope s_Program_paths) .none xk_Program_paths xc_Program_paths xp_Program_paths xa_Program_paths xe_Program_paths xt_Program_paths), xs_Program_paths⟩)
    (D_Program_paths : PySem.W.codeIn K xe_Program_paths "Program.paths" = true)
    (P_Program_paths : PySem.W.keepIn K (.ref m_Program_paths) = true)
    (at_Program_rows : PySem.W.findIn K (.ref c_Program) "rows" = some (some (.ref m_Program_rows)))
    (fn_Program_rows : PySem.W.isFn K (.ref m_Program_rows) = true)
    (L_Program_rows : K.lookup m_Program_rows = some ⟨xo_Program_rows, xd_Program_rows, .func (PySem.W.fnOf "rows" "Program.rows" (defArgs s_Program_rows) (defBody s_Program_rows) (defScope s_Program_rows) .none xk_Program_rows xc_Program_rows xp_Program_rows xa_Program_rows xe_Program_rows xt_Program_rows), xs_Program_rows⟩)
    (D_Program_rows : PySem.W.codeIn K xe_Program_rows "Program.rows" = true)
    (P_Program_rows : PySem.W.keepIn K (.ref m_Program_rows) = true)
    (at_Program_row_at : PySem.W.findIn K (.ref c_Program) "row_at" = some (some (.ref m_Program_row_at)))
    (fn_Program_row_at : PySem.W.isFn K (.ref m_Program_row_at) = true)
    (L_Program_row_at : K.lookup m_Program_row_at = some ⟨xo_Program_row_at, xd_Program_row_at, .func (PySem.W.fnOf "row_at" "Program.row_at" (defArgs s_Program_row_at) (defBody s_Program_row_at) (defScope s_Program_row_at) .none xk_Program_row_at xc_Program_row_at xp_Program_row_at xa_Program_row_at xe_Program_row_at xt_Program_row_at), xs_Program_row_at⟩)
    (D_Program_row_at : PySem.W.codeIn K xe_Program_row_at "Program.row_at" = true)
    (P_Program_row_at : PySem.W.keepIn K (.ref m_Program_row_at) = true)
    : ∃ fd : FuncData, (∀ (s : Shared) (v : Value), BindsTo s fd ⟨[v], []⟩ [("_law_script", v)]) ∧ ∀ base : Heap, K.In base → base.Ns mainGlobals mg → FnOk PP w K mg base CX0 34 fa fd ["_law_script"] (spLaw K) := by
  have e := hfa.symm.trans (PySem.W.mg_of X G A_law)
  cases e
  have X_InvalidProgram : XCls PP K c_InvalidProgram := ⟨⟨_, _, _, _, _, _, _, _, _, _, _, _, _, _, _, l_InvalidProgram, rfl⟩, sa_InvalidProgram, su_InvalidProgram, opq, sg, by decide +kernel⟩
  have Y_InvalidProgram : XFn PP K c_InvalidProgram i_InvalidProgram "InvalidProgram.__init__" (defArgs s_InvalidProgram___init__) (defBody s_InvalidProgram___init__) (defScope s_InvalidProgram___init__) := ⟨⟨_, _, _, _, _, _, _, _, _, _, _, _, _, _, _, _, _, _, _, lf_InvalidProgram, cf_InvalidProgram, lc_InvalidProgram, ld_InvalidProgram, v2_InvalidProgram, fe_InvalidProgram⟩, ii_InvalidProgram, ti_InvalidProgram⟩
  have xm_InvalidProgram := Xm_InvalidProgram (w := w) X_InvalidProgram Y_InvalidProgram no_part_InvalidProgram no_path_InvalidProgram
  have ex_InvalidProgram := exm_own hs_InvalidProgram ic_InvalidProgram ty_InvalidProgram ss_InvalidProgram
  have xf_InvalidProgram : XfC K c_InvalidProgram := ⟨hg_InvalidProgram, hk_InvalidProgram, hs_InvalidProgram, hd_InvalidProgram⟩
  have X_InvalidArgument : XCls PP K c_InvalidArgument := ⟨⟨_, _, _, _, _, _, _, _, _, _, _, _, _, _, _, l_InvalidArgument, rfl⟩, sa_InvalidArgument, su_InvalidArgument, opq, sg, by decide +kernel⟩
  have Y_InvalidArgument : XFn PP K c_InvalidArgument i_InvalidArgument "InvalidArgument.__init__" (defArgs s_InvalidArgument___init__) (defBody s_InvalidArgument___init__) (defScope s_InvalidArgument___init__) := ⟨⟨_, _, _, _, _, _, _, _, _, _, _, _, _, _, _, _, _, _, _, lf_InvalidArgument, cf_InvalidArgument, lc_InvalidArgument, ld_InvalidArgument, v2_InvalidArgument, fe_InvalidArgument⟩, ii_InvalidArgument, ti_InvalidArgument⟩
  have xm_InvalidArgument := Xm_InvalidArgument (w := w) X_InvalidArgument Y_InvalidArgument no_part_InvalidArgument
  have ex_InvalidArgument := exm_own hs_InvalidArgument ic_InvalidArgument ty_InvalidArgument ss_InvalidArgument
  have xf_InvalidArgument : XfC K c_InvalidArgument := ⟨hg_InvalidArgument, hk_InvalidArgument, hs_InvalidArgument, hd_InvalidArgument⟩
  have kq1 : PySem.W.kitOne K (.ref c_InvalidArgument) (.ref c_InvalidProgram) = some false := kit_own kq1n ic_InvalidProgram ty_InvalidProgram kq1s
  have kq2 : PySem.W.kitOne K (.ref c_InvalidArgument) (.ref c_RunError) = some false := kit_own kq2n ic_RunError ty_RunError kq2s
  have kq3 : PySem.W.kitOne K (.ref c_InvalidArgument) (.ref c_InputError) = some true := kit_own kq3n ic_InputError ty_InputError kq3s
  have kq4 : PySem.W.kitOne K (.ref c_InvalidArgument) (.ref c_OpenError) = some true := kit_own kq4n ic_OpenError ty_OpenError kq4s
  have F_is_integer := fun_mk (st := s_is_integer) L_is_integer D_is_integer P_is_integer
  have B_is_integer := F_is_integer.binds (ps := ["value"]) fun _ _ _ _ _ _ us hl => match us, hl with | [_], _ => rfl
  have F_is_word := fun_mk (st := s_is_word) L_is_word D_is_word P_is_word
  have B_is_word := F_is_word.binds (ps := ["value"]) fun _ _ _ _ _ _ us hl => match us, hl with | [_], _ => rfl
  have F_are_words := fun_mk (st := s_are_words) L_are_words D_are_words P_are_words
  have B_are_words := F_are_words.binds (ps := ["value", "most"]) fun _ _ _ _ _ _ us hl => match us, hl with | [_, _], _ => rfl
  have F_is_branches := fun_mk (st := s_is_branches) L_is_branches D_is_branches P_is_branches
  have B_is_branches := F_is_branches.binds (ps := ["value"]) fun _ _ _ _ _ _ us hl => match us, hl with | [_], _ => rfl
  have F_inner_lists := fun_mk (st := s_inner_lists) L_inner_lists D_inner_lists P_inner_lists
  have B_inner_lists := F_inner_lists.binds (ps := ["row"]) fun _ _ _ _ _ _ us hl => match us, hl with | [_], _ => rfl
  have F_with_lists := fun_mk (st := s_with_lists) L_with_lists D_with_lists P_with_lists
  have B_with_lists := F_with_lists.binds (ps := ["row", "lists"]) fun _ _ _ _ _ _ us hl => match us, hl with | [_, _], _ => rfl
  have F_copy_row := fun_mk (st := s_copy_row) L_copy_row D_copy_row P_copy_row
  have B_copy_row := F_copy_row.binds (ps := ["row"]) fun _ _ _ _ _ _ us hl => match us, hl with | [_], _ => rfl
  have F_copy_rows := fun_mk (st := s_copy_rows) L_copy_rows D_copy_rows P_copy_rows
  have B_copy_rows := F_copy_rows.binds (ps := ["rows"]) fun _ _ _ _ _ _ us hl => match us, hl with | [_], _ => rfl
  have F_checked_asks := fun_mk (st := s_checked_asks) L_checked_asks D_checked_asks P_checked_asks
  have B_checked_asks := F_checked_asks.binds (ps := ["value"]) fun _ _ _ _ _ _ us hl => match us, hl with | [_], _ => rfl
  have F_is_box := fun_mk (st := s_is_box) L_is_box D_is_box P_is_box
  have B_is_box := F_is_box.binds (ps := ["value"]) fun _ _ _ _ _ _ us hl => match us, hl with | [_], _ => rfl
  have F_checked_signals := fun_mk (st := s_checked_signals) L_checked_signals D_checked_signals P_checked_signals
  have B_checked_signals := F_checked_signals.binds (ps := ["value"]) fun _ _ _ _ _ _ us hl => match us, hl with | [_], _ => rfl
  have F_checked_inputs := fun_mk (st := s_checked_inputs) L_checked_inputs D_checked_inputs P_checked_inputs
  have B_checked_inputs := F_checked_inputs.binds (ps := ["value"]) fun _ _ _ _ _ _ us hl => match us, hl with | [_], _ => rfl
  have F_is_path := fun_mk (st := s_is_path) L_is_path D_is_path P_is_path
  have B_is_path := F_is_path.binds (ps := ["value"]) fun _ _ _ _ _ _ us hl => match us, hl with | [_], _ => rfl
  have F__law_bag := fun_mk (st := s__law_bag) L__law_bag D__law_bag P__law_bag
  have B__law_bag := F__law_bag.binds (ps := ["_law_script"]) fun _ _ _ _ _ _ us hl => match us, hl with | [_], _ => rfl
  have F__law_draw := fun_mk (st := s__law_draw) L__law_draw D__law_draw P__law_draw
  have B__law_draw := F__law_draw.binds (ps := ["_law_bag_here", "_law_many"]) fun _ _ _ _ _ _ us hl => match us, hl with | [_, _], _ => rfl
  have F__law_one := fun_mk (st := s__law_one) L__law_one D__law_one P__law_one
  have B__law_one := F__law_one.binds (ps := ["_law_bag_here", "_law_items"]) fun _ _ _ _ _ _ us hl => match us, hl with | [_, _], _ => rfl
  have F__law_words := fun_mk (st := s__law_words) L__law_words D__law_words P__law_words
  have B__law_words := F__law_words.binds (ps := ["_law_bag_here", "_law_many", "_law_most", "_law_taken"]) fun _ _ _ _ _ _ us hl => match us, hl with | [_, _, _, _], _ => rfl
  have F__law_kit := fun_mk (st := s__law_kit) L__law_kit D__law_kit P__law_kit
  have B__law_kit := F__law_kit.binds (ps := ["_law_bag_here", "_law_room", "_law_deepest", "_law_gated"]) fun _ _ _ _ _ _ us hl => match us, hl with | [_, _, _, _], _ => rfl
  have F__law_start_row := fun_mk (st := s__law_start_row) L__law_start_row D__law_start_row P__law_start_row
  have B__law_start_row := F__law_start_row.binds (ps := ["_law_bag_here", "_law_kit_here", "_law_label"]) fun _ _ _ _ _ _ us hl => match us, hl with | [_, _, _], _ => rfl
  have F__law_plain_row := fun_mk (st := s__law_plain_row) L__law_plain_row D__law_plain_row P__law_plain_row
  have B__law_plain_row := F__law_plain_row.binds (ps := ["_law_bag_here", "_law_kit_here", "_law_pick", "_law_inside"]) fun _ _ _ _ _ _ us hl => match us, hl with | [_, _, _, _], _ => rfl
  have F__law_great_row := fun_mk (st := s__law_great_row) L__law_great_row D__law_great_row P__law_great_row
  have B__law_great_row := F__law_great_row.binds (ps := ["_law_bag_here", "_law_kit_here", "_law_pick", "_law_depth", "_law_inside"]) fun _ _ _ _ _ _ us hl => match us, hl with | [_, _, _, _, _], _ => rfl
  have F__law_list := fun_mk (st := s__law_list) L__law_list D__law_list P__law_list
  have B__law_list := F__law_list.binds (ps := ["_law_bag_here", "_law_kit_here", "_law_depth", "_law_inside"]) fun _ _ _ _ _ _ us hl => match us, hl with | [_, _, _, _], _ => rfl
  have F__law_plan := fun_mk (st := s__law_plan) L__law_plan D__law_plan P__law_plan
  have B__law_plan := F__law_plan.binds (ps := ["_law_bag_here", "_law_room", "_law_deepest", "_law_gated"]) fun _ _ _ _ _ _ us hl => match us, hl with | [_, _, _, _], _ => rfl
  have F__law_copy_part := fun_mk (st := s__law_copy_part) L__law_copy_part D__law_copy_part P__law_copy_part
  have B__law_copy_part := F__law_copy_part.binds (ps := ["_law_part"]) fun _ _ _ _ _ _ us hl => match us, hl with | [_], _ => rfl
  have F__law_copy_rows := fun_mk (st := s__law_copy_rows) L__law_copy_rows D__law_copy_rows P__law_copy_rows
  have B__law_copy_rows := F__law_copy_rows.binds (ps := ["_law_rows"]) fun _ _ _ _ _ _ us hl => match us, hl with | [_], _ => rfl
  have F__law_program := fun_mk (st := s__law_program) L__law_program D__law_program P__law_program
  have B__law_program := F__law_program.binds (ps := ["_law_plan_here"]) fun _ _ _ _ _ _ us hl => match us, hl with | [_], _ => rfl
  have F__law_same := fun_mk (st := s__law_same) L__law_same D__law_same P__law_same
  have B__law_same := F__law_same.binds (ps := ["_law_told", "_law_due"]) fun _ _ _ _ _ _ us hl => match us, hl with | [_, _], _ => rfl
  have F__law_lists := fun_mk (st := s__law_lists) L__law_lists D__law_lists P__law_lists
  have B__law_lists := F__law_lists.binds (ps := ["_law_row"]) fun _ _ _ _ _ _ us hl => match us, hl with | [_], _ => rfl
  have F__law_paths := fun_mk (st := s__law_paths) L__law_paths D__law_paths P__law_paths
  have B__law_paths := F__law_paths.binds (ps := ["_law_rows", "_law_prefix"]) fun _ _ _ _ _ _ us hl => match us, hl with | [_, _], _ => rfl
  have F__law_at := fun_mk (st := s__law_at) L__law_at D__law_at P__law_at
  have B__law_at := F__law_at.binds (ps := ["_law_rows", "_law_path"]) fun _ _ _ _ _ _ us hl => match us, hl with | [_, _], _ => rfl
  have F__law_refused := fun_mk (st := s__law_refused) L__law_refused D__law_refused P__law_refused
  have B__law_refused := F__law_refused.binds (ps := ["_law_program_here", "_law_value"]) fun _ _ _ _ _ _ us hl => match us, hl with | [_, _], _ => rfl
  have F__law_wrong := fun_mk (st := s__law_wrong) L__law_wrong D__law_wrong P__law_wrong
  have B__law_wrong := F__law_wrong.binds (ps := ["_law_path"]) fun _ _ _ _ _ _ us hl => match us, hl with | [_], _ => rfl
  have F_law := fun_mk (st := s_law) L_law D_law P_law
  have B_law := F_law.binds (ps := ["_law_script"]) fun _ _ _ _ _ _ us hl => match us, hl with | [_], _ => rfl
  have cls_RowCheck : Cls K c_RowCheck := ⟨c1_RowCheck, c2_RowCheck, c3_RowCheck, c4_RowCheck⟩
  have F_RowCheck___init__ := fun_mk (st := s_RowCheck___init__) L_RowCheck___init__ D_RowCheck___init__ P_RowCheck___init__
  have B_RowCheck___init__ := F_RowCheck___init__.binds (ps := ["self", "asks", "signals", "with_edits"]) fun _ _ _ _ _ _ us hl => match us, hl with | [_, _, _, _], _ => rfl
  have M_RowCheck : Mk K c_RowCheck m_RowCheck___init__ := ⟨mk_RowCheck, at_RowCheck___init__, fn_RowCheck___init__, kp_RowCheck⟩
  have F_RowCheck_check := fun_mk (st := s_RowCheck_check) L_RowCheck_check D_RowCheck_check P_RowCheck_check
  have B_RowCheck_check := F_RowCheck_check.binds (ps := ["self", "rows"]) fun _ _ _ _ _ _ us hl => match us, hl with | [_, _], _ => rfl
  have M_RowCheck_check : Meth K c_RowCheck "check" m_RowCheck_check := ⟨at_RowCheck_check, fn_RowCheck_check, P_RowCheck_check⟩
  have F_RowCheck_check_sizes := fun_mk (st := s_RowCheck_check_sizes) L_RowCheck_check_sizes D_RowCheck_check_sizes P_RowCheck_check_sizes
  have B_RowCheck_check_sizes := F_RowCheck_check_sizes.binds (ps := ["self"]) fun _ _ _ _ _ _ us hl => match us, hl with | [_], _ => rfl
  have M_RowCheck_check_sizes : Meth K c_RowCheck "check_sizes" m_RowCheck_check_sizes := ⟨at_RowCheck_check_sizes, fn_RowCheck_check_sizes, P_RowCheck_check_sizes⟩
  have F_RowCheck_check_list := fun_mk (st := s_RowCheck_check_list) L_RowCheck_check_list D_RowCheck_check_list P_RowCheck_check_list
  have B_RowCheck_check_list := F_RowCheck_check_list.binds (ps := ["self", "rows", "prefix", "depth", "in_loop"]) fun _ _ _ _ _ _ us hl => match us, hl with | [_, _, _, _, _], _ => rfl
  have M_RowCheck_check_list : Meth K c_RowCheck "check_list" m_RowCheck_check_list := ⟨at_RowCheck_check_list, fn_RowCheck_check_list, P_RowCheck_check_list⟩
  have F_RowCheck_fits := fun_mk (st := s_RowCheck_fits) L_RowCheck_fits D_RowCheck_fits P_RowCheck_fits
  have B_RowCheck_fits := F_RowCheck_fits.binds (ps := ["self", "row", "depth", "in_loop"]) fun _ _ _ _ _ _ us hl => match us, hl with | [_, _, _, _], _ => rfl
  have M_RowCheck_fits : Meth K c_RowCheck "fits" m_RowCheck_fits := ⟨at_RowCheck_fits, fn_RowCheck_fits, P_RowCheck_fits⟩
  have F_RowCheck_id_fits := fun_mk (st := s_RowCheck_id_fits) L_RowCheck_id_fits D_RowCheck_id_fits P_RowCheck_id_fits
  have B_RowCheck_id_fits := F_RowCheck_id_fits.binds (ps := ["self", "row"]) fun _ _ _ _ _ _ us hl => match us, hl with | [_, _], _ => rfl
  have M_RowCheck_id_fits : Meth K c_RowCheck "id_fits" m_RowCheck_id_fits := ⟨at_RowCheck_id_fits, fn_RowCheck_id_fits, P_RowCheck_id_fits⟩
  have F_RowCheck_part_fits := fun_mk (st := s_RowCheck_part_fits) L_RowCheck_part_fits D_RowCheck_part_fits P_RowCheck_part_fits
  have B_RowCheck_part_fits := F_RowCheck_part_fits.binds (ps := ["self", "code", "part"]) fun _ _ _ _ _ _ us hl => match us, hl with | [_, _, _], _ => rfl
  have M_RowCheck_part_fits : Meth K c_RowCheck "part_fits" m_RowCheck_part_fits := ⟨at_RowCheck_part_fits, fn_RowCheck_part_fits, P_RowCheck_part_fits⟩
  have F_RowCheck_collect := fun_mk (st := s_RowCheck_collect) L_RowCheck_collect D_RowCheck_collect P_RowCheck_collect
  have B_RowCheck_collect := F_RowCheck_collect.binds (ps := ["self", "row"]) fun _ _ _ _ _ _ us hl => match us, hl with | [_, _], _ => rfl
  have M_RowCheck_collect : Meth K c_RowCheck "collect" m_RowCheck_collect := ⟨at_RowCheck_collect, fn_RowCheck_collect, P_RowCheck_collect⟩
  have cls_Program : Cls K c_Program := ⟨c1_Program, c2_Program, c3_Program, c4_Program⟩
  have F_Program___init__ := fun_mk (st := s_Program___init__) L_Program___init__ D_Program___init__ P_Program___init__
  have M_Program : Mk K c_Program m_Program___init__ := ⟨mk_Program, at_Program___init__, fn_Program___init__, kp_Program⟩
  have F_Program_add_rows := fun_mk (st := s_Program_add_rows) L_Program_add_rows D_Program_add_rows P_Program_add_rows
  have B_Program_add_rows := F_Program_add_rows.binds (ps := ["self", "rows", "prefix"]) fun _ _ _ _ _ _ us hl => match us, hl with | [_, _, _], _ => rfl
  have M_Program_add_rows : Meth K c_Program "add_rows" m_Program_add_rows := ⟨at_Program_add_rows, fn_Program_add_rows, P_Program_add_rows⟩
  have F_Program_paths := fun_mk (st := s_Program_paths) L_Program_paths D_Program_paths P_Program_paths
  have B_Program_paths := F_Program_paths.binds (ps := ["self"]) fun _ _ _ _ _ _ us hl => match us, hl with | [_], _ => rfl
  have M_Program_paths : Meth K c_Program "paths" m_Program_paths := ⟨at_Program_paths, fn_Program_paths, P_Program_paths⟩
  have F_Program_rows := fun_mk (st := s_Program_rows) L_Program_rows D_Program_rows P_Program_rows
  have B_Program_rows := F_Program_rows.binds (ps := ["self"]) fun _ _ _ _ _ _ us hl => match us, hl with | [_], _ => rfl
  have M_Program_rows : Meth K c_Program "rows" m_Program_rows := ⟨at_Program_rows, fn_Program_rows, P_Program_rows⟩
  have F_Program_row_at := fun_mk (st := s_Program_row_at) L_Program_row_at D_Program_row_at P_Program_row_at
  have B_Program_row_at := F_Program_row_at.binds (ps := ["self", "path"]) fun _ _ _ _ _ _ us hl => match us, hl with | [_, _], _ => rfl
  have M_Program_row_at : Meth K c_Program "row_at" m_Program_row_at := ⟨at_Program_row_at, fn_Program_row_at, P_Program_row_at⟩
  have T0 : Txt mg := { b_len := PySem.W.mg_none_of X G z_len, b_int := PySem.W.mg_none_of X G z_int, b_bool := PySem.W.mg_none_of X G z_bool, b_str := PySem.W.mg_none_of X G z_str, b_list := PySem.W.mg_none_of X G z_list, b_tuple := PySem.W.mg_none_of X G z_tuple, b_dict := PySem.W.mg_none_of X G z_dict, b_set := PySem.W.mg_none_of X G z_set, b_range := PySem.W.mg_none_of X G z_range, b_zip := PySem.W.mg_none_of X G z_zip, b_enumerate := PySem.W.mg_none_of X G z_enumerate, b_sorted := PySem.W.mg_none_of X G z_sorted, b_isinstance := PySem.W.mg_none_of X G z_isinstance, g_LETTERS := ⟨_, PySem.W.mg_of X G z_LETTERS⟩ }
  have T : TxtC PP w K mg p_SHAPES c_InvalidProgram := { T0 with g_SHAPES := PySem.W.mg_of X G A_SHAPES, w_SHAPES := ⟨_, _, L_SHAPES, E_SHAPES, S_SHAPES⟩, g_MOST_ROWS := ⟨_, PySem.W.mg_of X G z_MOST_ROWS⟩, g_MOST_LABELS := ⟨_, PySem.W.mg_of X G z_MOST_LABELS⟩, g_MOST_SLOTS := ⟨_, PySem.W.mg_of X G z_MOST_SLOTS⟩, g_MOST_GATES := ⟨_, PySem.W.mg_of X G z_MOST_GATES⟩, g_MOST_EDITS := ⟨_, PySem.W.mg_of X G z_MOST_EDITS⟩, g_DEEPEST := ⟨_, PySem.W.mg_of X G z_DEEPEST⟩, g_InvalidProgram := PySem.W.mg_of X G A_InvalidProgram, k_InvalidProgram := kp_InvalidProgram, mk_InvalidProgram := xm_InvalidProgram.1, r_InvalidProgram := fun _ _ k => ⟨PySem.W.looks_subIn k hs_InvalidProgram, PySem.W.looks_typeIn k ty_InvalidProgram⟩ }
  have rc : RcC K c_RowCheck := ⟨cls_RowCheck, n_RowCheck_known_asks, n_RowCheck_known_signals, n_RowCheck_with_edits, n_RowCheck_total, n_RowCheck_label_words, n_RowCheck_slot_words, n_RowCheck_gate_words, n_RowCheck_edit_words⟩
  have pc : PgC K c_Program := ⟨cls_Program, n_Program_ask_table, n_Program_signal_table, n_Program_input_words, n_Program_row_list, n_Program_label_names, n_Program_slot_names, n_Program_gate_names, n_Program_row_table, n_Program_list_sizes⟩
  have TA : TxtA PP w K mg c_InvalidArgument := { T0 with g_InvalidArgument := PySem.W.mg_of X G A_InvalidArgument, k_InvalidArgument := kp_InvalidArgument, mk_InvalidArgument := xm_InvalidArgument.1, r_InvalidArgument := fun _ _ k => ⟨PySem.W.looks_subIn k hs_InvalidArgument, PySem.W.looks_typeIn k ty_InvalidArgument⟩ }
  have TR : TxtR PP w K mg c_InvalidArgument c_InvalidProgram c_RunError c_InputError c_OpenError := { TA with g_InvalidProgram := PySem.W.mg_of X G A_InvalidProgram, g_RunError := PySem.W.mg_of X G A_RunError, g_InputError := PySem.W.mg_of X G A_InputError, g_OpenError := PySem.W.mg_of X G A_OpenError, k1 := kq1, k2 := kq2, k3 := kq3, k4 := kq4, xa := ⟨hg_InvalidArgument, hk_InvalidArgument, hs_InvalidArgument, hd_InvalidArgument, xa1, xa2, xa3, xa4⟩, xf := xf_InvalidArgument, n1 := no_part_InvalidArgument, hex := ex_InvalidArgument }
  refine ⟨PySem.W.fnOf "law" "law" (defArgs s_law) (defBody s_law) (defScope s_law) .none xk_law xc_law xp_law xa_law xe_law xt_law, fun s v => .of_eq rfl, fun base _ _ => ?_⟩
  have c_is_integer : Cal PP w K mg base CX0 1 "is_integer" ["value"] (spInt K) := ⟨g_is_integer, _, PySem.W.mg_of X G A_is_integer, P_is_integer, B_is_integer, ok_is_integer F_is_integer T0⟩
  have c_is_word : Cal PP w K mg base CX0 1 "is_word" ["value"] (spWord K) := ⟨g_is_word, _, PySem.W.mg_of X G A_is_word, P_is_word, B_is_word, ok_is_word F_is_word T0⟩
  have c_are_words : Cal PP w K mg base CX0 2 "are_words" ["value", "most"] (spAreWords K) := ⟨g_are_words, _, PySem.W.mg_of X G A_are_words, P_are_words, B_are_words, ok_are_words F_are_words T0 c_is_word⟩
  have c_is_branches : Cal PP w K mg base CX0 1 "is_branches" ["value"] (spBr K) := ⟨g_is_branches, _, PySem.W.mg_of X G A_is_branches, P_is_branches, B_is_branches, ok_is_branches F_is_branches T0⟩
  have c_inner_lists : Cal PP w K mg base CX0 1 "inner_lists" ["row"] (spInner K) := ⟨g_inner_lists, _, PySem.W.mg_of X G A_inner_lists, P_inner_lists, B_inner_lists, ok_inner_lists F_inner_lists T0⟩
  have c_with_lists : Cal PP w K mg base CX0 1 "with_lists" ["row", "lists"] (spWith K) := ⟨g_with_lists, _, PySem.W.mg_of X G A_with_lists, P_with_lists, B_with_lists, ok_with_lists F_with_lists T0⟩
  have c_copy_rows : Cal PP w K mg base CX0 11 "copy_rows" ["rows"] (spCRows K 5) := ok_copies F_copy_rows F_copy_row T0 (PySem.W.mg_of X G A_copy_rows) (PySem.W.mg_of X G A_copy_row) P_copy_rows P_copy_row B_copy_rows B_copy_row c_inner_lists c_with_lists 5
  have c_checked_asks : Cal PP w K mg base (L2.CX PP w) 3 "checked_asks" ["value"] (spTab K c_InvalidProgram "asks" (areWords 4) 6) := ⟨g_checked_asks, _, PySem.W.mg_of X G A_checked_asks, P_checked_asks, B_checked_asks, ok_checked_asks F_checked_asks T c_is_word c_are_words⟩
  have c_is_box : Cal PP w K mg base CX0 3 "is_box" ["value"] (spBox K) := ⟨g_is_box, _, PySem.W.mg_of X G A_is_box, P_is_box, B_is_box, ok_is_box F_is_box T0 c_is_integer c_are_words⟩
  have c_checked_signals : Cal PP w K mg base (L2.CX PP w) 4 "checked_signals" ["value"] (spTab K c_InvalidProgram "signals" isBox 3) := ⟨g_checked_signals, _, PySem.W.mg_of X G A_checked_signals, P_checked_signals, B_checked_signals, ok_checked_signals F_checked_signals T c_is_word c_is_box⟩
  have c_checked_inputs : Cal PP w K mg base (L2.CX PP w) 3 "checked_inputs" ["value"] (spInputs K c_InvalidProgram) := ⟨g_checked_inputs, _, PySem.W.mg_of X G A_checked_inputs, P_checked_inputs, B_checked_inputs, ok_checked_inputs F_checked_inputs T c_are_words⟩
  have m_part_fits : Mcal PP w K mg base CX0 3 c_RowCheck "part_fits" ["self", "code", "part"] (spPF K) := ⟨m_RowCheck_part_fits, _, M_RowCheck_part_fits, B_RowCheck_part_fits, ok_part_fits F_RowCheck_part_fits T0 c_is_word c_are_words c_is_branches⟩
  have m_id_fits : Mcal PP w K mg base CX0 1 c_RowCheck "id_fits" ["self", "row"] (spID K) := ⟨m_RowCheck_id_fits, _, M_RowCheck_id_fits, B_RowCheck_id_fits, ok_id_fits F_RowCheck_id_fits⟩
  have m_collect : Mcal PP w K mg base CX0 1 c_RowCheck "collect" ["self", "row"] (spCol K) := ⟨m_RowCheck_collect, _, M_RowCheck_collect, B_RowCheck_collect, ok_collect F_RowCheck_collect T⟩
  have m_fits : Mcal PP w K mg base CX0 4 c_RowCheck "fits" ["self", "row", "depth", "in_loop"] (spFits K c_RowCheck) := ⟨m_RowCheck_fits, _, M_RowCheck_fits, B_RowCheck_fits, ok_fits F_RowCheck_fits T rc m_part_fits m_id_fits⟩
  have m_check_list : Mcal PP w K mg base (L2.CX PP w) 11 c_RowCheck "check_list" ["self", "rows", "prefix", "depth", "in_loop"] (spCL K c_RowCheck c_InvalidProgram 5) := ⟨m_RowCheck_check_list, _, M_RowCheck_check_list, B_RowCheck_check_list, ok_check_list F_RowCheck_check_list T rc M_RowCheck_check_list B_RowCheck_check_list m_fits m_collect c_inner_lists 5⟩
  have m_check_sizes : Mcal PP w K mg base (L2.CX PP w) 1 c_RowCheck "check_sizes" ["self"] (spSizes K c_RowCheck c_InvalidProgram) := ⟨m_RowCheck_check_sizes, _, M_RowCheck_check_sizes, B_RowCheck_check_sizes, ok_check_sizes F_RowCheck_check_sizes T rc⟩
  have m_check : Mcal PP w K mg base (L2.CX PP w) 12 c_RowCheck "check" ["self", "rows"] (spCheck K c_RowCheck c_InvalidProgram) := ⟨m_RowCheck_check, _, M_RowCheck_check, B_RowCheck_check, ok_check F_RowCheck_check T rc m_check_list m_check_sizes⟩
  have k_RowCheck : Kcal PP w K mg base CX0 1 "RowCheck" c_RowCheck ["self", "asks", "signals", "with_edits"] (spRcInit K c_RowCheck) := ⟨m_RowCheck___init__, _, M_RowCheck, PySem.W.mg_of X G A_RowCheck, B_RowCheck___init__, ok_rcinit F_RowCheck___init__ rc⟩
  have c_inner_listsG : Cal PP w K mg base CX0 1 "inner_lists" ["row"] (spInnerG K) := ⟨g_inner_lists, _, PySem.W.mg_of X G A_inner_lists, P_inner_lists, B_inner_lists, ok_inner_listsG F_inner_lists T0⟩
  have m_add_rows : Mcal PP w K mg base CX0 7 c_Program "add_rows" ["self", "rows", "prefix"] (spAdd K c_Program 5) := ⟨m_Program_add_rows, _, M_Program_add_rows, B_Program_add_rows, ok_add_rows F_Program_add_rows T0 pc M_Program_add_rows B_Program_add_rows c_inner_listsG 5⟩
  have k_Program : KcalN PP w K mg base (L2.CX PP w) 13 "Program" c_Program ["self", "rows", "asks", "signals", "inputs"] 1 ["asks", "signals", "inputs"] (spProg K c_Program c_InvalidProgram) := ⟨m_Program___init__, _, fun us ws => us ++ ws, M_Program, PySem.W.mg_of X G A_Program, ⟨fun s us ws _ l1 l2 => match us, l1, ws, l2 with | [_, _], _, [_, _, _], _ => .of_eq rfl, fun r1 r2 => vals_app r1 r2⟩, ok_prog F_Program___init__ T pc rc c_checked_asks c_checked_signals c_checked_inputs k_RowCheck m_check c_copy_rows m_add_rows⟩
  have c_with_listsL : Cal PP w K mg base CX0 1 "with_lists" ["row", "lists"] (spWithL K) := ⟨g_with_lists, _, PySem.W.mg_of X G A_with_lists, P_with_lists, B_with_lists, ok_with_listsL F_with_lists T0⟩
  have c_copy_rows4 : Cal PP w K mg base CX0 9 "copy_rows" ["rows"] (spCRows K 4) := ok_copies F_copy_rows F_copy_row T0 (PySem.W.mg_of X G A_copy_rows) (PySem.W.mg_of X G A_copy_row) P_copy_rows P_copy_row B_copy_rows B_copy_row c_inner_lists c_with_lists 4
  have c_copy_rowL : Cal PP w K mg base CX0 10 "copy_row" ["row"] (spCRowL K 4) := ⟨g_copy_row, _, PySem.W.mg_of X G A_copy_row, P_copy_row, B_copy_row, ok_copy_rowL (k := 8) F_copy_row T0 c_inner_lists c_with_listsL c_copy_rows4⟩
  have c_is_path : Cal PP w K mg base CX0 2 "is_path" ["value"] (spIsPath K) := ⟨g_is_path, _, PySem.W.mg_of X G A_is_path, P_is_path, B_is_path, ok_is_path F_is_path T0 c_is_integer⟩
  have m_paths : Mcal PP w K mg base CX0 1 c_Program "paths" ["self"] (spPathsM K c_Program) := ⟨m_Program_paths, _, M_Program_paths, B_Program_paths, ok_ppaths F_Program_paths T0 pc⟩
  have m_rows : Mcal PP w K mg base CX0 12 c_Program "rows" ["self"] (spRowsM K c_Program) := ⟨m_Program_rows, _, M_Program_rows, B_Program_rows, ok_prows F_Program_rows pc c_copy_rows⟩
  have m_row_at : Mcal PP w K mg base (L2N.CX PP w) 11 c_Program "row_at" ["self", "path"] (spRowAt K c_Program c_InvalidArgument) := ⟨m_Program_row_at, _, M_Program_row_at, B_Program_row_at, ok_prow_at F_Program_row_at TA pc c_is_path c_copy_rowL⟩
  have c__law_bag : Cal PP w K mg base CX0 1 "_law_bag" ["_law_script"] (spBag K) := ⟨g__law_bag, _, PySem.W.mg_of X G A__law_bag, P__law_bag, B__law_bag, ok_bag F__law_bag T0⟩
  have c__law_draw : Cal PP w K mg base CX0 1 "_law_draw" ["_law_bag_here", "_law_many"] spD := ⟨g__law_draw, _, PySem.W.mg_of X G A__law_draw, P__law_draw, B__law_draw, ok_draw F__law_draw T0⟩
  have c__law_one : Cal PP w K mg base CX0 2 "_law_one" ["_law_bag_here", "_law_items"] (spOne K) := ⟨g__law_one, _, PySem.W.mg_of X G A__law_one, P__law_one, B__law_one, ok_one F__law_one T0 c__law_draw⟩
  have c__law_words : Cal PP w K mg base CX0 2 "_law_words" ["_law_bag_here", "_law_many", "_law_most", "_law_taken"] (spWords K) := ⟨g__law_words, _, PySem.W.mg_of X G A__law_words, P__law_words, B__law_words, ok_words F__law_words T0 c__law_draw⟩
  have c__law_kit : Cal PP w K mg base CX0 3 "_law_kit" ["_law_bag_here", "_law_room", "_law_deepest", "_law_gated"] (spKit K) := ⟨g__law_kit, _, PySem.W.mg_of X G A__law_kit, P__law_kit, B__law_kit, ok_kit F__law_kit T0 c__law_draw c__law_words⟩
  have c__law_start_row : Cal PP w K mg base CX0 3 "_law_start_row" ["_law_bag_here", "_law_kit_here", "_law_label"] (spStart K) := ⟨g__law_start_row, _, PySem.W.mg_of X G A__law_start_row, P__law_start_row, B__law_start_row, ok_start F__law_start_row T0 c__law_draw c__law_one⟩
  have c__law_plain_row : Cal PP w K mg base CX0 4 "_law_plain_row" ["_law_bag_here", "_law_kit_here", "_law_pick", "_law_inside"] (spPlain K) := ⟨g__law_plain_row, _, PySem.W.mg_of X G A__law_plain_row, P__law_plain_row, B__law_plain_row, ok_plain F__law_plain_row T0 c__law_draw c__law_one c__law_words c__law_start_row⟩
  have c__law_list : Cal PP w K mg base CX0 14 "_law_list" ["_law_bag_here", "_law_kit_here", "_law_depth", "_law_inside"] (spList K 5) := ok_gen F__law_list F__law_great_row T0 (PySem.W.mg_of X G A__law_list) (PySem.W.mg_of X G A__law_great_row) P__law_list P__law_great_row B__law_list B__law_great_row c__law_draw c__law_one c__law_start_row c__law_plain_row 5
  have c__law_plan : Cal PP w K mg base CX0 15 "_law_plan" ["_law_bag_here", "_law_room", "_law_deepest", "_law_gated"] (spPlan K) := ⟨g__law_plan, _, PySem.W.mg_of X G A__law_plan, P__law_plan, B__law_plan, ok_plan F__law_plan T0 c__law_kit c__law_list⟩
  have c__law_copy_part : Cal PP w K mg base CX0 31 "_law_copy_part" ["_law_part"] (spCopyP K 15) := ok_lcopies F__law_copy_part F__law_copy_rows T0 (PySem.W.mg_of X G A__law_copy_part) (PySem.W.mg_of X G A__law_copy_rows) P__law_copy_part P__law_copy_rows B__law_copy_part B__law_copy_rows 15
  have c__law_copy_rows : Cal PP w K mg base CX0 32 "_law_copy_rows" ["_law_rows"] (spCopyR K 15) := ⟨g__law_copy_rows, _, PySem.W.mg_of X G A__law_copy_rows, P__law_copy_rows, B__law_copy_rows, ok_lcopy_rows F__law_copy_rows T0 c__law_copy_part⟩
  have c__law_program : Cal PP w K mg base CX0 33 "_law_program" ["_law_plan_here"] (spProgram K c_Program) := ⟨g__law_program, _, PySem.W.mg_of X G A__law_program, P__law_program, B__law_program, ok_program F__law_program T0 c__law_copy_rows k_Program⟩
  have c__law_listsA : Cal PP w K mg base CX0 1 "_law_lists" ["_law_row"] (spInnerG K) := ⟨g__law_lists, _, PySem.W.mg_of X G A__law_lists, P__law_lists, B__law_lists, ok_lists F__law_lists T0⟩
  have c__law_lists : Cal PP w K mg base CX0 1 "_law_lists" ["_law_row"] (fun vs H Q E => spInnerG K vs H Q E ∨ spLsB K vs H Q E) := ⟨g__law_lists, _, PySem.W.mg_of X G A__law_lists, P__law_lists, B__law_lists, Op.FnOk.or (ok_lists F__law_lists T0) (ok_listsB F__law_lists T0)⟩
  have c__law_paths : Cal PP w K mg base CX0 6 "_law_paths" ["_law_rows", "_law_prefix"] (spPaths K 5) := ok_lpathsN F__law_paths T0 (PySem.W.mg_of X G A__law_paths) P__law_paths B__law_paths c__law_listsA 5
  have c__law_at : Cal PP w K mg base CX0 6 "_law_at" ["_law_rows", "_law_path"] (spAt K 5) := ok_latN F__law_at T0 (PySem.W.mg_of X G A__law_at) P__law_at B__law_at c__law_listsA 5
  have c__law_same : Cal PP w K mg base CX0 17 "_law_same" ["_law_told", "_law_due"] (spSame K 16) := ok_sameN F__law_same T0 (PySem.W.mg_of X G A__law_same) P__law_same B__law_same 16
  have c__law_wrong : Cal PP w K mg base CX0 1 "_law_wrong" ["_law_path"] (spWrong K) := ⟨g__law_wrong, _, PySem.W.mg_of X G A__law_wrong, P__law_wrong, B__law_wrong, ok_wrong F__law_wrong T0⟩
  have c__law_refused : Cal PP w K mg base CX0 13 "_law_refused" ["_law_program_here", "_law_value"] (spRefused K c_Program) := ⟨g__law_refused, _, PySem.W.mg_of X G A__law_refused, P__law_refused, B__law_refused, ok_refused F__law_refused TR pc m_row_at (ok_sameH F__law_same T0) (PySem.W.mg_of X G A__law_same) P__law_same B__law_same⟩
  exact ok_law F_law T0 pc c__law_bag c__law_draw c__law_plan c__law_program c__law_paths c__law_at c__law_lists c__law_same c__law_wrong c__law_refused m_paths m_rows m_row_at
theorem walk {q : Program} {loose : List Str} {XP : (Str → Option Value) → Heap → Prop} {YP : World → Heap → Prop} {d : DefRec} {K : Params → PySem.W.Frag} (hdf : d.params.defaults = [])
    (hY : ∀ (w : World) (h : Heap), YP w h → (K w.params).In h)
    (F : ∀ (w : World) (mg : Str → Option Value) (fa : Addr) (h : Heap), (K w.params).In h → h.Ns mainGlobals mg → mg d.name = some (.ref fa) →
      ∃ fd : FuncData, (∀ (s : Shared) (u : Value), BindsTo s fd ⟨[u], []⟩ [("_law_script", u)]) ∧ ∀ base : Heap, (K w.params).In base → base.Ns mainGlobals mg → FnOk PP w (K w.params) mg base CX0 34 fa fd ["_law_script"] (spLaw (K w.params))) :
    PySem.W.WalkO q loose XP YP PySem.Challenge.rw_openruns_k02_paths_of_rows.row.toRowW d [] (fun f vs => PySem.call f vs) :=
  L2.walk_of (l := PySem.Challenge.rw_openruns_k02_paths_of_rows) (n := 63) (k := 34) (x := "_law_script") (CX := fun _ => CX0) (sp := fun w => spLaw (K w.params)) rfl (by decide) hdf ⟨rfl, by decide, by decide⟩ hY F (fun _ _ a ns hl _ hS => ⟨a, ns, rfl, hS, hl, fun _ => rfl⟩) fun _ _ _ _ _ z => z
end Op
open PySem PySem.W PyProof.Rows
set_option maxRecDepth 100000 in
set_option maxHeartbeats 0 in
theorem PySem.Challenge.cw_openruns_k02_paths_of_rows_holds : PySem.Challenge.rw_openruns_k02_paths_of_rows.Holds := by
  w_on; o_law; k_head; (case hw => w_witness2)
  k_fill
  refine Op.walk rfl (fun w h Y => PySem.W.kIn_of Y) ?F
  case F =>
    intro w mg fa h KX G hmg
    refine' Op.all_mk KX G hmg ?z_len ?z_int ?z_bool ?z_str ?z_list ?z_tuple ?z_dict ?z_set ?z_range ?z_zip ?z_enumerate ?z_sorted ?z_isinstance ?z_LETTERS ?z_MOST_ROWS ?z_MOST_LABELS ?z_MOST_SLOTS ?z_MOST_GATES ?z_MOST_EDITS ?z_DEEPEST ?A_SHAPES ?L_SHAPES ?E_SHAPES ?S_SHAPES ?opq ?sg ?A_InputError ?A_OpenError ?A_RunError ?A_InvalidProgram ?l_InvalidProgram ?sa_InvalidProgram ?su_InvalidProgram ?ii_InvalidProgram ?ti_InvalidProgram ?lf_InvalidProgram ?cf_InvalidProgram ?lc_InvalidProgram ?ld_InvalidProgram ?v2_InvalidProgram ?fe_InvalidProgram ?kp_InvalidProgram ?hg_InvalidProgram ?hk_InvalidProgram ?hs_InvalidProgram ?hd_InvalidProgram ?ty_InvalidProgram ?ic_InvalidProgram ?ss_InvalidProgram ?no_part_InvalidProgram ?no_path_InvalidProgram ?A_InvalidArgument ?l_InvalidArgument ?sa_InvalidArgument ?su_InvalidArgument ?ii_InvalidArgument ?ti_InvalidArgument ?lf_InvalidArgument ?cf_InvalidArgument ?lc_InvalidArgument ?ld_InvalidArgument ?v2_InvalidArgument ?fe_InvalidArgument ?kp_InvalidArgument ?hg_InvalidArgument ?hk_InvalidArgument ?hs_InvalidArgument ?hd_InvalidArgument ?ty_InvalidArgument ?ic_InvalidArgument ?ss_InvalidArgument ?no_part_InvalidArgument ?xa1 ?xa2 ?xa3 ?xa4 ?kq1s ?kq1n ?ty_RunError ?ic_RunError ?kq2s ?kq2n ?ty_InputError ?ic_InputError ?kq3s ?kq3n ?ty_OpenError ?ic_OpenError ?kq4s ?kq4n ?A_is_integer ?L_is_integer ?D_is_integer ?P_is_integer ?A_is_word ?L_is_word ?D_is_word ?P_is_word ?A_are_words ?L_are_words ?D_are_words ?P_are_words ?A_is_branches ?L_is_branches ?D_is_branches ?P_is_branches ?A_inner_lists ?L_inner_lists ?D_inner_lists ?P_inner_lists ?A_with_lists ?L_with_lists ?D_with_lists ?P_with_lists ?A_copy_row ?L_copy_row ?D_copy_row ?P_copy_row ?A_copy_rows ?L_copy_rows ?D_copy_rows ?P_copy_rows ?A_checked_asks ?L_checked_asks ?D_checked_asks ?P_checked_asks ?A_is_box ?L_is_box ?D_is_box ?P_is_box ?A_checked_signals ?L_checked_signals ?D_checked_signals ?P_checked_signals ?A_checked_inputs ?L_checked_inputs ?D_checked_inputs ?P_checked_inputs ?A_is_path ?L_is_path ?D_is_path ?P_is_path ?A__law_bag ?L__law_bag ?D__law_bag ?P__law_bag ?A__law_draw ?L__law_draw ?D__law_draw ?P__law_draw ?A__law_one ?L__law_one ?D__law_one ?P__law_one ?A__law_words ?L__law_words ?D__law_words ?P__law_words ?A__law_kit ?L__law_kit ?D__law_kit ?P__law_kit ?A__law_start_row ?L__law_start_row ?D__law_start_row ?P__law_start_row ?A__law_plain_row ?L__law_plain_row ?D__law_plain_row ?P__law_plain_row ?A__law_great_row ?L__law_great_row ?D__law_great_row ?P__law_great_row ?A__law_list ?L__law_list ?D__law_list ?P__law_list ?A__law_plan ?L__law_plan ?D__law_plan ?P__law_plan ?A__law_copy_part ?L__law_copy_part ?D__law_copy_part ?P__law_copy_part ?A__law_copy_rows ?L__law_copy_rows ?D__law_copy_rows ?P__law_copy_rows ?A__law_program ?L__law_program ?D__law_program ?P__law_program ?A__law_same ?L__law_same ?D__law_same ?P__law_same ?A__law_lists ?L__law_lists ?D__law_lists ?P__law_lists ?A__law_paths ?L__law_paths ?D__law_paths ?P__law_paths ?A__law_at ?L__law_at ?D__law_at ?P__law_at ?A__law_refused ?L__law_refused ?D__law_refused ?P__law_refused ?A__law_wrong ?L__law_wrong ?D__law_wrong ?P__law_wrong ?A_law ?L_law ?D_law ?P_law ?A_RowCheck ?c1_RowCheck ?c2_RowCheck ?c3_RowCheck ?c4_RowCheck ?n_RowCheck_known_asks ?n_RowCheck_known_signals ?n_RowCheck_with_edits ?n_RowCheck_total ?n_RowCheck_label_words ?n_RowCheck_slot_words ?n_RowCheck_gate_words ?n_RowCheck_edit_words ?mk_RowCheck ?kp_RowCheck ?at_RowCheck___init__ ?fn_RowCheck___init__ ?L_RowCheck___init__ ?D_RowCheck___init__ ?P_RowCheck___init__ ?at_RowCheck_check ?fn_RowCheck_check ?L_RowCheck_check ?D_RowCheck_check ?P_RowCheck_check ?at_RowCheck_check_sizes ?fn_RowCheck_check_sizes ?L_RowCheck_check_sizes ?D_RowCheck_check_sizes ?P_RowCheck_check_sizes ?at_RowCheck_check_list ?fn_RowCheck_check_list ?L_RowCheck_check_list ?D_RowCheck_check_list ?P_RowCheck_check_list ?at_RowCheck_fits ?fn_RowCheck_fits ?L_RowCheck_fits ?D_RowCheck_fits ?P_RowCheck_fits ?at_RowCheck_id_fits ?fn_RowCheck_id_fits ?L_RowCheck_id_fits ?D_RowCheck_id_fits ?P_RowCheck_id_fits ?at_RowCheck_part_fits ?fn_RowCheck_part_fits ?L_RowCheck_part_fits ?D_RowCheck_part_fits ?P_RowCheck_part_fits ?at_RowCheck_collect ?fn_RowCheck_collect ?L_RowCheck_collect ?D_RowCheck_collect ?P_RowCheck_collect ?A_Program ?c1_Program ?c2_Program ?c3_Program ?c4_Program ?n_Program_ask_table ?n_Program_signal_table ?n_Program_input_words ?n_Program_row_list ?n_Program_label_names ?n_Program_slot_names ?n_Program_gate_names ?n_Program_row_table ?n_Program_list_sizes ?mk_Program ?kp_Program ?at_Program___init__ ?fn_Program___init__ ?L_Program___init__ ?D_Program___init__ ?P_Program___init__ ?at_Program_add_rows ?fn_Program_add_rows ?L_Program_add_rows ?D_Program_add_rows ?P_Program_add_rows ?at_Program_paths ?fn_Program_paths ?L_Program_paths ?D_Program_paths ?P_Program_paths ?at_Program_rows ?fn_Program_rows ?L_Program_rows ?D_Program_rows ?P_Program_rows ?at_Program_row_at ?fn_Program_row_at ?L_Program_row_at ?D_Program_row_at ?P_Program_row_at
    (case z_len => k_is)
    (case z_int => k_is)
    (case z_bool => k_is)
    (case z_str => k_is)
    (case z_list => k_is)
    (case z_tuple => k_is)
    (case z_dict => k_is)
    (case z_set => k_is)
    (case z_range => k_is)
    (case z_zip => k_is)
    (case z_enumerate => k_is)
    (case z_sorted => k_is)
    (case z_isinstance => k_is)
    (case z_LETTERS => k_is)
    (case z_MOST_ROWS => k_is)
    (case z_MOST_LABELS => k_is)
    (case z_MOST_SLOTS => k_is)
    (case z_MOST_GATES => k_is)
    (case z_MOST_EDITS => k_is)
    (case z_DEEPEST => k_is)
    (case A_SHAPES => k_is)
    (case L_SHAPES => k_is)
    (case E_SHAPES => exact ⟨⟨_, rfl, rfl⟩, ⟨_, rfl⟩, ⟨⟨_, rfl, rfl⟩, ⟨_, rfl⟩, ⟨⟨_, rfl, rfl⟩, ⟨_, rfl⟩, ⟨⟨_, rfl, rfl⟩, ⟨_, rfl⟩, ⟨⟨_, rfl, rfl⟩, ⟨_, rfl⟩, ⟨⟨_, rfl, rfl⟩, ⟨_, rfl⟩, ⟨⟨_, rfl, rfl⟩, ⟨_, rfl⟩, ⟨⟨_, rfl, rfl⟩, ⟨_, rfl⟩, ⟨⟨_, rfl, rfl⟩, ⟨_, rfl⟩, ⟨⟨_, rfl, rfl⟩, ⟨_, rfl⟩, ⟨⟨_, rfl, rfl⟩, ⟨_, rfl⟩, ⟨⟨_, rfl, rfl⟩, ⟨_, rfl⟩, ⟨⟨_, rfl, rfl⟩, ⟨_, rfl⟩, ⟨⟨_, rfl, rfl⟩, ⟨_, rfl⟩, ⟨⟨_, rfl, rfl⟩, ⟨_, rfl⟩, ⟨⟨_, rfl, rfl⟩, ⟨_, rfl⟩, ⟨⟨_, rfl, rfl⟩, ⟨_, rfl⟩, ⟨⟨_, rfl, rfl⟩, ⟨_, rfl⟩, trivial⟩⟩⟩⟩⟩⟩⟩⟩⟩⟩⟩⟩⟩⟩⟩⟩⟩⟩)
    (case S_SHAPES => rfl)
    (case opq => k_is)
    (case sg => k_is)
    (case A_InputError => k_is)
    (case A_OpenError => k_is)
    (case A_RunError => k_is)
    (case A_InvalidProgram => k_is)
    (case l_InvalidProgram => k_is)
    (case sa_InvalidProgram => k_is)
    (case su_InvalidProgram => rfl)
    (case ii_InvalidProgram => k_is)
    (case ti_InvalidProgram => k_is)
    (case lf_InvalidProgram => k_is)
    (case cf_InvalidProgram => k_is)
    (case lc_InvalidProgram => k_is)
    (case ld_InvalidProgram => k_is)
    (case v2_InvalidProgram => rfl)
    (case fe_InvalidProgram => decide +kernel)
    (case kp_InvalidProgram => k_is)
    (case hg_InvalidProgram => k_is)
    (case hk_InvalidProgram => k_is)
    (case hs_InvalidProgram => k_is)
    (case hd_InvalidProgram => k_is)
    (case ty_InvalidProgram => k_is)
    (case ic_InvalidProgram => k_is)
    (case ss_InvalidProgram => k_is)
    (case no_part_InvalidProgram => k_is)
    (case no_path_InvalidProgram => k_is)
    (case A_InvalidArgument => k_is)
    (case l_InvalidArgument => k_is)
    (case sa_InvalidArgument => k_is)
    (case su_InvalidArgument => rfl)
    (case ii_InvalidArgument => k_is)
    (case ti_InvalidArgument => k_is)
    (case lf_InvalidArgument => k_is)
    (case cf_InvalidArgument => k_is)
    (case lc_InvalidArgument => k_is)
    (case ld_InvalidArgument => k_is)
    (case v2_InvalidArgument => rfl)
    (case fe_InvalidArgument => decide +kernel)
    (case kp_InvalidArgument => k_is)
    (case hg_InvalidArgument => k_is)
    (case hk_InvalidArgument => k_is)
    (case hs_InvalidArgument => k_is)
    (case hd_InvalidArgument => k_is)
    (case ty_InvalidArgument => k_is)
    (case ic_InvalidArgument => k_is)
    (case ss_InvalidArgument => k_is)
    (case no_part_InvalidArgument => k_is)
    (case xa1 => k_is)
    (case xa2 => k_is)
    (case xa3 => k_is)
    (case xa4 => k_is)
    (case kq1s => k_is)
    (case kq1n => rfl)
    (case ty_RunError => k_is)
    (case ic_RunError => k_is)
    (case kq2s => k_is)
    (case kq2n => rfl)
    (case ty_InputError => k_is)
    (case ic_InputError => k_is)
    (case kq3s => k_is)
    (case kq3n => rfl)
    (case ty_OpenError => k_is)
    (case ic_OpenError => k_is)
    (case kq4s => k_is)
    (case kq4n => rfl)
    (case A_is_integer => k_is)
    (case L_is_integer => k_is)
    (case D_is_integer => k_is)
    (case P_is_integer => k_is)
    (case A_is_word => k_is)
    (case L_is_word => k_is)
    (case D_is_word => k_is)
    (case P_is_word => k_is)
    (case A_are_words => k_is)
    (case L_are_words => k_is)
    (case D_are_words => k_is)
    (case P_are_words => k_is)
    (case A_is_branches => k_is)
    (case L_is_branches => k_is)
    (case D_is_branches => k_is)
    (case P_is_branches => k_is)
    (case A_inner_lists => k_is)
    (case L_inner_lists => k_is)
    (case D_inner_lists => k_is)
    (case P_inner_lists => k_is)
    (case A_with_lists => k_is)
    (case L_with_lists => k_is)
    (case D_with_lists => k_is)
    (case P_with_lists => k_is)
    (case A_copy_row => k_is)
    (case L_copy_row => k_is)
    (case D_copy_row => k_is)
    (case P_copy_row => k_is)
    (case A_copy_rows => k_is)
    (case L_copy_rows => k_is)
    (case D_copy_rows => k_is)
    (case P_copy_rows => k_is)
    (case A_checked_asks => k_is)
    (case L_checked_asks => k_is)
    (case D_checked_asks => k_is)
    (case P_checked_asks => k_is)
    (case A_is_box => k_is)
    (case L_is_box => k_is)
    (case D_is_box => k_is)
    (case P_is_box => k_is)
    (case A_checked_signals => k_is)
    (case L_checked_signals => k_is)
    (case D_checked_signals => k_is)
    (case P_checked_signals => k_is)
    (case A_checked_inputs => k_is)
    (case L_checked_inputs => k_is)
    (case D_checked_inputs => k_is)
    (case P_checked_inputs => k_is)
    (case A_is_path => k_is)
    (case L_is_path => k_is)
    (case D_is_path => k_is)
    (case P_is_path => k_is)
    (case A__law_bag => k_is)
    (case L__law_bag => k_is)
    (case D__law_bag => k_is)
    (case P__law_bag => k_is)
    (case A__law_draw => k_is)
    (case L__law_draw => k_is)
    (case D__law_draw => k_is)
    (case P__law_draw => k_is)
    (case A__law_one => k_is)
    (case L__law_one => k_is)
    (case D__law_one => k_is)
    (case P__law_one => k_is)
    (case A__law_words => k_is)
    (case L__law_words => k_is)
    (case D__law_words => k_is)
    (case P__law_words => k_is)
    (case A__law_kit => k_is)
    (case L__law_kit => k_is)
    (case D__law_kit => k_is)
    (case P__law_kit => k_is)
    (case A__law_start_row => k_is)
    (case L__law_start_row => k_is)
    (case D__law_start_row => k_is)
    (case P__law_start_row => k_is)
    (case A__law_plain_row => k_is)
    (case L__law_plain_row => k_is)
    (case D__law_plain_row => k_is)
    (case P__law_plain_row => k_is)
    (case A__law_great_row => k_is)
    (case L__law_great_row => k_is)
    (case D__law_great_row => k_is)
    (case P__law_great_row => k_is)
    (case A__law_list => k_is)
    (case L__law_list => k_is)
    (case D__law_list => k_is)
    (case P__law_list => k_is)
    (case A__law_plan => k_is)
    (case L__law_plan => k_is)
    (case D__law_plan => k_is)
    (case P__law_plan => k_is)
    (case A__law_copy_part => k_is)
    (case L__law_copy_part => k_is)
    (case D__law_copy_part => k_is)
    (case P__law_copy_part => k_is)
    (case A__law_copy_rows => k_is)
    (case L__law_copy_rows => k_is)
    (case D__law_copy_rows => k_is)
    (case P__law_copy_rows => k_is)
    (case A__law_program => k_is)
    (case L__law_program => k_is)
    (case D__law_program => k_is)
    (case P__law_program => k_is)
    (case A__law_same => k_is)
    (case L__law_same => k_is)
    (case D__law_same => k_is)
    (case P__law_same => k_is)
    (case A__law_lists => k_is)
    (case L__law_lists => k_is)
    (case D__law_lists => k_is)
    (case P__law_lists => k_is)
    (case A__law_paths => k_is)
    (case L__law_paths => k_is)
    (case D__law_paths => k_is)
    (case P__law_paths => k_is)
    (case A__law_at => k_is)
    (case L__law_at => k_is)
    (case D__law_at => k_is)
    (case P__law_at => k_is)
    (case A__law_refused => k_is)
    (case L__law_refused => k_is)
    (case D__law_refused => k_is)
    (case P__law_refused => k_is)
    (case A__law_wrong => k_is)
    (case L__law_wrong => k_is)
    (case D__law_wrong => k_is)
    (case P__law_wrong => k_is)
    (case A_law => k_is)
    (case L_law => k_is)
    (case D_law => k_is)
    (case P_law => k_is)
    (case A_RowCheck => k_is)
    (case c1_RowCheck => k_is)
    (case c2_RowCheck => k_is)
    (case c3_RowCheck => k_is)
    (case c4_RowCheck => k_is)
    (case n_RowCheck_known_asks => k_is)
    (case n_RowCheck_known_signals => k_is)
    (case n_RowCheck_with_edits => k_is)
    (case n_RowCheck_total => k_is)
    (case n_RowCheck_label_words => k_is)
    (case n_RowCheck_slot_words => k_is)
    (case n_RowCheck_gate_words => k_is)
    (case n_RowCheck_edit_words => k_is)
    (case mk_RowCheck => k_is)
    (case kp_RowCheck => k_is)
    (case at_RowCheck___init__ => k_is)
    (case fn_RowCheck___init__ => k_is)
    (case L_RowCheck___init__ => k_is)
    (case D_RowCheck___init__ => k_is)
    (case P_RowCheck___init__ => k_is)
    (case at_RowCheck_check => k_is)
    (case fn_RowCheck_check => k_is)
    (case L_RowCheck_check => k_is)
    (case D_RowCheck_check => k_is)
    (case P_RowCheck_check => k_is)
    (case at_RowCheck_check_sizes => k_is)
    (case fn_RowCheck_check_sizes => k_is)
    (case L_RowCheck_check_sizes => k_is)
    (case D_RowCheck_check_sizes => k_is)
    (case P_RowCheck_check_sizes => k_is)
    (case at_RowCheck_check_list => k_is)
    (case fn_RowCheck_check_list => k_is)
    (case L_RowCheck_check_list => k_is)
    (case D_RowCheck_check_list => k_is)
    (case P_RowCheck_check_list => k_is)
    (case at_RowCheck_fits => k_is)
    (case fn_RowCheck_fits => k_is)
    (case L_RowCheck_fits => k_is)
    (case D_RowCheck_fits => k_is)
    (case P_RowCheck_fits => k_is)
    (case at_RowCheck_id_fits => k_is)
    (case fn_RowCheck_id_fits => k_is)
    (case L_RowCheck_id_fits => k_is)
    (case D_RowCheck_id_fits => k_is)
    (case P_RowCheck_id_fits => k_is)
    (case at_RowCheck_part_fits => k_is)
    (case fn_RowCheck_part_fits => k_is)
    (case L_RowCheck_part_fits => k_is)
    (case D_RowCheck_part_fits => k_is)
    (case P_RowCheck_part_fits => k_is)
    (case at_RowCheck_collect => k_is)
    (case fn_RowCheck_collect => k_is)
    (case L_RowCheck_collect => k_is)
    (case D_RowCheck_collect => k_is)
    (case P_RowCheck_collect => k_is)
    (case A_Program => k_is)
    (case c1_Program => k_is)
    (case c2_Program => k_is)
    (case c3_Program => k_is)
    (case c4_Program => k_is)
    (case n_Program_ask_table => k_is)
    (case n_Program_signal_table => k_is)
    (case n_Program_input_words => k_is)
    (case n_Program_row_list => k_is)
    (case n_Program_label_names => k_is)
    (case n_Program_slot_names => k_is)
    (case n_Program_gate_names => k_is)
    (case n_Program_row_table => k_is)
    (case n_Program_list_sizes => k_is)
    (case mk_Program => k_is)
    (case kp_Program => k_is)
    (case at_Program___init__ => k_is)
    (case fn_Program___init__ => k_is)
    (case L_Program___init__ => k_is)
    (case D_Program___init__ => k_is)
    (case P_Program___init__ => k_is)
    (case at_Program_add_rows => k_is)
    (case fn_Program_add_rows => k_is)
    (case L_Program_add_rows => k_is)
    (case D_Program_add_rows => k_is)
    (case P_Program_add_rows => k_is)
    (case at_Program_paths => k_is)
    (case fn_Program_paths => k_is)
    (case L_Program_paths => k_is)
    (case D_Program_paths => k_is)
    (case P_Program_paths => k_is)
    (case at_Program_rows => k_is)
    (case fn_Program_rows => k_is)
    (case L_Program_rows => k_is)
    (case D_Program_rows => k_is)
    (case P_Program_rows => k_is)
    (case at_Program_row_at => k_is)
    (case fn_Program_row_at => k_is)
    (case L_Program_row_at => k_is)
    (case D_Program_row_at => k_is)
    (case P_Program_row_at => k_is)
