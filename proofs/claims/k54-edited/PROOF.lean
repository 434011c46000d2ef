import PyProof.Rows.All
import Wide.All
import OpenK.AllK
import Wide.FinOn
import PyProof.EqAt
import PyProof.EqKinds
import PyProof.TupleCall
import KE.KExcSuper
import KE.KExcIs
import HandS.Base
import HandS.Call
import HandS.List
import HandS.Ends
import HandS.Exc
import HandS.ExcInit
import HandS.ExcSuper
import HandS.MakeKwOnly
import HandS.IsInst
import HandS.ForMost
import HandS.TryOnly
import HandS.WordsExc
import HandS.ExcOwn
import HandS.ExcField
import HandS.TupAny
import HandS.Zip
import KE.GoesMore
import KE.GoesZip
import KE.GoesEnum
import HandS.Strs
import HandS.More
import HandS.DictTup
import HandS.DictComp
import HandS.Walk
import HandS.Evl
import HandS.Wide
import PySem.Challenge.RW_openruns_k54_edited_refusals
set_option Elab.async false
set_option linter.all false
set_option maxRecDepth 100000
set_option maxHeartbeats 4000000
namespace PySem
namespace XL
open PySem.W PySem.Calls PyProof.Rows
/-! ### C(args, kw = ..), C an own exception class -/
section
variable {M : Model} {prog : Program} {w : World} {A : Around} {E : Value → Shared → Prop} {R : Result → Shared → Prop} {h : Heap} {g : Array GenState} {d : Drawn} {t : Nat} {os : OsState}
variable {nm q : Str} {C N : Addr} {bs bm bmB : List Value} {hdct : Bool} {sn : List Str} {sub : List Value} {ab : Bool} {col : Option Bool} {dd : Option Addr} {k0 k1 k2 k3 k5 : Option Value} {B newId initId : String}
theorem check_newK (F : ExcBaseFacts B newId initId bmB) (hT : ∀ X : String, bm.contains (.type X) = bmB.contains (.type X)) {rest : List Value} {kw : List (Str × Value)} {Q : Unit → Shared → Prop}
    (hC : h.get? C = some (excClassObj nm q C N bs bm hdct sn sub ab col dd k0 k1 k2 k3 k5 newId)) (hq : Q () ⟨h, g, d, t, os⟩) : wpAny M A (checkBuiltinCall newId ⟨.ref C :: rest, kw⟩) Q E ⟨h, g, d, t, os⟩ := by
  have hcont : (Value.ref C :: bm).contains (.type B) = true := by rw [List.contains_cons, hT, F.hasB, Bool.or_true]
  have hstar := F.noStar
  simp only [checkBuiltinCall, F.newKind, F.newSplit, F.newRow]
  repeat (first | refine wpAny_loadPart_at hC ?_ | (refine wpAny_isSubtype_exc hC ?_; rw [hcont]) | refine wpAny_staticBase_exc hC ?_ | refine wpAny_madeBy_exc hC ?_ | simp only [bne_self_eq_false, Bool.false_eq_true, if_false] | wp_step)
  exact hq
theorem newK (F : ExcBaseFacts B newId initId bmB) (hT : ∀ X : String, bm.contains (.type X) = bmB.contains (.type X)) {rest : List Value} {kw : List (Str × Value)}
    (hC : h.get? C = some (excClassObj nm q C N bs bm hdct sn sub ab col dd k0 k1 k2 k3 k5 newId))
    (hq : R (.ok (.ret (.ref (h.objs.size + 1)))) ⟨(h.push { cls := .type "tuple", data := .seq rest.toArray }).push
      { cls := .ref C, data := .fields #[.ref h.objs.size, .none, .none, .none, .bool false, .none] }, g, d, t, os⟩) (hrest : rest.length ≤ sizeLine) :
    codeAny (model prog w) A (.builtin newId ⟨.ref C :: rest, kw⟩) R ⟨h, g, d, t, os⟩ := by
  have hends := F.ends
  have hcB : (Value.ref C :: bm).contains (.type B) = true := by rw [List.contains_cons, hT, F.hasB, Bool.or_true]
  have hcA : (Value.ref C :: bm).contains (.type "AttributeError") = false := by rw [List.contains_cons, hT, F.noAttr]; rfl
  have hcN : (Value.ref C :: bm).contains (.type "NameError") = false := by rw [List.contains_cons, hT, F.noName]; rfl
  refine codeAny_builtinAt F.entry ?_
  unfold Builtin.«BaseException.__new__»
  refine wpAt_bind ?_
  show wpAt _ _ _ (stack >>= _) _ _ _
  refine wpAt_bind (wpAt_stack fun p below => wpAt_of_wpAny ?_)
  wp_walk
  refine wpAt_of_wpAny ?_
  rw [F.owner]
  repeat (first | with_reducible refine wpAny_madeHere_exc F.canon hC ?_ | with_reducible refine wpAny_loadPart_at hC ?_ | (with_reducible refine wpAny_isSubtype_exc hC ?_; first | rw [hcB] | rw [hcA] | rw [hcN]) | wp_step)
  show R _ _
  rw [Heap.size_push]
  exact hq
theorem type_callK (F : ExcBaseFacts B newId initId bmB) (hT : ∀ X : String, bm.contains (.type X) = bmB.contains (.type X)) {rest : List Value} {kw : List (Str × Value)} {fI : Addr} {Q : Fin → Shared → Prop}
    (hC : h.get? C = some (excClassObj nm q C N bs bm hdct sn sub ab col dd k0 k1 k2 k3 k5 newId))
    (hi : W.Looks (model prog w) h (typeLookup (.ref C) "__init__") (some (.ref fI))) (hb : ∀ self, W.Looks (model prog w) h (bindSpecial (.ref fI) self) (.ref fI, [self])) (hrest : rest.length ≤ sizeLine)
    (hq : codeAny (model prog w) A (.call (.ref fI) ⟨.ref (h.objs.size + 1) :: rest, kw⟩)
      (fun r s' => match r with | .ok (.ret v) => v = .none ∧ Q (.done (.ret (.ref (h.objs.size + 1)))) s' | .ok _ => False | .error e => E e s')
      ⟨(h.push (W.kdv_tup rest)).push (HandSPX.excO C h.objs.size), g, d, t, os⟩) :
    wpAny (model prog w) A (Builtin.«type.__call__» ⟨.ref C :: rest, kw⟩) Q E ⟨h, g, d, t, os⟩ := by
  repeat (first | with_reducible refine wpAny_loadPart_at hC ?_ | with_reducible refine wpAny_madeBy_exc hC ?_ | wp_step)
  refine codeAny_call_builtin_code (Code.quiet_builtin _ F.quiet) (check_newK F hT hC ?_)
  refine newK F hT hC ?_ hrest
  show wpAny _ _ _ _ _ _
  have k : ∀ b o, h.get? b = some o → ((h.push (W.kdv_tup rest)).push (HandSPX.excO C h.objs.size)).get? b = some o := fun b o e => Heap.get?_push_of_some _ (Heap.get?_push_of_some _ e)
  have hC₁ := k _ _ hC
  have hget : ((h.push (W.kdv_tup rest)).push (HandSPX.excO C h.objs.size)).get? (h.objs.size + 1) = some (HandSPX.excO C h.objs.size) := by heap_get
  have hcC : (Value.ref C :: bm).contains (.ref C) = true := by simp
  have i1 := hi.keeps k
  have b1 := (hb (.ref (h.objs.size + 1))).keeps k
  unfold isInstance
  repeat (first | with_reducible refine wpAny_loadPart_at hget ?_ | (with_reducible refine wpAny_isSubtype_exc hC₁ ?_; rw [hcC]) | wp_step)
  show wpAny _ _ (typeLookup (.ref C) _) _ _ _
  refine i1.at ?_
  refine wpAny_holding (wpAny_bind (b1.at ?_))
  refine wpAny_bind (wpAny_call (codeAny_mono hq fun r s' z => ?_))
  rcases r with e | (v | _ | _ | _) <;> first | exact z | exact z.elim | skip
  obtain ⟨rfl, z⟩ := z
  first
    | exact wpAny_pure (wpAny_pure z)
    | (wp_walk; exact z)
theorem check_typeK {M : Model} {rest : List Value} {kw : List (Str × Value)} {Q : Unit → Shared → Prop} (hC : h.get? C = some (excClassObj nm q C N bs bm hdct sn sub ab col dd k0 k1 k2 k3 k5 newId))
    (hq : Q () ⟨h, g, d, t, os⟩) : wpAny M A (checkBuiltinCall "type.__call__" ⟨.ref C :: rest, kw⟩) Q E ⟨h, g, d, t, os⟩ := by
  have f3 := tc_sub
  have hT : (⟨h, g, d, t, os⟩ : Shared).TypeIs (.ref C) "type" := ⟨_, hC, rfl⟩
  simp only [checkBuiltinCall, tc_kind, tc_split]
  repeat (any_goals (first | assumption | with_reducible refine wpAny_loadPart_at hC ?_ | with_reducible refine wpAny_onRaise ?_ | with_reducible refine wpAny_map ?_ | wp_step))
theorem call_ownK (F : ExcBaseFacts B newId initId bmB) (hT : ∀ X : String, bm.contains (.type X) = bmB.contains (.type X)) {rest : List Value} {kw : List (Str × Value)} {fI : Addr}
    (hC : h.get? C = some (excClassObj nm q C N bs bm hdct sn sub ab col dd k0 k1 k2 k3 k5 newId))
    (hi : W.Looks (model prog w) h (typeLookup (.ref C) "__init__") (some (.ref fI))) (hb : ∀ self, W.Looks (model prog w) h (bindSpecial (.ref fI) self) (.ref fI, [self])) (hrest : rest.length ≤ sizeLine)
    (hq : codeAny (model prog w) (A.under (.builtin "type.__call__" ⟨.ref C :: rest, kw⟩)) (.call (.ref fI) ⟨.ref (h.objs.size + 1) :: rest, kw⟩) (W.InitBack (h.objs.size + 1) R)
      ⟨(h.push (W.kdv_tup rest)).push (HandSPX.excO C h.objs.size), g, d, t, os⟩) :
    codeAny (model prog w) A (.call (.ref C) ⟨rest, kw⟩) R ⟨h, g, d, t, os⟩ := by
  have f1 := tc_lookup
  have f2 := tc_bind (.ref C)
  have hTy : (⟨h, g, d, t, os⟩ : Shared).TypeIs (.ref C) "type" := ⟨_, hC, rfl⟩
  refine codeAny_of_tree ?_
  show wpAny _ _ (callAny (.ref C) _) _ _ _
  repeat (any_goals (first | assumption | with_reducible refine wpAny_loadPart_at hC ?_ | wp_step))
  refine ⟨rfl, ?_⟩
  refine codeAny_call_builtin_at (Code.quiet_builtin _ (by decide +kernel)) entry_typeCall (check_typeK hC (type_callK F hT hC hi hb hrest ?_))
  refine codeAny_mono hq fun r s' z => ?_
  rcases r with e | (v | _ | _ | _) <;> exact z
end
end XL
end PySem
namespace PySem
namespace XL
open PySem.W PySem.Calls PyProof.Rows Builtin Builtin.ObjectAttr
abbrev lkT : List Value := [.type "LookupError", .type "Exception", .type "BaseException", .type "object"]
theorem lk_ne {l : List Value} (e : excTail lkT l = true) : l.isEmpty = false := by
  rcases excTail_cases l e with ⟨c, r, rfl, _⟩ | rfl <;> rfl
/-! ### self.name = v on an exception over LookupError -/
section
variable {prog : Program} {w : World} {A : Around} {E : Value → Shared → Prop} {R : Result → Shared → Prop} {hp : Heap} {g : Array GenState} {d : Drawn} {t : Nat} {os : OsState}
theorem osa_walk {K : W.Frag} {name : Str} {tk : Tok} {v : Value} {x C : Addr} {ox : Obj} {od : Option Obj} {cd : ClassData}
    (X : K.In hp) (I : W.InstAt hp x ox C od) (hcd : W.clsIn K C = some cd) (hm : excTail lkT cd.mro = true) (ha : W.findIn K (.ref C) name = some none)
    (hq : wpAny (model prog w) A.in1 (Builtin.ObjectAttr.storeInOwnDict (.ref x) (.ref C) (.str name tk) name v false)
      (fun fin s' => match fin with | .done f => R (.ok f) s' | .again c' => c'.quiet = true ∧ codeAny (model prog w) A c' R s') (fun e s' => R (.error e) s') ⟨hp, g, d, t, os⟩) :
    codeAny (model prog w) A (.call (.builtin "object.__setattr__") ⟨[.ref x, .str name tk, v], []⟩) R ⟨hp, g, d, t, os⟩ := by
  have SF := F.store_LookupError
  have ne := lk_ne hm
  have hob : cd.mro.contains (.type "object") = true := (excTail_contains "object" _ hm).trans (by decide +kernel)
  have sub : W.Looks (model prog w) hp (isInstance (.ref x) (.type "object")) true := I.type.andThen (W.looks_mroIn X (by unfold W.mroIn; rw [hcd, Option.bind_some, if_neg (by rw [ne]; decide), hob]))
  refine codeAny_call_builtin SF.slot.plain SF.entry (@W.check_slot (model prog w) _ _ ⟨hp, g, d, t, os⟩ "object.__setattr__" "object" "__setattr__" (.ref x) [.str name tk, v] [] _ SF.kind SF.split sub (SF.args (.ref x) (.str name tk) v) ?_)
  have hmr : W.Looks (model prog w) hp (mroOf (.ref C)) cd.mro := (W.looks_clsIn X hcd).andThen .now
  have L3 : W.Looks (model prog w) hp (storeTaker? none) none := .now
  rw [W.osa_eq, refuse_eq]
  refine wpAny_bind (wpAny_bind (I.type.at (wpAny_bind (hmr.at ?_))))
  rw [excTail_pass _ (SF.passes _) _ hm]
  refine wpAny_pure (wpAny_bind (I.type.at (wpAny_bind ((W.looks_findIn X ha).at (wpAny_bind (L3.at ?_))))))
  exact hq
theorem osa_new {K : W.Frag} {name : Str} {tk : Tok} {v : Value} {x C : Addr} {fv : Array Value} {cd : ClassData}
    (X : K.In hp) (hx : hp.get? x = some { cls := .ref C, data := .fields fv }) (hcd : W.clsIn K C = some cd) (hm : excTail lkT cd.mro = true) (hh : cd.hasDict = true) (ha : W.findIn K (.ref C) name = some none)
    (hq : ∀ h' tk' dx, (∀ b o, b ≠ x → hp.get? b = some o → h'.get? b = some o) → hp.objs.size ≤ dx → dx ≠ x → h'.get? x = some { cls := .ref C, dict := some dx, data := .fields fv } →
      h'.Ns1 dx (fun y => if y = name then some v else none) → R (.ok (.ret .none)) ⟨h', g, d, tk', os⟩) :
    codeAny (model prog w) A (.call (.builtin "object.__setattr__") ⟨[.ref x, .str name tk, v], []⟩) R ⟨hp, g, d, t, os⟩ := by
  have I : W.InstAt hp x { cls := .ref C, data := .fields fv } C none := ⟨hx, rfl, rfl, trivial⟩
  have hxs : x ≠ hp.objs.size := Nat.ne_of_lt (Heap.lt_size hx)
  refine osa_walk X I hcd hm ha ?_
  have hcls : W.Looks (model prog w) hp (classData C) cd := W.looks_clsIn X hcd
  obtain ⟨nm, bs, mro, ns, qn, hd, sn, sb, ab, col, del⟩ := cd
  dsimp only at hh
  subst hh
  unfold Builtin.ObjectAttr.storeInOwnDict Builtin.ObjectAttr.ownDictForStores
  repeat (first | with_reducible refine HandSPX.store_in_new ?_ ?_ | with_reducible refine wpAny_loadPart_at hx ?_ | with_reducible refine hcls.at ?_ | wp_step)
  · exact ⟨_, #[], _, (Heap.get?_update_ne _ _ _ _ hxs.symm).trans (Heap.get?_push_at rfl rfl), rfl, fun e he => absurd he (by simp), fun _ => rfl⟩
  · intro h' tk' hn' hs
    have hx₁ : (hp.push { cls := .type "dict", data := .dict #[] }).get? x = some { cls := .ref C, data := .fields fv } := Heap.get?_push_of_some _ hx
    refine hq h' tk' hp.objs.size (fun b o hb ho => ?_) (Nat.le_refl _) hxs.symm ?_ hn'
    · exact (hs.2 b (Nat.ne_of_lt (Heap.lt_size ho))).trans ((Heap.get?_update_ne _ _ _ _ hb).trans (Heap.get?_push_of_some _ ho))
    · exact (hs.2 x hxs).trans (Heap.get?_update_self _ hx₁ rfl)
theorem osa_old {K : W.Frag} {name : Str} {tk : Tok} {v : Value} {x C dx : Addr} {fv : Array Value} {cd : ClassData} {m0 : Str → Option Value} {nl : List Str}
    (X : K.In hp) (hx : hp.get? x = some { cls := .ref C, dict := some dx, data := .fields fv }) (hns : hp.Ns1 dx m0) (hw : Within m0 nl) (hz : nl.length ≤ 1000) (hcd : W.clsIn K C = some cd) (hm : excTail lkT cd.mro = true) (hh : cd.hasDict = true)
    (ha : W.findIn K (.ref C) name = some none)
    (hq : ∀ h' tk', (∀ b o, b ≠ dx → hp.get? b = some o → h'.get? b = some o) → h'.Ns1 dx (fun y => if y = name then some v else m0 y) → R (.ok (.ret .none)) ⟨h', g, d, tk', os⟩) :
    codeAny (model prog w) A (.call (.builtin "object.__setattr__") ⟨[.ref x, .str name tk, v], []⟩) R ⟨hp, g, d, t, os⟩ := by
  obtain ⟨oD, esD, epD, hoD, hdD, _⟩ := hns.count hw
  have I : W.InstAt hp x { cls := .ref C, dict := some dx, data := .fields fv } C (some oD) := ⟨hx, rfl, rfl, hoD⟩
  refine osa_walk X I hcd hm ha ?_
  have hcls : W.Looks (model prog w) hp (classData C) cd := W.looks_clsIn X hcd
  obtain ⟨nm, bs, mro, ns, qn, hd, sn, sb, ab, col, del⟩ := cd
  dsimp only at hh
  subst hh
  unfold Builtin.ObjectAttr.storeInOwnDict Builtin.ObjectAttr.ownDictForStores
  repeat (first | with_reducible refine OEX.store_in_old hns hw hz ?_ | with_reducible refine wpAny_loadPart_at hx ?_ | with_reducible refine hcls.at ?_ | wp_step)
  intro h' tk' hn' hs
  exact hq h' tk' (fun b o hb ho => (hs.2 b hb).trans ho) hn'
end
/-! ### the text of an own __init__ -/
section
variable {prog : Program} {w : World} {A : Around} {E : Value → Shared → Prop} {R : Result → Shared → Prop} {s : Shared} {K : Frag}
/-- the __init__ of an own class at C (its cell __class__ at cc, its code at cda), over LookupError: what the written part says -/
structure XCls (prog : Program) (K : Frag) (C : Addr) : Prop where
  cls : ∃ nm q N bs bm sn sub ab col dd k0 k1 k2 k3 k5, K.lookup C = some (excClassObj nm q C N bs bm true sn sub ab col dd k0 k1 k2 k3 k5 "LookupError.__new__") ∧ excTail lkT bm = true
  sa : findIn K (.ref C) "__setattr__" = some (some (.builtin "object.__setattr__"))
  sup : ks_superIn K C C "__init__" = some (some (.builtin "LookupError.__init__"))
  opq : nsIn K cStatics "thirdparty.any" = some none
  sg : nsIn K mainGlobals "super" = some none
  top : (prog.main.scope.names.lookup ("super" : Str)).isSome = false
/-- .. of the function object at fI -/
structure XFn (prog : Program) (K : Frag) (C fI : Addr) (qual : Str) (params : Arguments) (body : List Stmt) (scope : Scope) : Prop where
  fn : ∃ (oc : Value) (od : Option Addr) (kV doc pm : Value) (an : Option Addr) (cda : Addr) (ct : Value) (cc : Addr) (osl : Array (Option Value)) (cl ccl : Value) (cld cdd : Option Addr) (csl ccs : Array (Option Value)) (vs : Array Value) (file : Str) (tf : Tok),
    K.lookup fI = some ⟨oc, od, .func (ksFn "__init__" qual params body scope .none kV doc pm an (.ref cda) ct cc), osl⟩ ∧ codeIn K (.ref cda) qual = true ∧
    K.lookup cc = some ⟨cl, cld, .cell (some (.ref C)), csl⟩ ∧ K.lookup cda = some ⟨ccl, cdd, .fields vs, ccs⟩ ∧ vs[2]? = some (.str file tf) ∧ ((prog.main.file : Str) == file) = true
  iC : findIn K (.ref C) "__init__" = some (some (.ref fI))
  tI : typeIn K (.ref fI) = some (.type "function")
/-- a module's parts -/
structure XTop (h : Heap) : Prop where
  g : ∃ mg, h.Ns mainGlobals mg
  b : ∃ mb, h.Ns builtinsNs mb ∧ ∀ x : Str, x ≠ "__name__" → mb x = bootBuiltins x
  nolimit : h.NoLimit
theorem XTop.keeps {h h' : Heap} (T : XTop h) (k : ∀ b o, h.get? b = some o → h'.get? b = some o) : XTop h' :=
  ⟨let ⟨mg, q⟩ := T.g; ⟨mg, q.keeps k⟩, let ⟨mb, q, r⟩ := T.b; ⟨mb, q.keeps k, r⟩, T.nolimit.keeps k⟩
end
end XL
end PySem
namespace PySem
namespace XL
open PySem.W PySem.Calls PyProof.Rows
/-! ### super().__init__('..') in an own __init__ -/
/-- where the statement stands -/
structure SupPos where
  (p0 p1 p2 p3 p4 p5 : Pos) (j : String)
section
variable {prog : Program} {w : World} {A : Around} {E : Value → Shared → Prop} {R : Result → Shared → Prop} {s : Shared} {K : Frag}
theorem call_mw {x C u t0 : Addr} {rest : List Value} {Q : Value → Shared → Prop} (T : XCls prog K C) (X : K.In s.heap) (hx : s.heap.get? x = some (HandSPX.excO C t0)) (hu : KxsAt "LookupError.__init__" u x s.heap) (hz : rest.length ≤ sizeLine)
    (hq : ∀ h' t1, (∀ b o, b ≠ x → s.heap.get? b = some o → h'.get? b = some o) → h'.get? x = some (HandSPX.excO C t1) → Q .none { s with heap := h' }) :
    wpAny (model prog w) A (call (.ref u) rest) Q E s := by
  obtain ⟨nm, q, N, bs, bm, sn, sub, ab, col, dd, k0, k1, k2, k3, k5, hC, hbm⟩ := T.cls
  have FB := F.excBase_LookupError
  obtain ⟨hh, g, d, tk, os⟩ := s
  unfold KxsAt at hu
  refine wpAny_call (codeAny_of_tree ?_)
  show wpAny _ A.in1 (callAny (.ref u) ⟨rest, []⟩) _ _ _
  simp only [callAny]
  refine wpAny_bind (wpAny_load hu ?_)
  simp only [kxs_mw, show (Value.type "method-wrapper" == Value.type "method" || Value.type "method-wrapper" == Value.type "builtin_function_or_method" || Value.type "method-wrapper" == Value.type "method-wrapper") = true by decide, if_true]
  refine KFB.if_so (by decide) ?_
  refine wpAny_bind (check_bound_init FB.toExcCallFacts (X _ _ hC) hx rfl ?_)
  refine wpAny_bind (wpAny_pure (wpAny_pure ?_))
  refine ⟨plainId_quiet FB.init.plain _, codeAny_builtin FB.initEntry ?_⟩
  exact exc_init_tree (cls := .ref C) (t0 := t0) (dv := none) (c2 := .none) (c3 := .none) (b4 := .bool false) hx hz fun h' k e _ => hq h' _ k e
theorem sup_stmt {x C fI L : Addr} {t0 : Addr} {qual : Str} {body : List Stmt} {scope : Scope} {cda cc : Addr} {oc cl ccl : Value} {od cld cdd : Option Addr} {osl csl ccs : Array (Option Value)} {fd : FuncData} {vs : Array Value} {file : Str} {tf : Tok} {ar : Arg}
    {m : Str → Option Value} {p0 p1 p2 p3 p4 p5 : Pos} {tx : Str} {j} {Q : Flow → Shared → Prop}
    (T : XCls prog K C) (X : K.In s.heap) (P : XTop s.heap) (hn : s.heap.Ns L m) (hv : m ar.arg = some (.ref x)) (hx : s.heap.get? x = some (HandSPX.excO C t0)) (hL : L ≠ x)
    (hf : K.lookup fI = some ⟨oc, od, .func fd, osl⟩) (hp : (fd.params.posonlyargs ++ fd.params.args).head? = some ar) (hcode : K.lookup cda = some ⟨ccl, cdd, .fields vs, ccs⟩) (hvs : vs[2]? = some (.str file tf)) (hfile : ((prog.main.file : Str) == file) = true)
    (hcell : K.lookup cc = some ⟨cl, cld, .cell (some (.ref C)), csl⟩)
    (hks : scope.names.lookup ("super" : Str) = some .globalImplicit) (hkc : scope.names.lookup ("__class__" : Str) = some .free) (hka : scope.names.lookup ar.arg = some .local) (hk : scope.kind = .function)
    (hq : ∀ h' tk t1, (∀ b o, b ≠ x → s.heap.get? b = some o → h'.get? b = some o) → h'.get? x = some (HandSPX.excO C t1) → Q .next { s with heap := h', toks := tk })
    {pl : Sem Bool}
    (he : eval (.Call (.Attribute (.Call (.Name "super" p0) [] [] p1) "__init__" p2) [.Constant (.str tx) j p3] [] p4) (ksEnv qual scope L fI (.ref cda) cc) = (do
      let ov ← attributeBase (.Call (.Name "super" p0) [] [] p1) "__init__" (ksEnv qual scope L fI (.ref cda) cc) (eval (.Call (.Name "super" p0) [] [] p1) (ksEnv qual scope L fI (.ref cda) cc))
      standAt p2.atName
      let (f, first) ← holding [ov] (getMethod ov "__init__" pl)
      callWith p4 f first (backTo p4 (starEach [.Constant (.str tx) j p3] (ksEnv qual scope L fI (.ref cda) cc))) []) := by rfl)
    (hi : interactive (ksEnv qual scope L fI (.ref cda) cc) = false := by rfl)
    (hw : swapsWith (.Call (.Attribute (.Call (.Name "super" p0) [] [] p1) "__init__" p2) [.Constant (.str tx) j p3] [] p4) none p5.line (ksEnv qual scope L fI (.ref cda) cc) = pure false := by rfl) :
    _root_.PySem.wpAt (model prog w) A (.func body (ksEnv qual scope L fI (.ref cda) cc)) (exec (.Expr (.Call (.Attribute (.Call (.Name "super" p0) [] [] p1) "__init__" p2) [.Constant (.str tx) j p3] [] p4) p5) (ksEnv qual scope L fI (.ref cda) cc)) Q E s := by
  obtain ⟨nm, q, N, bs, bm, sn, sub, ab, col, dd, k0, k1, k2, k3, k5, hC, hbm⟩ := T.cls
  have hcl : clsIn K C = some { name := nm, bases := bs, mro := .ref C :: bm, ns := N, qualname := q, hasDict := true, slotNames := sn, subclasses := sub, abstract := ab, collection := col, hasDel := false } := by unfold clsIn; rw [hC] <;> rfl
  have hmC : mroIn K C (.ref C) = some true := by unfold mroIn; rw [hcl, Option.bind_some, if_neg (by show ¬ (List.isEmpty (Value.ref C :: bm) = true); simp)]; simp
  have hD1 := X _ _ hC
  obtain ⟨hh, g, d, t, os⟩ := s
  refine ks_wpAt_Expr_any (ks_wpAt_MethodCall ?_ he) hi hw
  refine ks_wpAt_super_base (env := ksEnv qual scope L fI (.ref cda) cc) hks hkc (by decide) rfl (X _ _ hf) rfl hp rfl (X _ _ hcode) rfl hvs hfile T.top ?_
  obtain ⟨mg, hg⟩ := P.g
  obtain ⟨mb, hb, hbt⟩ := P.b
  refine ks_loadName_global hk hks (loadGlobal_builtin (env := ksEnv qual scope L fI (.ref cda) cc) hg (mg_none_of X hg T.sg) hb ((hbt _ (by decide +kernel)).trans (show bootBuiltins "super" = some (.type "super") from by decide +kernel)) ⟨rfl, ?_⟩)
  refine wpAny_loadName_free hk hkc rfl ⟨_, X _ _ hcell, rfl⟩ ?_
  refine wpAny_loadName_local hk hka hn hv ?_
  refine ks_wpAny_isType_cls hD1 rfl ⟨rfl, ?_⟩
  refine ks_wpAny_call_super hD1 rfl hx rfl (fun c e => nomatch e) (looks_mroIn X hmC) (fun h1 e1 kk1 => ?_)
  have k1' : ∀ b o, hh.get? b = some o → h1.get? b = some o := kk1
  have X1 : K.In h1 := X.keeps k1'
  have hI : Looks (model prog w) h1 (isInstance (.ref x) (.type "LookupError")) true := by
    have I : InstAt h1 x (HandSPX.excO C t0) C none := ⟨k1' _ _ hx, rfl, rfl, trivial⟩
    refine I.type.andThen (looks_mroIn X1 ?_)
    unfold mroIn
    rw [hcl, Option.bind_some, if_neg (by show ¬ (List.isEmpty (Value.ref C :: bm) = true); simp)]
    show some ((Value.ref C :: bm).contains (.type "LookupError")) = some true
    rw [List.contains_cons, excTail_contains "LookupError" _ hbm]
    rfl
  have hxC : x ≠ C := fun z => by
    rw [z] at hx
    have y := hD1.symm.trans hx
    cases y
  have hsup := T.sup
  unfold ks_superIn at hsup
  rw [hcl] at hsup
  refine kxs_getMethod kxs_LookupError e1 (looks_opaque X1 T.opq) (l₀ := .ref C :: bm) (fun A Q E s k q => wpAny_bind ((looks_clsIn X1 hcl) A _ E s k (wpAny_pure q))) rfl X1 hsup hI hxC (by decide) ?_
  have k2' : ∀ b o, hh.get? b = some o → (h1.push (kxs_mw "LookupError.__init__" x)).get? b = some o := fun b o z => Heap.get?_push_of_some _ (k1' b o z)
  show wpAny _ _ (callWith p4 (.ref h1.objs.size) [] (backTo p4 (starEach [.Constant (.str tx) j p3] (ksEnv qual scope L fI (.ref cda) cc))) []) _ _ _
  refine kxs_callWith (i := "LookupError.__init__") (x := x) (by rfl) (evalArgs_plain ?_)
  refine spliced_cons ?_
  show wpAny _ _ (eval (.Constant (.str tx) j p3) (ksEnv qual scope L fI (.ref cda) cc)) _ _ _
  refine Calls.Constant_str (spliced_nil ?_)
  refine ⟨Heap.get?_push_at rfl rfl, ?_⟩
  refine call_mw (s := ⟨h1.push (kxs_mw "LookupError.__init__" x), g, d, _, os⟩) T (X.keeps k2') (k2' _ _ hx) (Heap.get?_push_at rfl rfl) (by show 1 ≤ sizeLine; rw [sizeLine_eq]; decide) fun h' t1 k3 e3 => ?_
  exact hq h' _ t1 (fun b o hb z => k3 b o hb (k2' b o z)) e3
end
end XL
end PySem
namespace PySem
namespace XL
open PySem.W PySem.Calls PyProof.Rows
/-- where an __init__ of one, of two fields stands -/
structure Ps1 where
  (p0 p1 p2 p3 p4 p5 q1 q2 q3 q4 : Pos) (j : Nat)
structure Ps2 extends Ps1 where
  (r1 r2 r3 r4 : Pos)
abbrev supS (P : Ps1) (tx : Str) : Stmt := .Expr (.Call (.Attribute (.Call (.Name "super" P.p0) [] [] P.p1) "__init__" P.p2) [.Constant (.str tx) P.j P.p3] [] P.p4) P.p5
abbrev body1 (P : Ps1) (tx f : Str) : List Stmt := [supS P tx, .Assign [.Attribute (.Name "self" P.q1) f P.q2] (.Name f P.q3) P.q4]
abbrev body2 (P : Ps2) (tx f f2 : Str) : List Stmt := [supS P.toPs1 tx, .Assign [.Attribute (.Name "self" P.q1) f P.q2] (.Name f P.q3) P.q4, .Assign [.Attribute (.Name "self" P.r1) f2 P.r2] (.Name f2 P.r3) P.r4]
abbrev args1 (a1 a2 : Pos) (f : Str) : Arguments := { posonlyargs := [], args := [{ arg := "self", annotation := none, pos := a1 }, { arg := f, annotation := none, pos := a2 }], vararg := none, kwonlyargs := [], kw_defaults := [], kwarg := none, defaults := [] }
abbrev args2 (a1 a2 a3 : Pos) (f f2 : Str) : Arguments := { posonlyargs := [], args := [{ arg := "self", annotation := none, pos := a1 }, { arg := f, annotation := none, pos := a2 }, { arg := f2, annotation := none, pos := a3 }], vararg := none, kwonlyargs := [], kw_defaults := [], kwarg := none, defaults := [] }
abbrev scope1 (f : Str) : Scope := { kind := .function, names := [(Str.ofString "self", .local), (f, .local), (Str.ofString "__class__", .free), (Str.ofString "super", .globalImplicit)], isGenerator := false, isCoroutine := false, more := [] }
abbrev scope2 (f f2 : Str) : Scope := { kind := .function, names := [(Str.ofString "self", .local), (f, .local), (f2, .local), (Str.ofString "__class__", .free), (Str.ofString "super", .globalImplicit)], isGenerator := false, isCoroutine := false, more := [] }
/-- how the statement super().__init__('..') is run: rfl for a written scope -/
def EvOk (qual : Str) (scope : Scope) (fI : Addr) (P : Ps1) (tx : Str) : Prop := ∀ L cda cc : Addr, ∃ pl : Sem Bool,
  eval (.Call (.Attribute (.Call (.Name "super" P.p0) [] [] P.p1) "__init__" P.p2) [.Constant (.str tx) P.j P.p3] [] P.p4) (ksEnv qual scope L fI (.ref cda) cc) = (do
      let ov ← attributeBase (.Call (.Name "super" P.p0) [] [] P.p1) "__init__" (ksEnv qual scope L fI (.ref cda) cc) (eval (.Call (.Name "super" P.p0) [] [] P.p1) (ksEnv qual scope L fI (.ref cda) cc))
      standAt P.p2.atName
      let (f, first) ← holding [ov] (getMethod ov "__init__" pl)
      callWith P.p4 f first (backTo P.p4 (starEach [.Constant (.str tx) P.j P.p3] (ksEnv qual scope L fI (.ref cda) cc))) []) ∧
  interactive (ksEnv qual scope L fI (.ref cda) cc) = false ∧
  swapsWith (.Call (.Attribute (.Call (.Name "super" P.p0) [] [] P.p1) "__init__" P.p2) [.Constant (.str tx) P.j P.p3] [] P.p4) none P.p5.line (ksEnv qual scope L fI (.ref cda) cc) = pure false
/-- what __init__ leaves of a fresh exception at x -/
structure InitEnd (h h' : Heap) (x C dx : Addr) (mm : Str → Option Value) : Prop where
  keep : ∀ b o, b ≠ x → h.get? b = some o → h'.get? b = some o
  obj : ∃ t1 : Addr, h'.get? x = some { cls := .ref C, dict := some dx, data := .fields #[.ref t1, .none, .none, .none, .bool false, .none] }
  dbig : h.objs.size ≤ dx
  dne : dx ≠ x
  ns : h'.Ns1 dx mm
/-- a field's name is no name of the machine's -/
def okF (f : Str) : Bool := !(f == ("self" : Str)) && !(f == ("super" : Str)) && !(f == ("__class__" : Str)) && !(f == ("__debug__" : Str))
theorem okF_of {f : Str} (h : okF f = true) : (f == ("self" : Str)) = false ∧ (f == ("super" : Str)) = false ∧ (f == ("__class__" : Str)) = false ∧ (f == ("__debug__" : Str)) = false := by
  unfold okF at h
  simp only [Bool.and_eq_true, Bool.not_eq_true'] at h
  exact ⟨h.1.1.1, h.1.1.2, h.1.2, h.2⟩
theorem flip {a b : Str} (h : (a == b) = false) : (b == a) = false := by
  have := beq_eq_false_iff_ne.mp h
  exact beq_eq_false_iff_ne.mpr (Ne.symm this)
section
variable {prog : Program} {w : World} {A : Around} {E : Value → Shared → Prop} {R : Result → Shared → Prop} {s : Shared} {K : Frag} {C fI x t0 : Addr} {qual tx f f2 : Str} {v v2 : Value}
theorem init1 {P : Ps1} {a1 a2 : Pos} {args : Args} (T : XCls prog K C) (Fn : XFn prog K C fI qual (args1 a1 a2 f) (body1 P tx f) (scope1 f)) (hf : okF f = true) (nof : findIn K (.ref C) f = some none) (ev : EvOk qual (scope1 f) fI P tx)
    (X : K.In s.heap) (Tp : XTop s.heap) (hx : s.heap.get? x = some (HandSPX.excO C t0)) (hnx : K.lookup x = none) (hroom : A.depth < recursionLimit)
    (hb : ∀ (kV doc pm : Value) (an : Option Addr) (cdv ct : Value) (cc : Addr), BindsTo s (ksFn "__init__" qual (args1 a1 a2 f) (body1 P tx f) (scope1 f) .none kV doc pm an cdv ct cc) args [("self", .ref x), (f, v)])
    (hq : ∀ h' tk dx, InitEnd s.heap h' x C dx (fun y => if y = f then some v else none) → R (.ok (.ret .none)) { s with heap := h', toks := tk }) :
    codeAny (model prog w) A (.call (.ref fI) args) R s := by
  obtain ⟨oc, od, kV, doc, pm, an, cda, ct, cc, osl, cl, ccl, cld, cdd, csl, ccs, vs, file, tf, ho, hcd, hcell, hcode, hvs, hfile⟩ := Fn.fn
  obtain ⟨n1, n2, n3, n4⟩ := okF_of hf
  have l1 : (scope1 f).names.lookup f = some .local := by simp [List.lookup, n1]
  have l2 : (scope1 f).names.lookup ("super" : Str) = some .globalImplicit := by simp [List.lookup, flip n2]; rfl
  have l3 : (scope1 f).names.lookup ("__class__" : Str) = some .free := by simp [List.lookup, flip n3]; rfl
  have ls : (scope1 f).names.lookup ("self" : Str) = some .local := by simp [List.lookup]
  have hnc : ∀ y ∈ (scope1 f).names, y.2 ≠ .cell := by
    intro y hy
    simp only [scope1, List.mem_cons, List.mem_nil_iff, or_false] at hy
    rcases hy with rfl | rfl | rfl | rfl <;> simp
  have hlo : ∀ y ∈ ([("self", .ref x), (f, v)] : List (Str × Value)), (scope1 f).names.lookup y.1 = some .local := by
    intro y hy
    simp only [List.mem_cons, List.mem_nil_iff, or_false] at hy
    rcases hy with rfl | rfl
    · exact ls
    · exact l1
  obtain ⟨nm, q, N, bs, bm, sn, sub, ab, col, dd, k0, k1, k2, k3, k5, hC, hbm⟩ := T.cls
  have hcl : clsIn K C = some { name := nm, bases := bs, mro := .ref C :: bm, ns := N, qualname := q, hasDict := true, slotNames := sn, subclasses := sub, abstract := ab, collection := col, hasDel := false } := by unfold clsIn; rw [hC] <;> rfl
  refine ks_codeAny_call_defAt (fd := ksFn "__init__" qual (args1 a1 a2 f) (body1 P tx f) (scope1 f) .none kV doc pm an (.ref cda) ct cc) (body := body1 P tx f) (binds := [("self", .ref x), (f, v)]) hroom (X _ _ ho) rfl Tp.nolimit (codeRec_of X hcd) rfl (hb _ _ _ _ _ _ _) hnc hlo (fun h₁ hns hk₁ => ?_)
  have hLx : s.heap.objs.size ≠ x := Nat.ne_of_gt (Heap.lt_size hx)
  have ms : (fun y => ([("self", Value.ref x), (f, v)] : List (Str × Value)).reverse.lookup y) "self" = some (.ref x) := by simp [List.lookup, flip n1]
  have mf : (fun y => ([("self", Value.ref x), (f, v)] : List (Str × Value)).reverse.lookup y) f = some v := by simp [List.lookup]
  obtain ⟨pl, he, hi, hw⟩ := ev s.heap.objs.size cda cc
  refine ks_wpAt_execs_cons (sup_stmt (s := { s with heap := h₁, toks := s.toks + 2 }) (ar := { arg := "self", annotation := none, pos := a1 }) (t0 := t0) T (X.keeps hk₁) (Tp.keeps hk₁) hns ms (hk₁ _ _ hx) hLx ho rfl hcode hvs hfile hcell l2 l3 ls rfl (fun h₂ tk₂ t1 k₂ e₂ => ?_) he hi hw)
  refine wpAt_of_wpAny ?_
  have kk : ∀ b o, b ≠ x → s.heap.get? b = some o → h₂.get? b = some o := fun b o hb z => k₂ b o hb (hk₁ b o z)
  have X₂ : K.In h₂ := fun a o e => kk a o (fun z => by
    subst z
    rw [hnx] at e
    cases e) (X a o e)
  have hns₂ : h₂.Ns s.heap.objs.size (fun y => ([("self", Value.ref x), (f, v)] : List (Str × Value)).reverse.lookup y) := hns.at fun o z => k₂ _ o hLx z
  refine wpAny_execs_cons (plainObj_wpAny_Assign_Attribute ?_)
  refine ESX.ldL (v := v) hns₂ mf (ESX.ldL (v := .ref x) hns₂ ms ?_ rfl ls) rfl l1 n4
  refine set_plain X₂ (ox := HandSPX.excO C t1) (od := none) ⟨e₂, rfl, rfl, trivial⟩ T.sa ?_
  refine osa_new X₂ e₂ hcl (show excTail lkT (.ref C :: bm) = true from hbm) rfl nof (fun h₃ tk₃ dx k₃ dn dne hx₃ hn₃ => ?_)
  refine wpAny_execs_nil ?_
  have z1 : s.heap.objs.size < h₂.objs.size := hns₂.lt
  exact hq h₃ tk₃ dx ⟨fun b o hb e => k₃ b o hb (kk b o hb e), ⟨t1, hx₃⟩, Nat.le_of_lt (Nat.lt_of_lt_of_le z1 dn), dne, hn₃⟩
theorem init2 {P : Ps2} {a1 a2 a3 : Pos} {args : Args} (T : XCls prog K C) (Fn : XFn prog K C fI qual (args2 a1 a2 a3 f f2) (body2 P tx f f2) (scope2 f f2)) (hf : okF f = true) (hf2 : okF f2 = true) (h12 : (f == f2) = false) (nof : findIn K (.ref C) f = some none) (nof2 : findIn K (.ref C) f2 = some none) (ev : EvOk qual (scope2 f f2) fI P.toPs1 tx)
    (X : K.In s.heap) (Tp : XTop s.heap) (hx : s.heap.get? x = some (HandSPX.excO C t0)) (hnx : K.lookup x = none) (hroom : A.depth < recursionLimit)
    (hb : ∀ (kV doc pm : Value) (an : Option Addr) (cdv ct : Value) (cc : Addr), BindsTo s (ksFn "__init__" qual (args2 a1 a2 a3 f f2) (body2 P tx f f2) (scope2 f f2) .none kV doc pm an cdv ct cc) args [("self", .ref x), (f, v), (f2, v2)])
    (hq : ∀ h' tk dx, InitEnd s.heap h' x C dx (fun y => if y = f2 then some v2 else if y = f then some v else none) → R (.ok (.ret .none)) { s with heap := h', toks := tk }) :
    codeAny (model prog w) A (.call (.ref fI) args) R s := by
  obtain ⟨oc, od, kV, doc, pm, an, cda, ct, cc, osl, cl, ccl, cld, cdd, csl, ccs, vs, file, tf, ho, hcd, hcell, hcode, hvs, hfile⟩ := Fn.fn
  obtain ⟨n1, n2, n3, n4⟩ := okF_of hf
  obtain ⟨m1, m2, m3, m4⟩ := okF_of hf2
  have l1 : (scope2 f f2).names.lookup f = some .local := by simp [List.lookup, n1]
  have l1' : (scope2 f f2).names.lookup f2 = some .local := by simp [List.lookup, m1, flip h12]
  have l2 : (scope2 f f2).names.lookup ("super" : Str) = some .globalImplicit := by simp [List.lookup, flip n2, flip m2]; rfl
  have l3 : (scope2 f f2).names.lookup ("__class__" : Str) = some .free := by simp [List.lookup, flip n3, flip m3]; rfl
  have ls : (scope2 f f2).names.lookup ("self" : Str) = some .local := by simp [List.lookup]
  have hnc : ∀ y ∈ (scope2 f f2).names, y.2 ≠ .cell := by
    intro y hy
    simp only [scope1, List.mem_cons, List.mem_nil_iff, or_false] at hy
    rcases hy with rfl | rfl | rfl | rfl | rfl <;> simp
  have hlo : ∀ y ∈ ([("self", .ref x), (f, v), (f2, v2)] : List (Str × Value)), (scope2 f f2).names.lookup y.1 = some .local := by
    intro y hy
    simp only [List.mem_cons, List.mem_nil_iff, or_false] at hy
    rcases hy with rfl | rfl | rfl
    · exact ls
    · exact l1
    · exact l1'
  obtain ⟨nm, q, N, bs, bm, sn, sub, ab, col, dd, k0, k1, k2, k3, k5, hC, hbm⟩ := T.cls
  have hcl : clsIn K C = some { name := nm, bases := bs, mro := .ref C :: bm, ns := N, qualname := q, hasDict := true, slotNames := sn, subclasses := sub, abstract := ab, collection := col, hasDel := false } := by unfold clsIn; rw [hC] <;> rfl
  refine ks_codeAny_call_defAt (fd := ksFn "__init__" qual (args2 a1 a2 a3 f f2) (body2 P tx f f2) (scope2 f f2) .none kV doc pm an (.ref cda) ct cc) (body := body2 P tx f f2) (binds := [("self", .ref x), (f, v), (f2, v2)]) hroom (X _ _ ho) rfl Tp.nolimit (codeRec_of X hcd) rfl (hb _ _ _ _ _ _ _) hnc hlo (fun h₁ hns hk₁ => ?_)
  have hLx : s.heap.objs.size ≠ x := Nat.ne_of_gt (Heap.lt_size hx)
  have ms : (fun y => ([("self", Value.ref x), (f, v), (f2, v2)] : List (Str × Value)).reverse.lookup y) "self" = some (.ref x) := by simp [List.lookup, flip n1, flip m1]
  have mf : (fun y => ([("self", Value.ref x), (f, v), (f2, v2)] : List (Str × Value)).reverse.lookup y) f = some v := by simp [List.lookup, h12]
  have mf2 : (fun y => ([("self", Value.ref x), (f, v), (f2, v2)] : List (Str × Value)).reverse.lookup y) f2 = some v2 := by simp [List.lookup]
  obtain ⟨pl, he, hi, hw⟩ := ev s.heap.objs.size cda cc
  refine ks_wpAt_execs_cons (sup_stmt (s := { s with heap := h₁, toks := s.toks + 3 }) (ar := { arg := "self", annotation := none, pos := a1 }) (t0 := t0) T (X.keeps hk₁) (Tp.keeps hk₁) hns ms (hk₁ _ _ hx) hLx ho rfl hcode hvs hfile hcell l2 l3 ls rfl (fun h₂ tk₂ t1 k₂ e₂ => ?_) he hi hw)
  refine wpAt_of_wpAny ?_
  have kk : ∀ b o, b ≠ x → s.heap.get? b = some o → h₂.get? b = some o := fun b o hb z => k₂ b o hb (hk₁ b o z)
  have X₂ : K.In h₂ := fun a o e => kk a o (fun z => by
    subst z
    rw [hnx] at e
    cases e) (X a o e)
  have hns₂ : h₂.Ns s.heap.objs.size (fun y => ([("self", Value.ref x), (f, v), (f2, v2)] : List (Str × Value)).reverse.lookup y) := hns.at fun o z => k₂ _ o hLx z
  refine wpAny_execs_cons (plainObj_wpAny_Assign_Attribute ?_)
  refine ESX.ldL (v := v) hns₂ mf (ESX.ldL (v := .ref x) hns₂ ms ?_ rfl ls) rfl l1 n4
  refine set_plain X₂ (ox := HandSPX.excO C t1) (od := none) ⟨e₂, rfl, rfl, trivial⟩ T.sa ?_
  refine osa_new X₂ e₂ hcl (show excTail lkT (.ref C :: bm) = true from hbm) rfl nof (fun h₃ tk₃ dx k₃ dn dne hx₃ hn₃ => ?_)
  have z1 : s.heap.objs.size < h₂.objs.size := hns₂.lt
  have hns₃ : h₃.Ns s.heap.objs.size (fun y => ([("self", Value.ref x), (f, v), (f2, v2)] : List (Str × Value)).reverse.lookup y) := hns₂.at fun o z => k₃ _ o hLx z
  have X₃ : K.In h₃ := fun a o e => k₃ a o (fun z => by
    subst z
    rw [hnx] at e
    cases e) (X₂ a o e)
  refine wpAny_execs_cons (plainObj_wpAny_Assign_Attribute ?_)
  refine ESX.ldL (v := v2) hns₃ mf2 (ESX.ldL (v := .ref x) hns₃ ms ?_ rfl ls) rfl l1' m4
  have hwi : Within (fun y => if y = f then some v else none) [f] := fun y hy => by
    by_cases e : y = f
    · rw [e]; exact List.mem_cons_self ..
    · exact absurd (if_neg e) hy
  obtain ⟨oD, _, _, hoD, _, _⟩ := hn₃.count hwi
  refine set_plain X₃ (ox := { cls := .ref C, dict := some dx, data := .fields #[.ref t1, .none, .none, .none, .bool false, .none] }) (od := some oD) ⟨hx₃, rfl, rfl, hoD⟩ T.sa ?_
  refine osa_old X₃ hx₃ hn₃ hwi (by show 1 ≤ 1000; decide) hcl (show excTail lkT (.ref C :: bm) = true from hbm) rfl nof2 (fun h₄ tk₄ k₄ hn₄ => ?_)
  refine wpAny_execs_nil ?_
  have nd : ∀ {b : Addr} {o : Obj}, s.heap.get? b = some o → b ≠ dx := fun {b o} q => Nat.ne_of_lt (Nat.lt_of_lt_of_le (Heap.lt_size q) (Nat.le_of_lt (Nat.lt_of_lt_of_le z1 dn)))
  exact hq h₄ tk₄ dx ⟨fun b o hb e => k₄ b o (nd e) (k₃ b o hb (kk b o hb e)), ⟨t1, k₄ _ _ (Ne.symm dne) hx₃⟩, Nat.le_of_lt (Nat.lt_of_lt_of_le z1 dn), dne, hn₄⟩

/-- a made exception at e -/
structure OwnMade (h h' : Heap) (e C d : Addr) (mm : Str → Option Value) : Prop where
  keep : ∀ b o, h.get? b = some o → h'.get? b = some o
  new : h.objs.size ≤ e
  obj : ∃ t1 : Addr, h'.get? e = some { cls := .ref C, dict := some d, data := .fields #[.ref t1, .none, .none, .none, .bool false, .none] }
  dbig : h.objs.size ≤ d
  dne : d ≠ e
  ns : h'.Ns1 d mm
theorem made {params : Arguments} {body : List Stmt} {scope : Scope} {rest : List Value} {kw : List (Str × Value)} {mm : Str → Option Value} (T : XCls prog K C) (Fn : XFn prog K C fI qual params body scope) (X : K.In s.heap) (Tp : XTop s.heap) (hz : rest.length ≤ sizeLine)
    (hi : ∀ (s' : Shared) (A' : Around) (x t0 : Addr) (R' : Result → Shared → Prop), K.In s'.heap → XTop s'.heap → s'.heap.get? x = some (HandSPX.excO C t0) → K.lookup x = none → A'.depth ≤ A.depth + 1 →
      (∀ h' tk dx, InitEnd s'.heap h' x C dx mm → R' (.ok (.ret .none)) { s' with heap := h', toks := tk }) → codeAny (model prog w) A' (.call (.ref fI) ⟨.ref x :: rest, kw⟩) R' s')
    (hq : ∀ h' tk e d, OwnMade s.heap h' e C d mm → R (.ok (.ret (.ref e))) { s with heap := h', toks := tk }) :
    codeAny (model prog w) A (.call (.ref C) ⟨rest, kw⟩) R s := by
  obtain ⟨nm, q, N, bs, bm, sn, sub, ab, col, dd, k0, k1, k2, k3, k5, hC, hbm⟩ := T.cls
  obtain ⟨hp, g, dr, tk, os⟩ := s
  have k : ∀ b o, hp.get? b = some o → ((hp.push (kdv_tup rest)).push (HandSPX.excO C hp.objs.size)).get? b = some o := fun b o e => Heap.get?_push_of_some _ (Heap.get?_push_of_some _ e)
  have hget : ((hp.push (kdv_tup rest)).push (HandSPX.excO C hp.objs.size)).get? (hp.objs.size + 1) = some (HandSPX.excO C hp.objs.size) := by heap_get
  have hnx : K.lookup (hp.objs.size + 1) = none := by
    cases e : K.lookup (hp.objs.size + 1) with
    | none => rfl
    | some o =>
      have z : hp.get? (hp.objs.size + 1) = some o := X _ _ e
      exact absurd (Nat.lt_of_succ_lt (Heap.lt_size z)) (Nat.lt_irrefl _)
  refine call_ownK F.excBase_LookupError (fun Y => excTail_contains Y bm hbm) (X _ _ hC) (looks_findIn X Fn.iC) (fun self => bind_fn X self Fn.tI) hz ?_
  refine hi ⟨(hp.push (kdv_tup rest)).push (HandSPX.excO C hp.objs.size), g, dr, tk, os⟩ _ (hp.objs.size + 1) hp.objs.size _ (X.keeps k) (Tp.keeps k) hget hnx (Nat.le_refl _) fun h' tk' dx IE => ?_
  have old : ∀ b o, hp.get? b = some o → h'.get? b = some o := fun b o e => IE.keep b o (Nat.ne_of_lt (Nat.lt_succ_of_lt (Heap.lt_size e))) (k b o e)
  have z : hp.objs.size + 1 + 1 ≤ dx := by
    have q := IE.dbig
    rw [show ({ heap := (hp.push (kdv_tup rest)).push (HandSPX.excO C hp.objs.size), gens := g, drawn := dr, toks := tk, os := os } : Shared).heap.objs.size = hp.objs.size + 1 + 1 from by rw [Heap.size_push, Heap.size_push]] at q
    exact q
  exact ⟨rfl, hq h' tk' (hp.objs.size + 1) dx ⟨old, Nat.le_succ _, IE.obj, Nat.le_trans (Nat.le_trans (Nat.le_succ _) (Nat.le_succ _)) z, IE.dne, IE.ns⟩⟩
end
end XL
end PySem
namespace L2
open PySem PySem.Spec PyProof.Rows
/-! ### exceptions of own classes (over LookupError) as values: made, their fields read, isinstance -/
section
variable {X : Cx} {pins : List (Addr × Obj)} {σ : St} {H : Hp} {s : Shared}
theorem Inv.xtop (I : Inv X pins σ H s) : XL.XTop s.heap :=
  ⟨⟨_, I.mod.glob.keeps I.bk⟩, let ⟨mb, h1, h2⟩ := I.mod.blt; ⟨mb, h1.keeps I.bk, h2⟩, I.nolimit⟩
/-- two objects that are new -/
theorem Inv.laid2 {a d : Addr} {oa od : HO} {t' : Nat} {h' : Heap} (I : Inv X pins σ H s) (k : ∀ b u, s.heap.get? b = some u → h'.get? b = some u) (ha : s.heap.objs.size ≤ a) (hd : s.heap.objs.size ≤ d) (hne : d ≠ a)
    (na : ObjOk X.prog X.w (upd (upd H d od) a oa) h' a oa) (nd : ObjOk X.prog X.w (upd (upd H d od) a oa) h' d od) : Inv X pins σ (upd (upd H d od) a oa) { s with heap := h', toks := t' } := by
  have fa := I.hok.fresh ha
  have fd := I.hok.fresh hd
  have la : ∀ {b : Addr} {u : Obj}, s.heap.get? b = some u → b ≠ a := fun q => Nat.ne_of_lt (Nat.lt_of_lt_of_le (Heap.lt_size q) ha)
  have ld : ∀ {b : Addr} {u : Obj}, s.heap.get? b = some u → b ≠ d := fun q => Nat.ne_of_lt (Nat.lt_of_lt_of_le (Heap.lt_size q) hd)
  have up : ∀ {b : Addr} {u : HO}, H b = some u → upd (upd H d od) a oa b = some u := fun q => by rw [upd_ne (ne_of_none q fa), upd_ne (ne_of_none q fd)]; exact q
  refine I.un (t' := t') (h' := h') {
    keep := fun b u q _ _ _ => k b u q
    slot := fun b u q _ _ _ => ⟨u.slots, k b u q⟩
    free := fun b u q n _ => by rw [upd_ne (la q), upd_ne (ld q)]; exact n
    there := fun b u q _ => ⟨u, k b u q⟩
    tups := fun b xs q => up q
    frzs := fun b u xs q => up q
    tbls := fun b ps q => ⟨#[], by rw [up q]; simp⟩ } fun b u e => ?_
  by_cases hb : b = a
  · subst hb; rw [upd_same] at e; cases e; exact na
  · rw [upd_ne hb] at e
    by_cases hb' : b = d
    · subst hb'; rw [upd_same] at e; cases e; exact nd
    · rw [upd_ne hb'] at e
      exact (I.hok b u e).stay (fun c v _ q => k c v q) (fun c q => up q) fun c xs q => up q
end
theorem pe_gref {X : Cx} {x : Str} {C : Addr} {pos : Pos} (hg : Gl X x) (hm : X.mg x = some (.ref C)) (hd : (x == ("__debug__" : Str)) = false := by decide) : PE X (.Name x pos) (tC (.ref C)) := pe_glob hg hm rfl hd
/-- C(us, ks = ws) can be made; its fields then are gV's -/
def XMk (P : Program) (w : World) (K : PySem.W.Frag) (C : Addr) (n : Nat) (ks : List Str) (gV : List V → List V → List (Str × V)) : Prop :=
  ∀ (A : Around) (s : Shared) (R : Result → Shared → Prop) (us ws : List Value) (vs zs : List V), Vals vs us → Vals zs ws → us.length = n → ws.length = ks.length → K.In s.heap → XL.XTop s.heap → A.depth + 2 < recursionLimit →
    (∀ h' tk e d mm, XL.OwnMade s.heap h' e C d mm → (∀ f, RelO ((gV vs zs).lookup f) (mm f)) → R (.ok (.ret (.ref e))) { s with heap := h', toks := tk }) →
    codeAny (model P w) A (.call (.ref C) ⟨us, ks.zip ws⟩) R s
/-- a new exception of the class C with the fields gV -/
def tXv (C : Addr) (n m : Nat) (gV : List V → List V → List (Str × V)) (ta tk : TA) : TE := fun σ H Q => ta σ H fun vs H1 => tk σ H1 fun zs H2 => vs.length = n ∧ zs.length = m ∧
  ∀ a d, H2 a = none → H2 d = none → d ≠ a → Q (.ref a) (upd (upd H2 d (exd d (gV vs zs))) a (exo a C (some d)))
section
variable {X : Cx} {n k : Nat} {C : Addr} {ks : List Str} {x : Str} {p pos : Pos} {e : Expr} {es : List Expr} {kws : List Keyword} {t tk : TA} {gV : List V → List V → List (Str × V)}
theorem run_xv {pins : List (Addr × Obj)} {σ : St} {H : Hp} {s : Shared} {Q : VK} {us ws : List Value} {vs zs : List V} (M : XMk X.prog X.w X.K C n ks gV) (hr : Room k X.A) (I : Inv X pins σ H s) (r : Vals vs us) (rz : Vals zs ws) (l1 : vs.length = n) (l2 : zs.length = ks.length)
    (h : ∀ a d, H a = none → H d = none → d ≠ a → Q (.ref a) (upd (upd H d (exd d (gV vs zs))) a (exo a C (some d)))) :
    wpAny (model X.prog X.w) X.A (call (.ref C) us (ks.zip ws)) (EP X pins σ Q) X.xe s := by
  refine wpAny_call (M _ s _ us ws vs zs r rz (r.length.symm.trans l1) (rz.length.symm.trans l2) I.kIn I.xtop (by have := hr.dp; omega) fun h' tk' e' d mm O rel => ?_)
  obtain ⟨t1, ho⟩ := O.obj
  exact ⟨.ref e', _, I.laid2 (t' := tk') O.keep O.new O.dbig O.dne (exo_ok ho) (exd_ok O.ns rel), rfl, h e' d (I.hok.fresh O.new) (I.hok.fresh O.dbig) O.dne⟩
/-- C(e, .., k = v, ..) -/
theorem pe_xv (M : XMk X.prog X.w X.K C n ks gV) (hr : Room k X.A) (hg : Gl X x) (hm : X.mg x = some (.ref C)) (kp : PySem.W.keepIn X.K (.ref C) = true) (ha : PA X (e :: es) t) (hkw : PK X kws tk)
    (hall : (backToKw pos (keywordEach kws X.env)).all (·.1.isSome) = true := by rfl) (hks : (backToKw pos (keywordEach kws X.env)).filterMap (·.1) = ks := by rfl) (hdb : (x == ("__debug__" : Str)) = false := by decide)
    (he : starEach (e :: es) X.env = (false, eval e X.env) :: starEach es X.env := by rfl) (hpl : ((backTo pos (starEach (e :: es) X.env)).any (·.1) || (backToKw pos (keywordEach kws X.env)).any (·.1.isNone)) = false := by rfl) :
    PE X (.Call (.Name x p) (e :: es) kws pos) (tXv C n ks.length gV t tk) := by
  refine ⟨fun pins s σ H Q I h => ?_⟩
  refine wpAny_Call_Name_kw (ld_glob I hg hm ?_ hdb)
  refine PySem.W.callWith_KW (h₀ := X.base) I.ok.mod.kin kp hall (thn (ha.run pos pins s σ H _ I h) fun us s1 ⟨vs, H1, I1, r, q⟩ => ?_) hpl he
  refine thn (hkw.run pos pins s1 σ H1 _ I1 q) fun ws s2 ⟨zs, H2, I2, rz, l1, l2, q2⟩ => ⟨I2.kIn, ?_⟩
  rw [hks]
  exact run_xv M hr I2 r rz l1 l2 q2
/-- C(k = v, ..) -/
theorem pe_xv0 (M : XMk X.prog X.w X.K C 0 ks gV) (hr : Room k X.A) (hg : Gl X x) (hm : X.mg x = some (.ref C)) (kp : PySem.W.keepIn X.K (.ref C) = true) (hkw : PK X kws tk)
    (hall : (backToKw pos (keywordEach kws X.env)).all (·.1.isSome) = true := by rfl) (hks : (backToKw pos (keywordEach kws X.env)).filterMap (·.1) = ks := by rfl) (hdb : (x == ("__debug__" : Str)) = false := by decide)
    (hpl : ((backTo pos (starEach [] X.env)).any (·.1) || (backToKw pos (keywordEach kws X.env)).any (·.1.isNone)) = false := by rfl) :
    PE X (.Call (.Name x p) [] kws pos) (tXv C 0 ks.length gV tNil tk) := by
  refine ⟨fun pins s σ H Q I h => ?_⟩
  refine wpAny_Call_Name_kw (ld_glob I hg hm ?_ hdb)
  refine PySem.W.callWith_KW0 (h₀ := X.base) I.ok.mod.kin kp hall ?_ hpl
  refine thn (hkw.run pos pins s σ H _ I h) fun ws s2 ⟨zs, H2, I2, rz, l1, l2, q2⟩ => ⟨I2.kIn, ?_⟩
  rw [hks]
  exact run_xv (us := []) (vs := []) M hr I2 .nil rz rfl l2 q2
end
section
variable {P : Program} {w : World} {K : PySem.W.Frag} {C fI : Addr} {qual tx f f2 : Str}
open PySem.XL in
theorem xmk1 {Ps : Ps1} {a1 a2 : Pos} (T : XCls P K C) (Fn : XFn P K C fI qual (args1 a1 a2 f) (body1 Ps tx f) (scope1 f)) (hf : okF f = true) (nof : PySem.W.findIn K (.ref C) f = some none) (ev : EvOk qual (scope1 f) fI Ps tx)
    (hb : ∀ (s : Shared) (x : Addr) (v : Value) (kV doc pm : Value) (an : Option Addr) (cdv ct : Value) (cc : Addr), BindsTo s (PySem.W.ksFn "__init__" qual (args1 a1 a2 f) (body1 Ps tx f) (scope1 f) .none kV doc pm an cdv ct cc) ⟨[.ref x, v], []⟩ [("self", .ref x), (f, v)]) :
    XMk P w K C 1 [] (fun vs _ => [(f, vs.headD .non)]) := by
  intro A s R us ws vs zs r rz l1 l2 X Tp dp hq
  cases r with
  | nil => cases l1
  | @cons v u vs' us' ru rr =>
    cases rr with
    | cons _ _ => cases l1
    | nil =>
      show codeAny _ _ (.call (.ref C) ⟨[u], []⟩) _ _
      refine made (mm := fun y => if y = f then some u else none) T Fn X Tp (by show 1 ≤ sizeLine; rw [sizeLine_eq]; decide) (fun s' A' x t0 R' X' Tp' hx hnx hA hq' => ?_) fun h' tk e d O => hq h' tk e d _ O fun g => ?_
      · exact init1 T Fn hf nof ev X' Tp' hx hnx (by omega) (hb s' x u) hq'
      · rw [lookup_put]
        by_cases e : g = f
        · rw [if_pos e, if_pos e]; exact ru
        · rw [if_neg e, if_neg e]; exact True.intro
open PySem.XL in
theorem xmk1k {Ps : Ps1} {a1 a2 : Pos} (T : XCls P K C) (Fn : XFn P K C fI qual (args1 a1 a2 f) (body1 Ps tx f) (scope1 f)) (hf : okF f = true) (nof : PySem.W.findIn K (.ref C) f = some none) (ev : EvOk qual (scope1 f) fI Ps tx)
    (hb : ∀ (s : Shared) (x : Addr) (v : Value) (kV doc pm : Value) (an : Option Addr) (cdv ct : Value) (cc : Addr), BindsTo s (PySem.W.ksFn "__init__" qual (args1 a1 a2 f) (body1 Ps tx f) (scope1 f) .none kV doc pm an cdv ct cc) ⟨[.ref x], [(f, v)]⟩ [("self", .ref x), (f, v)]) :
    XMk P w K C 0 [f] (fun _ zs => [(f, zs.headD .non)]) := by
  intro A s R us ws vs zs r rz l1 l2 X Tp dp hq
  cases r with
  | cons _ _ => cases l1
  | nil =>
    cases rz with
    | nil => cases l2
    | @cons v u vs' us' ru rr =>
      cases rr with
      | cons _ _ => cases l2
      | nil =>
        show codeAny _ _ (.call (.ref C) ⟨[], [(f, u)]⟩) _ _
        refine made (mm := fun y => if y = f then some u else none) T Fn X Tp (by show 0 ≤ sizeLine; omega) (fun s' A' x t0 R' X' Tp' hx hnx hA hq' => ?_) fun h' tk e d O => hq h' tk e d _ O fun g => ?_
        · exact init1 T Fn hf nof ev X' Tp' hx hnx (by omega) (hb s' x u) hq'
        · rw [lookup_put]
          by_cases e : g = f
          · rw [if_pos e, if_pos e]; exact ru
          · rw [if_neg e, if_neg e]; exact True.intro
theorem rel2 {v v2 : V} {u u2 : Value} (r : RelV v u) (r2 : RelV v2 u2) (g : Str) : RelO (([(f2, v2), (f, v)] : List (Str × V)).lookup g) (if g = f2 then some u2 else if g = f then some u else none) := by
  rw [lookup_put]
  by_cases e : g = f2
  · rw [if_pos e, if_pos e]; exact r2
  · rw [if_neg e, if_neg e, lookup_put]
    by_cases e' : g = f
    · rw [if_pos e', if_pos e']; exact r
    · rw [if_neg e', if_neg e']; exact True.intro
open PySem.XL in
theorem xmk2 {Ps : Ps2} {a1 a2 a3 : Pos} (T : XCls P K C) (Fn : XFn P K C fI qual (args2 a1 a2 a3 f f2) (body2 Ps tx f f2) (scope2 f f2)) (hf : okF f = true) (hf2 : okF f2 = true) (h12 : (f == f2) = false) (nof : PySem.W.findIn K (.ref C) f = some none) (nof2 : PySem.W.findIn K (.ref C) f2 = some none) (ev : EvOk qual (scope2 f f2) fI Ps.toPs1 tx)
    (hb : ∀ (s : Shared) (x : Addr) (v v2 : Value) (kV doc pm : Value) (an : Option Addr) (cdv ct : Value) (cc : Addr), BindsTo s (PySem.W.ksFn "__init__" qual (args2 a1 a2 a3 f f2) (body2 Ps tx f f2) (scope2 f f2) .none kV doc pm an cdv ct cc) ⟨[.ref x, v, v2], []⟩ [("self", .ref x), (f, v), (f2, v2)]) :
    XMk P w K C 2 [] (fun vs _ => [(f2, vs.getD 1 .non), (f, vs.getD 0 .non)]) := by
  intro A s R us ws vs zs r rz l1 l2 X Tp dp hq
  cases r with
  | nil => cases l1
  | @cons v u vs' us' ru rr =>
    cases rr with
    | nil => cases l1
    | @cons v2 u2 vs' us' ru2 rr =>
      cases rr with
      | cons _ _ => cases l1
      | nil =>
        show codeAny _ _ (.call (.ref C) ⟨[u, u2], []⟩) _ _
        refine made (mm := fun y => if y = f2 then some u2 else if y = f then some u else none) T Fn X Tp (by show 2 ≤ sizeLine; rw [sizeLine_eq]; decide) (fun s' A' x t0 R' X' Tp' hx hnx hA hq' => ?_) fun h' tk e d O => hq h' tk e d _ O fun g => rel2 ru ru2 g
        exact init2 T Fn hf hf2 h12 nof nof2 ev X' Tp' hx hnx (by omega) (hb s' x u u2) hq'
open PySem.XL in
/-- by keywords, the second one first -/
theorem xmk2k {Ps : Ps2} {a1 a2 a3 : Pos} (T : XCls P K C) (Fn : XFn P K C fI qual (args2 a1 a2 a3 f f2) (body2 Ps tx f f2) (scope2 f f2)) (hf : okF f = true) (hf2 : okF f2 = true) (h12 : (f == f2) = false) (nof : PySem.W.findIn K (.ref C) f = some none) (nof2 : PySem.W.findIn K (.ref C) f2 = some none) (ev : EvOk qual (scope2 f f2) fI Ps.toPs1 tx)
    (hb : ∀ (s : Shared) (x : Addr) (v v2 : Value) (kV doc pm : Value) (an : Option Addr) (cdv ct : Value) (cc : Addr), BindsTo s (PySem.W.ksFn "__init__" qual (args2 a1 a2 a3 f f2) (body2 Ps tx f f2) (scope2 f f2) .none kV doc pm an cdv ct cc) ⟨[.ref x], [(f2, v2), (f, v)]⟩ [("self", .ref x), (f, v), (f2, v2)]) :
    XMk P w K C 0 [f2, f] (fun _ zs => [(f2, zs.getD 0 .non), (f, zs.getD 1 .non)]) := by
  intro A s R us ws vs zs r rz l1 l2 X Tp dp hq
  cases r with
  | cons _ _ => cases l1
  | nil =>
  cases rz with
  | nil => cases l2
  | @cons v2 u2 vs' us' ru2 rr =>
    cases rr with
    | nil => cases l2
    | @cons v u vs' us' ru rr =>
      cases rr with
      | cons _ _ => cases l2
      | nil =>
        show codeAny _ _ (.call (.ref C) ⟨[], [(f2, u2), (f, u)]⟩) _ _
        refine made (mm := fun y => if y = f2 then some u2 else if y = f then some u else none) T Fn X Tp (by show 0 ≤ sizeLine; omega) (fun s' A' x t0 R' X' Tp' hx hnx hA hq' => ?_) fun h' tk e d O => hq h' tk e d _ O fun g => rel2 ru ru2 g
        exact init2 T Fn hf hf2 h12 nof nof2 ev X' Tp' hx hnx (by omega) (hb s' x u u2) hq'
end
/-- what an own exception class must say for its instances to be read and asked -/
structure XAsk (K : PySem.W.Frag) (D : Addr) : Prop where
  hg : PySem.W.findIn K (.ref D) "__getattribute__" = some (some (.builtin "BaseException.__getattribute__"))
  hk : PySem.W.findIn K (.ref D) "__getattr__" = some none
  hs : PySem.W.subIn K (.ref D) (.type "BaseException") = some true
  hd : PySem.W.hasDictIn K D = true
  ha : PySem.W.findIn K (.ref D) "__class__" = some (some (.builtin "object.__class__"))
  hn : PySem.W.specialIn K (.builtin "object.__class__") "__get__" = some (some (.builtin "getset_descriptor.__get__"))
  ht : PySem.W.takesIn K (.builtin "object.__class__") = some true
  hm : PySem.W.mroIn K D (.type "object") = some true
/-- e.f, e an exception that is held as a value -/
def tXat (K : PySem.W.Frag) (f : Str) (te : TE) : TE := fun σ H Q => te σ H fun x H1 => ∃ (a C d : Addr) (fs : List (Str × V)) (v : V), x = .ref a ∧ H1 a = some (exo a C (some d)) ∧ H1 d = some (exd d fs) ∧ XAsk K C ∧ PySem.W.findIn K (.ref C) f = some none ∧ fs.lookup f = some v ∧ Q v H1
/-- isinstance(e, c) -/
def rXis (K : PySem.W.Frag) : List V → Hp → VK → Prop := fun xs H Q => ∃ (a C d : Addr) (fs : List (Str × V)) (c : V) (u : Value) (b : Bool), xs = [.ref a, c] ∧ ClsV c u ∧ H a = some (exo a C (some d)) ∧ H d = some (exd d fs) ∧ XAsk K C ∧ PySem.W.kitOne K (.ref C) u = some b ∧ Q (.bl b) H
section
variable {X : Cx} {pins : List (Addr × Obj)} {σ : St} {H : Hp} {s : Shared}
theorem Inv.inst {a C d : Addr} {fs : List (Str × V)} (I : Inv X pins σ H s) (ea : H a = some (exo a C (some d))) (ed : H d = some (exd d fs)) :
    ∃ (oe od : Obj) (mA : Str → Option Value), PySem.W.InstAt s.heap a oe C (some od) ∧ (∀ f, RelO (fs.lookup f) (mA f)) ∧ ∀ f, PySem.W.lookIn f od = some (mA f) := by
  obtain ⟨t1, ho⟩ := exo_at I.hok ea
  obtain ⟨mA, hns, hr⟩ := exd_at I.hok ed
  obtain ⟨od, hod, hl⟩ := lookIn_ns hns
  exact ⟨_, od, mA, ⟨ho, rfl, rfl, hod⟩, hr, hl⟩
theorem pe_xat {e : Expr} {te : TE} {pos : Pos} {f : Str} (he : PE X e te) (hb : attributeBase e f X.env (eval e X.env) = eval e X.env := by rfl) : PE X (.Attribute e f pos) (tXat X.K f te) := by
  refine ⟨fun pins s σ H Q I h => ?_⟩
  refine attr_of hb (thn (he.run pins s σ H _ I h) fun u s1 ⟨x, H1, I1, rx, a, C, d, fs, v, ex, ea, ed, T, hno, l, q⟩ => ?_)
  subst ex
  obtain rfl : u = Value.ref a := rx
  obtain ⟨oe, od, mA, J, hr, hl⟩ := I1.inst ea ed
  obtain ⟨u, hu, ru⟩ := RelO.some_of (v := v) (o := mA f) (by rw [← l]; exact hr f)
  exact HandSPX.exc_get I1.kIn J T.hg T.hk T.hs (PySem.W.findObj_own T.hd hno rfl (by rw [hl, hu])) (handed_of ru) ⟨v, H1, I1.tok _, ru, q⟩
theorem call_xis : CallR X (.builtin "isinstance") (rXis X.K) := by
  intro pins s σ H xs us Q I r h
  obtain ⟨a, C, d, fs, c, u, b, rfl, k, ea, ed, T, e, q⟩ := h
  obtain ⟨u1, u2, rfl, r1, r2⟩ := vals2 r
  have e2 := k.eq r2
  subst e2
  obtain rfl : u1 = Value.ref a := r1
  obtain ⟨oe, od, mA, J, hr, hl⟩ := I.inst ea ed
  obtain ⟨cd, hc, _⟩ := PySem.W.any_some T.hd
  exact PySem.W.kia_one (PySem.W.kitx_exc (by rw [hc]; rfl) T.hg T.hk T.hs T.ha T.hn T.ht T.hm) I.kIn J e (fun z => nomatch z) fun tk => ⟨.bl b, H, I.tok tk, rfl, q⟩
end
end L2
namespace L2
open PySem PySem.Spec PyProof.Rows
/-! ### raise C(e, ..), C an own class over LookupError -/
/-- C(e, ..) to be raised: its own dict d, new, holds the fields -/
def tXmk (C : Addr) (n : Nat) (gV : List V → List V → List (Str × V)) (ta : TA) : L2.St → Hp → XK → Prop := fun σ H Q => ta σ H fun vs H1 => vs.length = n ∧ ∀ d, H1 d = none → Q (.ref C) (some d) (upd H1 d (.xd (gV vs [])))
theorem pmk_x {X : Cx} {x : Str} {C : Addr} {n k : Nat} {e : Expr} {es : List Expr} {ta : TA} {p pos : Pos} {gV : List V → List V → List (Str × V)} (M : XMk X.prog X.w X.K C n [] gV) (hr : Room k X.A) (hg : Gl X x) (hm : X.mg x = some (.ref C)) (kp : PySem.W.keepIn X.K (.ref C) = true) (rs : Raises X (.ref C)) (ha : PA X (e :: es) ta)
    (hdb : (x == ("__debug__" : Str)) = false := by decide) (he : starEach (e :: es) X.env = (false, eval e X.env) :: starEach es X.env := by rfl) (hpl : (backTo pos (starEach es X.env)).any (·.1) = false := by rfl) :
    PMk X (.Call (.Name x p) (e :: es) [] pos) (tXmk C n gV ta) := by
  intro pins s σ H Q I h
  refine wpAny_Call_Name_kw (ld_glob I hg hm ?_ hdb)
  refine PySem.W.callWith_K (h₀ := X.base) I.ok.mod.kin kp (thn (ha.run pos pins s σ H _ I h) fun us s1 ⟨vs, H1, I1, r1, l1, q1⟩ => ⟨I1.kIn, ?_⟩) he hpl
  show wpAny _ _ (call (.ref C) us) _ _ _
  refine wpAny_call (M _ s1 _ us [] vs [] r1 .nil (r1.length.symm.trans l1) rfl I1.kIn I1.xtop (by have := hr.dp; omega) fun h' tk' e' d mm O rel => ?_)
  obtain ⟨hp, g, dr, tk, os⟩ := s1
  obtain ⟨t1, hoe⟩ := O.obj
  obtain ⟨G', g1, g2⟩ := restrict h' fun b => decide (b ≠ e')
  have gk : ∀ b, b ≠ e' → G'.get? b = h'.get? b := fun b hb => g1 b (decide_eq_true hb)
  have ge : G'.get? e' = none := g2 e' (by simp)
  have old : ∀ b o, hp.get? b = some o → G'.get? b = some o := fun b o q => (gk b (Nat.ne_of_lt (Nat.lt_of_lt_of_le (Heap.lt_size q) O.new))).trans (O.keep b o q)
  have ob : ObjOk X.prog X.w (upd H1 d (.xd (gV vs []))) G' d (.xd (gV vs [])) := ⟨_, O.ns.at (fun o q => (gk d O.dne).trans q), rel⟩
  have J : Inv X pins σ (upd H1 d (.xd (gV vs []))) ⟨G', g, dr, tk', os⟩ := I1.laid (t' := tk') old O.dbig ob
  refine ⟨e', _, _, ⟨G', g, dr, tk', os⟩, _, .ref C, some d, rfl, J, fun b o q => ?_, ge, hoe, ⟨rfl, rfl⟩, rfl, rfl, ?_, rfl, I1.bare, rs, q1 d (I1.hok.fresh O.dbig)⟩
  · by_cases hb : b = e'
    · have q' : G'.get? b = some o := q
      rw [hb, ge] at q'; cases q'
    · exact (gk b hb).symm.trans q
  · rw [upd_ne (Ne.symm O.dne)]
    exact I1.hok.fresh O.new
end L2
namespace L2
open PySem PySem.Spec PyProof.Rows
/-! ### zip of a text and a tuple -/
/-- the text x and the tuple at b, the items in new pairs -/
def ItzS (K : PySem.W.Frag) (x : Str) (b : Addr) : It :=
  ⟨fun i H => ∃ (ys : List V) (c : Nat) (y : V), SqT K H b ys ∧ x.cps[i]? = some c ∧ ys[i]? = some y ∧ i ≤ x.cps.size ∧ i ≤ ys.length,
    fun i H v H' => ∃ T c y, v = .ref T ∧ H T = none ∧ H' = upd H T (.tup [.str ⟨#[c]⟩, y]) ∧ x.cps[i]? = some c ∧ ∀ ys, SqT K H b ys → ys[i]? = some y,
    fun i H => ∃ ys : List V, SqT K H b ys ∧ i ≤ x.cps.size ∧ i ≤ ys.length ∧ (i = x.cps.size ∨ i = ys.length)⟩
theorem draws_text {prog : Program} {w : World} {A : Around} (hh : A.handled = none) (it : Addr) (x : Str) (t : Tok) (ty : String) (hty : ty = "str_ascii_iterator" ∨ ty = "str_iterator") :
    Draws prog w A it [it] x.cps.size (fun i v => ∃ c u, x.cps[i]? = some c ∧ v = .str ⟨#[c]⟩ u) (fun i h => h.IsStrIter it ty x t i) := by
  rcases hty with rfl | rfl
  · exact Draws.strAscii hh it x t
  · exact Draws.strWide hh it x t
theorem turn_zipS {P : Program} {w : World} {K : PySem.W.Frag} {elts : List Expr} {kk : Nat} {tpos : Pos} {b z TI TO i1 i2 : Addr} {x : Str} {t : Tok} {ty : String} (hty : ty = "str_ascii_iterator" ∨ ty = "str_iterator") (D : ZipSep2 z TI TO i1 i2 [i1] [i2, b]) (hb : b ≠ i2) :
    Turn P w K (.Tuple elts kk tpos) (ItzS K x b) [z, TI, TO, i1, i2] z (fun i h => IsZip h z TI TO .none ∧ IsTupOf2 h TI (.ref i1) (.ref i2) ∧ (∃ x y, IsTupOf2 h TO x y) ∧ h.IsStrIter i1 ty x t i ∧ h.IsTupleIter i2 b i) where
  mem := by simp
  obj := fun i h st c hc => by
    obtain ⟨hz, hTI, ⟨x, y, hTO⟩, ⟨o1, e1, _, d1⟩, ⟨o2, e2, _, d2⟩⟩ := st
    have e' : c = z ∨ c = TI ∨ c = TO ∨ c = i1 ∨ c = i2 := by simpa using hc
    rcases e' with q | q | q | q | q
    · rw [q]; exact ⟨_, hz, fun v q => nomatch q⟩
    · rw [q]; exact ⟨_, hTI, fun v q => nomatch q⟩
    · rw [q]; exact ⟨_, hTO, fun v q => nomatch q⟩
    · rw [q]; exact ⟨o1, e1, fun v q => by rw [d1] at q; cases q⟩
    · rw [q]; exact ⟨o2, e2, fun v q => by rw [d2] at q; cases q⟩
  keep := fun i h h' st k => by
    obtain ⟨hz, hTI, ⟨x, y, hTO⟩, ⟨o, ho, r⟩, h2⟩ := st
    exact ⟨k z (by simp) _ hz, k TI (by simp) _ hTI, ⟨x, y, k TO (by simp) _ hTO⟩, ⟨o, k i1 (by simp) o ho, r⟩, h2.at fun o q => k i2 (by simp) o q⟩
  item := by
    intro X hP hw hK hc i pins s σ H E I hf st hg
    subst hP hw hK
    obtain ⟨hz, hTI, ⟨x0, y0, hTO⟩, h1, h2⟩ := st
    obtain ⟨ys, c, y, hqy, hx, hy, l1, l2⟩ := hg
    obtain ⟨its2, rv2, p2, _⟩ := I.tuple hqy
    obtain ⟨u2, hu2, ru2⟩ := rv2.get hy
    have hzl : z < s.heap.objs.size := Heap.lt_size hz
    have hlt1 : i < x.cps.size := (Array.getElem?_eq_some_iff.mp hx).1
    have hlt2 : i < its2.toArray.size := by simpa using (List.getElem?_eq_some_iff.mp hu2).1
    have d1 := draws_text (prog := X.prog) (w := X.w) (A := X.A.in1) (I.ok.hd hc) i1 x t ty hty
    have d2 := Draws.tuple (prog := X.prog) (w := X.w) (A := X.A.in1) (I.ok.hd hc) i2 b hb its2.toArray
    refine wpAny_pyNext_zipD2_item (St1 := fun i h => h.IsStrIter i1 ty x t i) (St2 := fun i h => h.IsTupleIter i2 b i ∧ h.IsTuple b its2.toArray) D d1 d2 hz hTI hTO h1 ⟨h2, p2⟩ hlt1 hlt2 fun x1 x2 h' tk q1 q2 z' TO' h1' h2' hT hsz hk => ?_
    obtain ⟨c', u, hc', rfl⟩ := q1
    rw [hx] at hc'
    cases hc'
    have hx2 : x2 = u2 := by
      have q2' : its2[i]? = some x2 := by simpa using q2
      rw [hu2] at q2'
      exact (Option.some.inj q2').symm
    subst hx2
    refine ⟨_, rfl, wpAny_letOwnedTupleGo_zip (s := { s with heap := h', toks := tk }) z' fun h'' z'' sb => ?_⟩
    have hT2 : h''.get? s.heap.objs.size = some { cls := .type "tuple", data := .seq #[.str ⟨#[c]⟩ u, x2] } := (sb.2 _ (Nat.ne_of_gt hzl)).trans hT
    have new : ObjOk X.prog X.w (upd H s.heap.objs.size (.tup [.str ⟨#[c]⟩, y])) h'' s.heap.objs.size (.tup [.str ⟨#[c]⟩, y]) :=
      ⟨by show 2 ≤ sizeLine; decide, [.str ⟨#[c]⟩ u, x2], .cons ⟨u, rfl⟩ (.cons ru2 .nil), ⟨_, hT2, rfl, _, rfl⟩⟩
    have I1 : Inv X pins σ (upd H s.heap.objs.size (.tup [.str ⟨#[c]⟩, y])) { s with heap := h'', toks := tk } :=
      I.turnedNew (t' := tk) (ch := [z, TI, TO, i1, i2]) (fun c o hb q => (sb.2 c (fun q' => hb (by simp [q']))).trans (hk c o (fun q' => hb (by simp [q'])) (fun q' => hb (by simp [q'])) (fun q' => hb (by simp [q'])) (fun q' => hb (by simp [q'])) q)) hf (Nat.le_refl _) new
    refine ⟨.ref s.heap.objs.size, _, I1, rfl, ⟨_, c, y, rfl, I.hok.fresh (Nat.le_refl _), rfl, hx, fun l hl => by rw [I.tuple_inj hl hqy]; exact hy⟩, ⟨z'', ?_, ⟨.str ⟨#[c]⟩ u, x2, ?_⟩, ?_, ?_⟩, fun c hcm => ?_⟩
    · exact (sb.2 _ D.TIz).trans (hk _ _ D.TIz D.TITO D.TIi1 D.TIi2 hTI)
    · exact (sb.2 _ D.TOz).trans TO'
    · obtain ⟨o, ho, r⟩ := h1'
      exact ⟨o, (sb.2 _ D.zi1.symm).trans ho, r⟩
    · exact h2'.1.at fun o q => (sb.2 _ D.zi2.symm).trans q
    · have hlt : c < s.heap.objs.size := by
        have e' : c = z ∨ c = TI ∨ c = TO ∨ c = i1 ∨ c = i2 := by simpa using hcm
        rcases e' with q | q | q | q | q
        · rw [q]; exact hzl
        · rw [q]; exact Heap.lt_size hTI
        · rw [q]; exact Heap.lt_size hTO
        · rw [q]; obtain ⟨_, e1, _⟩ := h1; exact Heap.lt_size e1
        · rw [q]; obtain ⟨_, e2, _⟩ := h2; exact Heap.lt_size e2
      rw [upd_ne (Nat.ne_of_lt hlt)]
      exact (hf c hcm).1
  done := by
    intro X hP hw hK hc i pins s σ H E I hf st hg
    subst hP hw hK
    obtain ⟨hz, hTI, ⟨x0, y0, hTO⟩, h1, h2⟩ := st
    obtain ⟨ys, hqy, l1, l2, hend⟩ := hg
    obtain ⟨its2, rv2, p2, _⟩ := I.tuple hqy
    have ll := rv2.length
    have l2' : i ≤ its2.toArray.size := by simp; omega
    have he : i = x.cps.size ∨ i = its2.toArray.size := by
      rcases hend with q | q
      · exact .inl q
      · exact .inr (by simp; omega)
    have d1 := draws_text (prog := X.prog) (w := X.w) (A := X.A.in1) (I.ok.hd hc) i1 x t ty hty
    have d2 := Draws.tuple (prog := X.prog) (w := X.w) (A := X.A.in1) (I.ok.hd hc) i2 b hb its2.toArray
    exact wpAny_pyNext_zipD2_end (St1 := fun i h => h.IsStrIter i1 ty x t i) (St2 := fun i h => h.IsTupleIter i2 b i ∧ h.IsTuple b its2.toArray) D d1 d2 hz hTI hTO h1 ⟨h2, p2⟩ l1 l2' he fun h' tk hk => ⟨rfl, I.turnedL (t' := tk) (ch := [z, TI, TO, i1, i2]) (fun c o hb q =>
      hk c o (fun q' => hb (by simp [q'])) (fun q' => hb (by simp [q'])) (fun q' => hb (by simp [q'])) (fun q' => hb (by simp [q'])) q) hf⟩
  self := fun A i s Q E st h => wpAny_pyIter_zip st.1 h
def iZipS (K : PySem.W.Frag) (ta : TA) : TI := fun σ H R => ta σ H fun vs H1 => ∃ (x : Str) (b : Addr) (ys : List V), vs = [.str x, .ref b] ∧ SqT K H1 b ys ∧ R (ItzS K x b) H1
theorem pi_zipS {X : Cx} {e e2 : Expr} {ta : TA} {p pos tpos : Pos} {elts : List Expr} {kk : Nat} (hg : Gl X "zip") (hm : X.mg "zip" = none) (ha : PA X [e, e2] ta)
    (hs : starEach [e, e2] X.env = (false, eval e X.env) :: starEach [e2] X.env := by rfl) (hpl : (backTo pos (starEach [e2] X.env)).any (·.1) = false := by rfl) :
    PI X (.Tuple elts kk tpos) (.Call (.Name "zip" p) [e, e2] [] pos) (iZipS X.K ta) := by
  refine ⟨fun pins s σ H R I h => ?_⟩
  refine Call_ (ld_blt I hg hm PyProof.Rows.boot_zip (PyProof.Rows.callWith_type1 (thn (ha.run pos pins s σ H _ I h) fun us s1 ⟨vs, H1, I1, r1, q1⟩ => ?_) hs hpl))
  obtain ⟨x, b, ys, ex, hqy, q⟩ := q1
  subst ex
  obtain ⟨u1, u2, rfl, r, r'⟩ := vals2 r1
  obtain ⟨t, rfl⟩ := r
  cases r'
  have fresh5 : ∀ c, c ∈ [s1.heap.objs.size + 4, s1.heap.objs.size + 2, s1.heap.objs.size + 3, s1.heap.objs.size, s1.heap.objs.size + 1] → FpOk X pins H1 c := fun c hcm => by
    have e' : c = s1.heap.objs.size + 4 ∨ c = s1.heap.objs.size + 2 ∨ c = s1.heap.objs.size + 3 ∨ c = s1.heap.objs.size ∨ c = s1.heap.objs.size + 1 := by simpa using hcm
    have hle : s1.heap.objs.size ≤ c := by omega
    exact I1.fpOk hle (I1.hok.fresh hle)
  obtain ⟨its2, rv2, p2, _⟩ := I1.tuple hqy
  obtain ⟨o2, ho2, _⟩ := id p2
  have hblt := Heap.lt_size ho2
  refine zip_begins2 (begins_text x t) (begins_tuple b its2.toArray) trivial (show s1.heap.IsTuple b its2.toArray from p2) fun h' hz hTI hTO h1 h2 hsz hk => wpAny_pyIter_zip hz ?_
  have I2 : Inv X pins σ H1 { s1 with heap := h' } := I1.kept (t' := s1.toks) hk
  have sep := zip_sep2 (N := s1.heap.objs.size) (fp1 := []) (fp2 := [b]) (fun _ q => nomatch q) (fun c q => by
    have e : c = b := by simpa using q
    rw [e]; exact hblt)
  have hty : strIterType x = "str_ascii_iterator" ∨ strIterType x = "str_iterator" := by
    unfold strIterType
    split
    · exact .inl rfl
    · exact .inr rfl
  exact ⟨s1.heap.objs.size + 4, [s1.heap.objs.size + 4, s1.heap.objs.size + 2, s1.heap.objs.size + 3, s1.heap.objs.size, s1.heap.objs.size + 1], _, _, H1, rfl, I2, turn_zipS (x := x) (t := t) hty sep (Nat.ne_of_lt (Nat.lt_succ_of_lt hblt)), ⟨hz, hTI, ⟨_, _, hTO⟩, ⟨_, h1, rfl, rfl⟩, ⟨_, h2, rfl, rfl⟩⟩, fresh5, q⟩
/-- a loop over zip of a text and a tuple of one length -/
theorem for_zipS {K : PySem.W.Frag} {b : Addr} {x : Str} {ys : List V} {g : TG} {tb : TS} {D : Ends} {σ : L2.St} {H : Hp} (hl : x.cps.size = ys.length) (Pv : Nat → L2.St → Hp → Prop) (h0 : Pv 0 σ H) (hq : ∀ i σ H, Pv i σ H → SqT K H b ys)
    (hs : ∀ (i c : Nat) (y : V) (T : Addr) (σ : L2.St) (H : Hp), x.cps[i]? = some c → ys[i]? = some y → Pv i σ H → H T = none → g (.ref T) σ (upd H T (.tup [.str ⟨#[c]⟩, y])) fun σ2 H2 => tb { D with nx := Pv (i + 1), ct := Pv (i + 1), bk := D.nx } σ2 H2) (hd : ∀ σ H, Pv ys.length σ H → D.nx σ H) :
    ∃ W : Nat → Nat → L2.St → Hp → Prop, (∃ m, W 0 m σ H) ∧ ∀ i m σ H, W i m σ H →
      ((ItzS K x b).stop i H ∧ D.nx σ H) ∨ ((ItzS K x b).go i H ∧ ∃ N : L2.St → Hp → Prop, (∀ σ' H', N σ' H' → ∃ m', m' < m ∧ W (i + 1) m' σ' H') ∧ ∀ v H', (ItzS K x b).yld i H v H' → g v σ H' fun σ2 H2 => tb { D with nx := N, ct := N, bk := D.nx } σ2 H2) := by
  refine ⟨fun i m σ H => m = ys.length - i ∧ i ≤ ys.length ∧ Pv i σ H, ⟨ys.length, rfl, Nat.zero_le _, h0⟩, ?_⟩
  rintro i m σ H ⟨rfl, hi, p⟩
  have qy := hq i σ H p
  by_cases hlt : i < ys.length
  · have hy : ys[i]? = some ys[i] := List.getElem?_eq_getElem hlt
    have hx : x.cps[i]? = some (x.cps[i]'(by omega)) := Array.getElem?_eq_getElem _
    refine .inr ⟨⟨ys, _, _, qy, hx, hy, by omega, hi⟩, Pv (i + 1), fun σ' H' p' => ⟨ys.length - (i + 1), by omega, rfl, hlt, p'⟩, fun v H' y => ?_⟩
    obtain ⟨T, c, y', rfl, hT, rfl, f1, f2⟩ := y
    exact hs i c y' T σ H f1 (f2 ys qy) p hT
  · have e : i = ys.length := by omega
    subst e
    exact .inl ⟨⟨ys, qy, by omega, Nat.le_refl _, .inr rfl⟩, hd σ H p⟩
end L2
namespace L2
namespace TS
open PySem PySem.Spec PyProof.Rows
/-! ### the set of the texts of a tuple: how many they are -/
/-- how many different ones are among the first i -/
def dist (xs : List Str) : Nat → Nat
  | 0 => 0
  | i + 1 => if (xs.take i).any (· == xs.getD i Str.empty) = true then dist xs i else dist xs i + 1
theorem dist_succ (xs : List Str) (i : Nat) : (if (xs.take i).any (· == xs.getD i Str.empty) = true then dist xs i else dist xs i + 1) = dist xs (i + 1) := rfl
theorem dist_le (xs : List Str) : ∀ i, dist xs i ≤ i
  | 0 => Nat.le_refl _
  | i + 1 => by
    unfold dist
    have := dist_le xs i
    split <;> omega
theorem take_one {α : Type} : ∀ {l : List α} {i : Nat} {x : α}, l[i]? = some x → l.take (i + 1) = l.take i ++ [x]
  | [], i, x, h => by simp at h
  | a :: l, 0, x, h => by
    have e : a = x := Option.some.inj h
    subst e
    rfl
  | a :: l, i + 1, x, h => by
    have ih := take_one (l := l) (i := i) (x := x) h
    show a :: l.take (i + 1) = a :: l.take i ++ [x]
    rw [ih]
    rfl
section
variable {prog : Program} {w : World} {A : Around} {R : Result → Shared → Prop} {I : Addr} {fp wr : List Addr} {G : Array GenState → Array GenState → Prop} {n : Nat} {P : Nat → Value → Prop} {St : Nat → Shared → Prop}
theorem loop_strs (W : WalksS prog w A.in1 I fp wr G n P St) (S : Addr) (hSf : S ∉ fp) (xs : List Str) (hsz : xs.length = n) (hn1 : n < 1000)
    (hval : ∀ i v, P i v → ∃ t, v = .str (xs.getD i Str.empty) t) :
    ∀ (k i : Nat) (s : Shared), n - i = k → i ≤ n → St i s →
      s.heap.SetOf (PySem.strKind prog w) S (fun k' => (xs.take i).any (· == k')) (dist xs i) →
      (∀ s', Moved (S :: wr) G s s' → s'.heap.SetOf (PySem.strKind prog w) S (fun k' => (xs.take n).any (· == k')) (dist xs n) → R (.ok (.ret .none)) s') →
      codeAny (model prog w) A (.builtin "set.update.loop" ⟨[.ref S, .ref I], []⟩) R s := by
  have hSw : S ∉ wr := fun h => hSf (W.sub _ h)
  have hsub : ∀ b ∈ wr, b ∈ S :: wr := fun b hb => List.mem_cons_of_mem _ hb
  intro k
  induction k with
  | zero =>
    intro i s hk hi hst hS hR
    have hin : i = n := by omega
    subst hin
    refine codeAny_builtin PyProof.Rows.F.entry_set_update_loop ?_
    rw [Around.under_plainId PyProof.Rows.F.plain_set_update_loop _]
    show wpAny _ A.in1 (pyNext (.ref I) >>= _) _ _ s
    refine wpAny_bind (W.done s _ _ hst fun s' hm => ?_)
    show wpAny _ A.in1 (ret Value.none) _ _ s'
    exact wpAny_pure (hR s' (hm.mono hsub) (by
      obtain ⟨o, es, ep, t, ho, rest⟩ := hS
      exact ⟨o, es, ep, t, hm.heap S _ hSw ho, rest⟩))
  | succ k ih =>
    intro i s hk hi hst hS hR
    have hlt : i < n := by omega
    have hdi := dist_le xs i
    refine codeAny_builtin PyProof.Rows.F.entry_set_update_loop ?_
    rw [Around.under_plainId PyProof.Rows.F.plain_set_update_loop _]
    show wpAny _ A.in1 (pyNext (.ref I) >>= _) _ _ s
    refine wpAny_bind (W.item i s _ _ hlt hst fun v s' hP hst' hm => ?_)
    obtain ⟨t, rfl⟩ := hval i v hP
    have hS' : s'.heap.SetOf (PySem.strKind prog w) S (fun k' => (xs.take i).any (· == k')) (dist xs i) := by
      obtain ⟨o, es, ep, tb, ho, rest⟩ := hS
      exact ⟨o, es, ep, tb, hm.heap S _ hSw ho, rest⟩
    show wpAny _ A.in1 (holding [Value.str (xs.getD i Str.empty) t] (setAdd S (.str (xs.getD i Str.empty) t)) >>= _) _ _ s'
    refine wpAny_bind (wpAny_holding ?_)
    unfold setAdd
    refine wpAny_holding ?_
    refine wpAny_bind ((PySem.strKind prog w).pyHash (k := xs.getD i Str.empty) (strKind_is _ _ _ _) ?_)
    refine wpAny_setAddHashed_of (knd := PySem.strKind prog w) (s := { s' with toks := s'.toks + 1 }) (strKind_is _ _ _ _) rfl hS' (by unfold scanBound; omega) fun h' hsb hS2 => ?_
    have hSi : h'.SetOf (PySem.strKind prog w) S (fun k' => (xs.take (i + 1)).any (· == k')) (dist xs (i + 1)) := by
      have hix : xs[i]? = some (xs.getD i Str.empty) := by
        rw [List.getD_eq_getElem?_getD, List.getElem?_eq_getElem (by omega)]
        rfl
      refine PyProof.Rows.SetOf_congr hS2 (fun k' => ?_) (dist_succ xs i)
      rw [take_one hix, List.any_append]
      congr 1
      by_cases e : k' = xs.getD i Str.empty
      · rw [e]; simp
      · have hb : (xs.getD i Str.empty == k') = false := by simpa [beq_iff_eq] using (fun h' : xs.getD i Str.empty = k' => e h'.symm)
        simp only [List.any_cons, List.any_nil, hb, Bool.or_false]
        exact decide_eq_false e
    refine wpAny_pure ⟨plainId_quiet PyProof.Rows.F.plain_set_update_loop _, ih (i + 1) _ (by omega) hlt (W.frame _ s' _ _ hst' (Nat.le_succ _) fun b hb o e => ?_) hSi fun s'' hm'' hS'' => ?_⟩
    · rw [hsb.2 b (fun h : b = S => hSf (by rw [← h]; exact hb))]; exact e
    · refine hR s'' (Moved.trans W.gtrans ((hm.mono hsub).then_heap (Nat.le_succ _) fun b o hb e => ?_) hm'') hS''
      rw [hsb.2 b (fun h : b = S => hb (by rw [h]; exact List.mem_cons_self))]; exact e
end
section
variable {prog : Program} {w : World} {A : Around} {E : Value → Shared → Prop} {s : Shared}
theorem call_set_strs {l : Addr} {items : Array Value} {xs : List Str} {Q : Value → Shared → Prop}
    (hh : A.handled = none) (hl : s.heap.IsTuple l items) (hi : PyProof.Rows.StrsAre items.toList xs) (hn1 : xs.length < 1000)
    (h : ∀ (h' : Heap) (tk : Nat), h'.SetOf (PySem.strKind prog w) s.heap.objs.size (fun k' => (xs.take items.size).any (· == k')) (dist xs items.size) →
      (∀ b o, b < s.heap.objs.size → s.heap.get? b = some o → h'.get? b = some o) → Q (.ref s.heap.objs.size) { s with heap := h', toks := tk }) :
    wpAny (model prog w) A (call (.type "set") [.ref l]) Q E s := by
  obtain ⟨c, tl, hmro⟩ := PySem.F.called_set.mro
  have hmade := PySem.F.called_set.made
  have hsub := PySem.F.called_set.sub
  refine wpAny_call (codeAny_of_tree ?_)
  show wpAny _ _ (callAny (.type "set") _) _ _ _
  refine wpAny_pure ⟨Code.quiet_builtin _ (by decide +kernel), codeAny_builtin PySem.F.entry_type_call ?_⟩
  rw [Around.under_plain (weight_type_call_type "set" [.ref l] []) rfl]
  have h1 := PySem.F.called_set.notType
  have h2 := PySem.F.called_set.canCreate
  have hct := PySem.F.typeCall_set_1 (.ref l)
  repeat (any_goals (first | assumption | wp_step))

  refine codeAny_mono (code_set_new_1 (.ref l) (E := E) (Q₁ := fun obj s₁ => ∃ led : Bool, obj = .ref s.heap.objs.size ∧ s₁ = { s with heap := s.heap.push { cls := .type "set", dict := none, data := .set #[] 0 (.fresh 0 0 led) } }) fun led => ⟨led, rfl, rfl⟩) fun r s₁ hr => ?_
  cases r with
  | error e => exact hr
  | ok fl =>
    cases fl with
    | ret obj =>
      obtain ⟨led, rfl, rfl⟩ := hr
      have hS : (s.heap.push { cls := .type "set", dict := none, data := .set #[] 0 (.fresh 0 0 led) }).get? s.heap.objs.size = some { cls := .type "set", dict := none, data := .set #[] 0 (.fresh 0 0 led) } := Heap.get?_push_size _ rfl
      have hT : Shared.TypeIs { s with heap := s.heap.push { cls := .type "set", dict := none, data := .set #[] 0 (.fresh 0 0 led) } } (.ref s.heap.objs.size) "set" := ⟨_, hS, rfl⟩
      have hli := PySem.F.called_set.init.lookup
      have hbi := PySem.F.called_set.init.bind (.ref s.heap.objs.size)
      repeat (any_goals (first | assumption | wp_step))

      refine codeAny_mono (codeAny_call_builtin (R := wants (fun r s₂ => r = .none ∧ ∃ h' tk, s₂ = { s with heap := h', toks := tk } ∧
          h'.SetOf (PySem.strKind prog w) s.heap.objs.size (fun k' => (xs.take items.size).any (· == k')) (dist xs items.size) ∧
          (∀ b o, b < s.heap.objs.size → s.heap.get? b = some o → h'.get? b = some o)) E) PySem.F.called_set.init.plain PySem.F.entry_set_init (check_set_init_1 hT ?_)) fun r₂ s₂ hr₂ => ?_
      · obtain ⟨ol, hol, hcl, nl, hdl⟩ := hl
        obtain ⟨ocls, odict, odata, oslots⟩ := ol
        simp only at hcl hdl
        subst hcl; subst hdl
        have hol' : (s.heap.push { cls := .type "set", dict := none, data := .set #[] 0 (.fresh 0 0 led) }).get? l = some { cls := .type "tuple", dict := odict, data := .seq items nl, slots := oslots } := Heap.get?_push_of_some _ hol
        have hsls := PySem.F.sub_tuple_set
        have hslf := PySem.F.sub_tuple_frozenset
        have hne : (Value.type "tuple" == Value.type "dict") = false := by decide
        have hl1 : (s.heap.push { cls := .type "set", dict := none, data := .set #[] 0 (.fresh 0 0 led) }).IsTuple l items := ⟨_, hol', rfl, nl, rfl⟩
        unfold Builtin.«set.__init__» noKeywords Builtin.Frozenset.updateFrom
        generalize hPI : pyIter = PI
        wp_walk
        subst hPI

        refine wpAny_pyIter_tuple hl1 ?_
        refine wpAny_bind (wpAny_runValue ?_)
        have hlS : l < s.heap.objs.size := Heap.lt_size hol
        have hh3 : A.in1.in1.in1.handled = none := by simp [hh]
        have hneI : l ≠ (s.heap.push { cls := .type "set", dict := none, data := .set #[] 0 (.fresh 0 0 led) }).objs.size := by
          rw [Heap.size_push]; exact Nat.ne_of_lt (Nat.lt_succ_of_lt hlS)
        have hSf : s.heap.objs.size ∉ [(s.heap.push { cls := .type "set", dict := none, data := .set #[] 0 (.fresh 0 0 led) }).objs.size, l] := by
          rw [Heap.size_push]; simp only [List.mem_cons, List.mem_singleton, List.not_mem_nil, or_false, not_or]
          exact ⟨Nat.ne_of_lt (Nat.lt_succ_self _), Nat.ne_of_gt hlS⟩
        have hsz : xs.length = items.size := by rw [← StrsAre.len_eq hi, Array.length_toList]
        have hval : ∀ (i : Nat) (v : Value), items[i]? = some v → ∃ t, v = .str (xs.getD i Str.empty) t := fun i v hv => SS.strs_at hi i v (by rw [Array.getElem?_toList]; exact hv)
        refine loop_strs ((Walks.tuple hh3 _ l hneI items).toS) s.heap.objs.size
          hSf xs hsz (by rw [← hsz]; exact hn1) hval (items.size - 0) 0 _ (by omega) (Nat.zero_le _)
          ⟨⟨_, Heap.get?_push_size _ rfl, rfl, rfl⟩, (hl1.push _)⟩ ?hS0 ?hR
        case hS0 =>
          have hget : ((s.heap.push { cls := .type "set", dict := none, data := .set #[] 0 (.fresh 0 0 led) }).push { cls := .type "tuple_iterator", data := .fields #[.ref l, .int 0 0] }).get? s.heap.objs.size
              = some { cls := .type "set", dict := none, data := .set #[] 0 (.fresh 0 0 led) } := Heap.get?_push_of_some _ hS
          exact PyProof.Rows.SetOf_congr ((PyProof.Rows.setObjOf_fresh (knd := PySem.strKind prog w) led).setOf hget (by unfold scanBound; omega)) (fun _ => rfl) rfl
        case hR =>
          intro s' hm hS'
          obtain ⟨h', g', d', tk', os'⟩ := s'
          have eg : g' = s.gens := hm.gens
          have ed : d' = s.drawn := hm.drawn
          have eo : os' = s.os := hm.os
          subst eg; subst ed; subst eo
          show wpAny _ _ _ _ _ _
          refine wpAny_pure ?_
          show wpAny _ _ (ret Value.none) _ _ _
          refine wpAny_pure ⟨rfl, h', tk', rfl, hS', fun b o hb e => ?_⟩
          have hb1 : b ≠ s.heap.objs.size := Nat.ne_of_lt hb
          have hb2 : b ≠ (s.heap.push { cls := .type "set", dict := none, data := .set #[] 0 (.fresh 0 0 led) }).objs.size := by
            rw [Heap.size_push]; exact Nat.ne_of_lt (Nat.lt_succ_of_lt hb)
          exact hm.heap b o (by simp only [List.mem_cons, List.mem_singleton, List.not_mem_nil, or_false, not_or]; exact ⟨hb1, hb2⟩) (Heap.get?_push_of_some _ (Heap.get?_push_of_some _ e))

      · cases r₂ with
        | error e => exact hr₂
        | ok fl₂ =>
          cases fl₂ with
          | ret r =>
            obtain ⟨rfl, h', tk, rfl, hS', hk'⟩ := hr₂
            repeat (any_goals (first | assumption | wp_step))
            exact h _ _ hS' hk'
          | _ => exact hr₂.elim
    | _ => exact hr.elim

end
/-- all are different exactly if none is left out -/
theorem dist_full (xs : List Str) : ∀ i, i ≤ xs.length → (dist xs i = i ↔ (xs.take i).Nodup)
  | 0, _ => by simp [dist]
  | i + 1, h => by
    have ih := dist_full xs i (by omega)
    have le := dist_le xs i
    have hix : xs[i]? = some (xs.getD i Str.empty) := by
      rw [List.getD_eq_getElem?_getD, List.getElem?_eq_getElem (by omega)]
      rfl
    rw [take_one hix, List.nodup_append]
    unfold dist
    by_cases e : (xs.take i).any (· == xs.getD i Str.empty) = true
    · rw [if_pos e]
      constructor
      · intro q; omega
      · rintro ⟨_, _, q⟩
        obtain ⟨y, hy, ey⟩ := List.any_eq_true.mp e
        exact absurd (beq_iff_eq.mp ey) (q y hy _ (by simp))
    · rw [if_neg e]
      constructor
      · intro q
        refine ⟨ih.mp (by omega), by simp, fun y hy z hz => ?_⟩
        have hz' : z = xs.getD i Str.empty := by simpa using hz
        rw [hz']
        intro ey
        exact e (List.any_eq_true.mpr ⟨y, hy, by simp [ey]⟩)
      · rintro ⟨q, _, _⟩
        rw [ih.mpr q]
end TS
open PySem in
/-- len(set(t)), t a tuple of texts -/
def tLenSetS (K : PySem.W.Frag) (ta : TE) : TE := fun σ H Q => ta σ H fun x H1 => ∃ (l : Addr) (xs : List Str), x = .ref l ∧ SqT K H1 l (xs.map V.str) ∧ xs.length < 1000 ∧ Q (.int (TS.dist xs xs.length : Nat)) H1
open PySem PySem.Spec PyProof.Rows in
theorem pe_lenSetS {X : Cx} {a : Expr} {ta : TE} {p p2 q pos : Pos} (hg : Gl X "len") (hm : X.mg "len" = none) (hg2 : Gl X "set") (hm2 : X.mg "set" = none) (ha : PE X a ta) (hc : X.calm = true := by rfl)
    (na : starEach [a] X.env = (false, eval a X.env) :: starEach [] X.env := by rfl) : PE X (.Call (.Name "len" p) [.Call (.Name "set" p2) [a] [] q] [] pos) (tLenSetS X.K ta) := by
  refine ⟨fun pins s σ H Q I h => ?_⟩
  refine Call_ (ld_blt I hg hm PySem.boot_len ?_)
  refine PyProof.Rows.callWith_builtin1 (PyProof.Rows.args_cons ?_ rfl) rfl rfl
  refine Call_ (ld_blt I hg2 hm2 PyProof.Rows.boot_set ?_)
  refine PyProof.Rows.callWith_type1 (PyProof.Rows.args_cons (thn (ha.run pins s σ H _ I h) fun v s1 ⟨x, H1, I1, r1, q1⟩ => PyProof.Rows.args_nil ?_) na) na rfl
  obtain ⟨l, xs, rfl, hq, h1, q1⟩ := q1
  cases r1
  obtain ⟨its, r, pl, hz⟩ := I1.tuple hq
  have hl : its.toArray.size = xs.length := by rw [List.size_toArray, ← r.length, List.length_map]
  refine TS.call_set_strs (I1.ok.hd hc) pl (by simpa using strsAre_of r) h1 fun h' tk hS hk => ?_
  refine PyProof.Rows.args_nil ?_
  rw [hl] at hS
  obtain ⟨o, es, ep, t, ho, hex, hd, _, _, _, hf, hn⟩ := hS
  have I2 : Inv X pins σ H1 { s1 with heap := h', toks := tk } := I1.kept fun b o e => hk b o (Heap.lt_size e) e
  have hdl := TS.dist_le xs xs.length
  exact call_len_set ho hex hd hf (by rw [hn] <;> omega) ⟨.int (TS.dist xs xs.length : Nat), H1, I2.tok _, ⟨_, by rw [hn]⟩, q1⟩
end L2
namespace L2
open PySem PySem.Spec PyProof.Rows
/-! ### a table of the written part, its keys texts -/
/-- the entries, key by key -/
def Ents (P : Params) : List DictEntry → List (Str × V) → Prop
  | [], [] => True
  | e :: r, (k, v) :: t => (∃ tk, e.key = .str k tk ∧ e.hash = PyData.keyHash P k) ∧ RelV v e.val ∧ Ents P r t
  | _, _ => False
/-- at a: the table tab -/
def WTab (K : PySem.W.Frag) (w : World) (a : Addr) (tab : List (Str × V)) : Prop :=
  ∃ es n, K.lookup a = some ⟨.type "dict", none, .dict es n, #[]⟩ ∧ Ents w.params es.toList tab ∧ (a == sysModules) = false
theorem Ents.lit {P : Params} : ∀ {es : List DictEntry} {tab : List (Str × V)}, Ents P es tab → PySem.W.KeysLit P es
  | [], [], _ => trivial
  | e :: r, (k, v) :: t, ⟨⟨tk, h1, h2⟩, _, h3⟩ => ⟨⟨k, tk, h1, h2⟩, h3.lit⟩
theorem Ents.noRef {P : Params} : ∀ {es : List DictEntry} {tab : List (Str × V)}, Ents P es tab → es.any (·.refKey) = false
  | [], [], _ => rfl
  | e :: r, (k, v) :: t, ⟨⟨tk, h1, _⟩, _, h3⟩ => by
    rw [List.any_cons, h3.noRef, Bool.or_false]
    unfold DictEntry.refKey
    rw [h1]
theorem Ents.find {P : Params} (z : Str) : ∀ {es : List DictEntry} {tab : List (Str × V)}, Ents P es tab → RelO (tab.lookup z) ((es.find? (·.key.isStr z)).map (·.val))
  | [], [], _ => trivial
  | e :: r, (k, v) :: t, ⟨⟨tk, h1, _⟩, h2, h3⟩ => by
    rw [List.find?_cons]
    by_cases q : z = k
    · have e1 : e.key.isStr z = true := by rw [h1, q]; exact (by show (k == k) = true; simp)
      have e2 : ((k, v) :: t).lookup z = some v := by rw [q]; simp [List.lookup]
      rw [e1, e2]
      exact h2
    · have e1 : e.key.isStr z = false := by
        rw [h1]
        show (k == z) = false
        simpa using fun h : k = z => q h.symm
      have e2 : ((k, v) :: t).lookup z = t.lookup z := by
        have : (z == k) = false := by simpa using q
        simp [List.lookup, this]
      rw [e1, e2]
      exact h3.find z
theorem WTab.ns {K : PySem.W.Frag} {w : World} {a : Addr} {tab : List (Str × V)} (T : WTab K w a tab) (z : Str) : ∃ r, PySem.W.nsIn K a z = some r ∧ RelO (tab.lookup z) r := by
  obtain ⟨es, n, hl, he, _⟩ := T
  have f := he.find z
  unfold PySem.W.nsIn
  rw [hl]
  show ∃ r, (match es.toList.find? (·.key.isStr z) with | some e => some (some e.val) | none => if es.toList.any (·.refKey) then none else some none) = some r ∧ _
  cases q : es.toList.find? (·.key.isStr z) with
  | some e =>
    rw [q] at f
    exact ⟨_, rfl, f⟩
  | none =>
    rw [q] at f
    exact ⟨none, by rw [he.noRef]; rfl, f⟩
/-- t[k], the key is there -/
def rIxW (K : PySem.W.Frag) (w : World) : R2 := fun x y H Q => ∃ p z tab v, x = .ref p ∧ y = .str z ∧ WTab K w p tab ∧ tab.lookup z = some v ∧ Q v H
def rNotInW (K : PySem.W.Frag) (w : World) : R2 := fun x y H Q => ∃ p z tab, x = .str z ∧ y = .ref p ∧ WTab K w p tab ∧ Q (.bl (!(tab.lookup z).isSome)) H
def rInW (K : PySem.W.Frag) (w : World) : R2 := fun x y H Q => ∃ p z tab, x = .str z ∧ y = .ref p ∧ WTab K w p tab ∧ Q (.bl (tab.lookup z).isSome) H
theorem RelO.isSome {a : Option V} {b : Option Value} (h : RelO a b) : b.isSome = a.isSome := by
  cases a <;> cases b <;> first | rfl | exact h.elim
section
variable {X : Cx}
theorem ix_wtab : IxR X (rIxW X.K X.w) := by
  intro value slice pins s σ H x y v u Q I rx ry h hs
  obtain ⟨p, z, tab, r, rfl, rfl, T, hlk, q⟩ := h
  obtain ⟨o, e, rel⟩ := T.ns z
  obtain ⟨es, n, hl, he, _⟩ := T
  rw [hlk] at rel
  cases o with
  | none => exact rel.elim
  | some u0 => exact ix_kdict value slice pins s σ H _ _ v u Q I rx ry ⟨p, z, r, rfl, rfl, ⟨es, n, u0, hl, he.lit, e, rel⟩, q⟩ hs
theorem op_notIn_wtab : OpR X (compareOp .NotIn) (rNotInW X.K X.w) := by
  intro pins s σ H x y v u Q I rx ry h
  obtain ⟨p, z, tab, rfl, rfl, T, q⟩ := h
  obtain ⟨o, e, rel⟩ := T.ns z
  obtain ⟨es, n, hl, he, lo⟩ := T
  obtain ⟨t, rfl⟩ := rx
  obtain rfl : u = Value.ref p := ry
  have hm := PySem.W.mapOf_K (prog := X.prog) (w := X.w) I.kIn hl he.lit
  refine wpAny_notIn_of (strKind_is X.prog X.w z t) lo hm ?_
  rw [PySem.W.find_K hl e, rel.isSome]
  exact ⟨.bl _, H, I.tok _, rfl, q⟩
theorem op_in_wtab : OpR X (compareOp .In) (rInW X.K X.w) := by
  intro pins s σ H x y v u Q I rx ry h
  obtain ⟨p, z, tab, rfl, rfl, T, q⟩ := h
  obtain ⟨o, e, rel⟩ := T.ns z
  obtain ⟨es, n, hl, he, lo⟩ := T
  obtain ⟨t, rfl⟩ := rx
  obtain rfl : u = Value.ref p := ry
  have hm := PySem.W.mapOf_K (prog := X.prog) (w := X.w) I.kIn hl he.lit
  refine wpAny_in_of (strKind_is X.prog X.w z t) lo hm ?_
  rw [PySem.W.find_K hl e, rel.isSome]
  exact ⟨.bl _, H, I.tok _, rfl, q⟩
end
/-! ### a method by its name, with its promise -/
def Mcal (P : Program) (w : World) (K : PySem.W.Frag) (mg : Str → Option Value) (base : Heap) (CX : CXT) (k : Nat) (C : Addr) (m : Str) (ps : List Str) (sp : Sp) : Prop :=
  ∃ (f : Addr) (fd : FuncData), Meth K C m f ∧ Binds K fd ps [] ∧ FnOk P w K mg base CX k f fd ps sp
theorem pe_mcal {X : Cx} {CX : CXT} {k : Nat} {C : Addr} {m : Str} {ps : List Str} {sp : Sp} {E : XK} {apos pos : Pos} {o e : Expr} {es : List Expr} {ta : TE} {t : TA} (ho : PE X o ta) (c : Cls X.K C) (M : Mcal X.prog X.w X.K X.mg X.base CX k C m ps sp) (hr : Room k X.A) (hx : Passes CX X E) (ha : PA X (e :: es) t)
    {pl : Sem Bool} (hc : eval (.Call (.Attribute o m apos) (e :: es) [] pos) X.env = (do
      let ov ← eval o X.env
      standAt apos.atName
      let (f, first) ← holding [ov] (getMethod ov m pl)
      callWith pos f first (backTo pos (starEach (e :: es) X.env)) (backToKw pos (keywordEach [] X.env))) := by rfl)
    (he : starEach (e :: es) X.env = (false, eval e X.env) :: starEach es X.env := by rfl) (hpl : (backTo pos (starEach es X.env)).any (·.1) = false := by rfl) :
    PE X (.Call (.Attribute o m apos) (e :: es) [] pos) (tMeth C m sp [] E ta t) := by
  obtain ⟨f, fd, h1, h2, h3⟩ := M
  exact pe_meth ho c h1 h3 hr h2 .nil hx ha he hpl hc
theorem pe_mcal0 {X : Cx} {CX : CXT} {k : Nat} {C : Addr} {m : Str} {ps : List Str} {sp : Sp} {E : XK} {apos pos : Pos} {o : Expr} {ta : TE} (ho : PE X o ta) (c : Cls X.K C) (M : Mcal X.prog X.w X.K X.mg X.base CX k C m ps sp) (hr : Room k X.A) (hx : Passes CX X E)
    {pl : Sem Bool} (hc : eval (.Call (.Attribute o m apos) [] [] pos) X.env = (do
      let ov ← eval o X.env
      standAt apos.atName
      let (f, first) ← holding [ov] (getMethod ov m pl)
      callWith pos f first (backTo pos (starEach [] X.env)) (backToKw pos (keywordEach [] X.env))) := by rfl) :
    PE X (.Call (.Attribute o m apos) [] [] pos) (tMeth C m sp [] E ta tNil) := by
  obtain ⟨f, fd, h1, h2, h3⟩ := M
  exact pe_meth0 ho c h1 h3 hr h2 .nil hx hc
end L2
namespace L2
open PySem PySem.Spec PyProof.Rows
/-! ### d.keys() as a value, and sorted of it -/
/-- the view d.keys() at p -/
def keysO (p d : Addr) : HO := .ext fun h => PySem.W.KdlKeysView h p d
theorem keysO_ok {P : Program} {w : World} {H : Hp} {h : Heap} {p d : Addr} (e : h.get? p = some { cls := .type "dict_keys", data := .fields #[.ref d] }) : ObjOk P w H h p (keysO p d) :=
  ⟨⟨_, e, rfl, rfl⟩, ⟨_, e⟩, fun h1 h2 x k => let ⟨o, ho, r⟩ := x; ⟨o, k o ho, r⟩⟩
section
variable {X : Cx}
def rKeysV : V → List V → Hp → VK → Prop := fun x xs H Q => ∃ (a : Addr) (kvs : List (Key × V)), x = .ref a ∧ xs = [] ∧ Rd H a (.dK kvs) ∧ ∀ p, H p = none → Q (.ref p) (upd H p (keysO p a))
theorem mt_keysV : MtR X "dict.keys" rKeysV := by
  intro pins s σ H x xs v us Q I rx rxs h
  obtain ⟨a, kvs, rfl, rfl, ha, q⟩ := h
  cases rx
  cases rxs
  obtain ⟨z, lo, vs, rel, dd⟩ := dk_rd I.hok ha
  have hf : H s.heap.objs.size = none := I.hok.fresh (Nat.le_refl _)
  refine call_meetsIn PySem.F.slot_dict_keys dd.typeIs PySem.F.entry_dict_keys (PySem.F.args_dict_keys_1 _) (PySem.W.kdl_meets_keys (mixKind X.prog X.w) a lo) ⟨⟨vs, dd⟩, ?_⟩
  exact ⟨.ref s.heap.objs.size, upd H s.heap.objs.size (keysO s.heap.objs.size a), I.laid (t' := s.toks) (fun b u e => Heap.get?_push_of_some _ e) (Nat.le_refl _) (keysO_ok (Heap.get?_push_size _ rfl)), rfl, q _ hf⟩
/-- sorted(d.keys()), fewer than 64 keys, all texts -/
def rSortKV : List V → Hp → VK → Prop := fun xs H Q => ∃ (p a : Addr) (kvs : List (Key × V)) (ks : List Str), xs = [.ref p] ∧ H p = some (keysO p a) ∧ Rd H a (.dK kvs) ∧ kvs.map (·.1) = ks.map Sum.inr ∧ ks.length < 64 ∧
    ∀ ys q, ys.Perm ks → sortedS ys = true → H q = none → Q (.ref q) (upd H q (.lst (ys.map V.str)))
theorem call_sortedKV (hcalm : X.calm = true) : CallR X (.builtin "sorted") rSortKV := by
  intro pins s σ H xs us Q I r q
  obtain ⟨p, a, kvs, ks, rfl, hp, hd, hks, h64, q⟩ := q
  obtain ⟨u, rfl, rx⟩ := vals1 r
  cases rx
  have hview : PySem.W.KdlKeysView s.heap p a := (I.hok p _ hp).1
  obtain ⟨z, lo, vs, rel, dd⟩ := dk_rd I.hok hd
  obtain ⟨ep, hat⟩ := dd.dictAt
  have hkeys : vs.map (·.1) = ks.map Sum.inr := rel.keys.symm.trans hks
  have hl : vs.length = ks.length := by simpa using congrArg List.length hkeys
  refine Calls.call_function_entry PyProof.Rows.kind_sorted PyProof.Rows.plain_sorted PyProof.Rows.entry_sorted (PyProof.Rows.args_sorted1 _) ?_
  unfold Builtin.«sorted»
  refine wpAny_bind (m := checkCount "sorted" 1 1 _) (wpAny_pure ?_)
  refine wpAny_bind (PySem.W.kdu_collect (A := X.A.in1) (PySem.W.kdl_keys (knd := mixKind X.prog X.w) (r := p) (d := a) (kvs := vs) (ep := ep)) (I.ok.hd hcalm) ⟨hview, hat⟩ (by rw [hl, sizeLine_eq]; omega) fun h' tk acc hk hacc => ?_)
  have hal : acc.toList.length = ks.length := by rw [Array.length_toList, hacc.1, hl]
  have hS : StrsAre acc.toList ks := strs_at hal fun j v e => by
    obtain ⟨k, x, e1, e2⟩ := hacc.2 j v (by rw [← Array.getElem?_toList]; exact e)
    have e3 : (vs.map (·.1))[j]? = some k := by rw [List.getElem?_map, e1]; rfl
    rw [hkeys, List.getElem?_map] at e3
    cases e4 : ks[j]? with
    | none => rw [e4] at e3; cases e3
    | some y =>
      rw [e4] at e3
      obtain rfl : Sum.inr y = k := Option.some.inj e3
      obtain ⟨t, ev⟩ := Value.isStrOf_shape (x := y) (v := v) e2
      exact ⟨y, t, rfl, ev⟩
  have I1 : Inv X pins σ H { s with heap := h', toks := tk } := I.kept hk
  refine wpAny_bind (wpAny_newList ?_ (by rw [hal, sizeLine_eq]; omega))
  have hoL : (h'.push (seqObj "list" acc.toList.toArray 0)).get? h'.objs.size = some (seqObj "list" acc.toList.toArray 0) := Heap.get?_push_size _ rfl
  show wpAny _ _ _ _ _ { s with heap := h'.push (seqObj "list" acc.toList.toArray 0), toks := tk }
  refine wpAny_bind (wpAny_holding (wpAny_call_entry PyProof.Rows.slot_list_sort ⟨_, hoL, rfl⟩ PyProof.Rows.entry_list_sort
    (list_sort_treeK strKind_oneLt (s := { s with heap := h'.push (seqObj "list" acc.toList.toArray 0), toks := tk }) hoL hS.keysOf (fun v₁ v₂ rest e => keyKind_strs (by rw [← e]; exact hS)) (by rw [hal]; exact h64) fun st' hp' hs => ⟨_, rfl, ?_⟩)
    (PyProof.Rows.args_list_sort _)))
  obtain ⟨ys, g1, g2, g3⟩ := sorted_out_str hS hp' hs
  obtain ⟨e', he'⟩ := PyProof.Rows.sortedHeap_at (vs := acc.toList) (out := (arrOf st').map (·.2)) hoL
  have hlen : (ys.map V.str).length ≤ sizeLine := by
    rw [List.length_map, g2.length_eq, sizeLine_eq]
    omega
  refine wpAny_pure ⟨_, rfl, .ref h'.objs.size, upd H h'.objs.size (.lst (ys.map V.str)), I1.laid (t' := tk) (fun b u e => ?_) (Nat.le_refl _)
    (show ObjOk X.prog X.w _ _ _ (.lst (ys.map V.str)) from ⟨hlen, ((arrOf st').map (·.2)).toList, e', vals_of_strs g1, by rw [Array.toArray_toList]; exact he'⟩), rfl, q ys _ g2 g3 (I1.hok.fresh (Nat.le_refl _))⟩
  have hb : b < h'.objs.size := Heap.lt_size e
  rw [PyProof.Rows.sortedHeap_old (Nat.ne_of_lt hb) (by rw [size_push']; exact Nat.lt_succ_of_lt hb)]
  exact Heap.get?_push_of_some _ e
end
/-- a dict comprehension over what is walked -/
theorem dc_it {J : It} {n : Nat} {G : Hp → Prop} {Y : Nat → Hp → V → Hp → Prop} (w : Walk J n G Y) {g : TG} {tt : TT} {tk tv : TE} {vs : List Nat} {σ : L2.St} {H1 : Hp} {D : Addr} {Qd : Hp → Prop} (Pv : Nat → Hp → Prop) (h0 : Pv 0 (upd H1 D (.dK []))) (hG : ∀ i H, i ≤ n → Pv i H → G H)
    (hs : ∀ i x H H', i < n → Pv i H → Y i H x H' → g x (wipe σ vs) H' fun σ2 H2 => wipe σ2 vs = wipe σ vs ∧ tt σ2 H2 fun b H3 =>
      if b = true then tk σ2 H3 fun y H4 => tv σ2 H4 fun z H5 => ∃ kvs k, y = kV k ∧ H5 D = some (.dK kvs) ∧ kvs.length < sizeLine ∧ Pv (i + 1) (upd H5 D (.dK (putK kvs k z))) else Pv (i + 1) H3) (hd : ∀ H, Pv n H → Qd H) :
    ∃ W : Nat → Nat → Hp → Prop, (∃ m, W 0 m (upd H1 D (.dK []))) ∧ ∀ i m H, W i m H →
      (J.stop i H ∧ Qd H) ∨ (J.go i H ∧ ∃ Nx : Hp → Prop, (∀ H', Nx H' → ∃ m', m' < m ∧ W (i + 1) m' H') ∧ ∀ x H', J.yld i H x H' → g x (wipe σ vs) H' fun σ2 H2 => wipe σ2 vs = wipe σ vs ∧ tt σ2 H2 fun b H3 =>
        if b = true then tk σ2 H3 fun y H4 => tv σ2 H4 fun z H5 => ∃ kvs k, y = kV k ∧ H5 D = some (.dK kvs) ∧ kvs.length < sizeLine ∧ Nx (upd H5 D (.dK (putK kvs k z))) else Nx H3) := by
  refine ⟨fun i m H => m = n - i ∧ i ≤ n ∧ Pv i H, ⟨n, by simp, Nat.zero_le _, h0⟩, ?_⟩
  rintro i m H ⟨rfl, hi, p⟩
  have q := hG i H hi p
  by_cases hlt : i < n
  · exact .inr ⟨w.goes i H hlt q, Pv (i + 1), fun H' p' => ⟨n - (i + 1), by omega, rfl, hlt, p'⟩, fun x H' y => hs i x H H' hlt p (w.yields i H x H' hlt q y)⟩
  · have e : i = n := by omega
    subst e
    exact .inl ⟨w.stops H q, hd H p⟩
end L2
namespace Op
open PySem L2
abbrev PP : Program := PySem.Challenge.pw_openruns_k54_edited_refusals
def top (i : Nat) : Stmt := PySem.Challenge.pw_openruns_k54_edited_refusals.main.body.getD i (.Pass ⟨0, 0, 0, 0⟩)
abbrev s__wall : Stmt := top 0
abbrev s_InvalidProgram___init__ : Stmt := inClass (top 4) 0
abbrev s_is_integer : Stmt := top 14
abbrev s_is_word : Stmt := top 15
abbrev s_are_words : Stmt := top 16
abbrev s_inner_lists : Stmt := top 17
abbrev s_with_lists : Stmt := top 18
abbrev s_copy_row : Stmt := top 19
abbrev s_copy_rows : Stmt := top 20
abbrev s_checked_asks : Stmt := top 21
abbrev s_is_box : Stmt := top 22
abbrev s_checked_signals : Stmt := top 23
abbrev s_checked_inputs : Stmt := top 24
abbrev s_RowCheck___init__ : Stmt := inClass (top 25) 0
abbrev s_RowCheck_check : Stmt := inClass (top 25) 1
abbrev s_RowCheck_check_sizes : Stmt := inClass (top 25) 2
abbrev s_RowCheck_check_list : Stmt := inClass (top 25) 3
abbrev s_RowCheck_fits : Stmt := inClass (top 25) 4
abbrev s_RowCheck_id_fits : Stmt := inClass (top 25) 5
abbrev s_RowCheck_part_fits : Stmt := inClass (top 25) 6
abbrev s_RowCheck_collect : Stmt := inClass (top 25) 7
abbrev s_is_branches : Stmt := top 26
abbrev s_Program___init__ : Stmt := inClass (top 28) 0
abbrev s_Program_add_rows : Stmt := inClass (top 28) 1
abbrev s_Program___len__ : Stmt := inClass (top 28) 2
abbrev s_Program___eq__ : Stmt := inClass (top 28) 3
abbrev s_Program_rows : Stmt := inClass (top 28) 4
abbrev s_Program_asks : Stmt := inClass (top 28) 5
abbrev s_Program_signals : Stmt := inClass (top 28) 6
abbrev s_Program_inputs : Stmt := inClass (top 28) 7
abbrev s_Program_names : Stmt := inClass (top 28) 8
abbrev s_Program_paths : Stmt := inClass (top 28) 9
abbrev s_Program_row_at : Stmt := inClass (top 28) 10
abbrev s_Program_with_rows : Stmt := inClass (top 28) 11
abbrev s_Edited___init__ : Stmt := inClass (top 30) 0
abbrev s_Edited_ids : Stmt := inClass (top 30) 1
abbrev s_Edited_made : Stmt := inClass (top 30) 2
abbrev s_Edited_plain : Stmt := inClass (top 30) 3
abbrev s_Edited_cut : Stmt := inClass (top 30) 4
abbrev s__law_pool : Stmt := top 32
abbrev s__law_draw : Stmt := top 33
abbrev s__law_item : Stmt := top 34
abbrev s__law_names : Stmt := top 35
abbrev s__law_parts : Stmt := top 36
abbrev s__law_fault : Stmt := top 37
abbrev s__law_filler : Stmt := top 38
abbrev s__law_edit : Stmt := top 39
abbrev s__law_bad_rows : Stmt := top 40
abbrev s__law_wrapped : Stmt := top 41
abbrev s__law_many : Stmt := top 42
abbrev s__law_parts_bad : Stmt := top 43
abbrev s_law : Stmt := top 44
end Op
namespace L2
open PySem PySem.Spec PyProof.Rows
/-! ### a def by its name, with its promise -/
def Cal (P : Program) (w : World) (K : PySem.W.Frag) (mg : Str → Option Value) (base : Heap) (CX : CXT) (k : Nat) (x : Str) (ps : List Str) (sp : Sp) : Prop :=
  ∃ (f : Addr) (fd : FuncData), mg x = some (.ref f) ∧ PySem.W.keepIn K (.ref f) = true ∧ Binds K fd ps [] ∧ FnOk P w K mg base CX k f fd ps sp
theorem pe_cal {X : Cx} {CX : CXT} {k : Nat} {x : Str} {ps : List Str} {sp : Sp} {E : XK} {p pos : Pos} {e : Expr} {es : List Expr} {t : TA} (c : Cal X.prog X.w X.K X.mg X.base CX k x ps sp) (hr : Room k X.A) (hg : Gl X x) (hx : Passes CX X E) (ha : PA X (e :: es) t)
    (hdb : (x == ("__debug__" : Str)) = false := by decide) (he : starEach (e :: es) X.env = (false, eval e X.env) :: starEach es X.env := by rfl) (hpl : (backTo pos (starEach es X.env)).any (·.1) = false := by rfl) :
    PE X (.Call (.Name x p) (e :: es) [] pos) (tCall sp [] E t) := by
  obtain ⟨f, fd, h1, h2, h3, h4⟩ := c
  exact pe_call h4 hr hg h1 h2 h3 .nil hx ha hdb he hpl
/-! ### data -/
theorem SqL.mono {K : PySem.W.Frag} {H H' : Hp} {a : Addr} {xs : List V} (h : SqL K H a xs) (s : Same H H') : SqL K H' a xs := Evl.ex_l s h
theorem SqT.mono {K : PySem.W.Frag} {H H' : Hp} {a : Addr} {xs : List V} (h : SqT K H a xs) (s : Same H H') : SqT K H' a xs := Evl.ex_t s h
mutual
theorem Dp.mono {K : PySem.W.Frag} {H H' : Hp} (s : Same H H') : ∀ {v : V} {d : PyData}, Dp K H v d → Dp K H' v d
  | _, _, .non => .non
  | _, _, .bl b => .bl b
  | _, _, .int i => .int i
  | _, _, .str x => .str x
  | _, _, .lst h a => .lst (h.mono s) (DpAll.mono s a)
  | _, _, .tup h a => .tup (h.mono s) (DpAll.mono s a)
theorem DpAll.mono {K : PySem.W.Frag} {H H' : Hp} (s : Same H H') : ∀ {vs : List V} {ds : List PyData}, DpAll K H vs ds → DpAll K H' vs ds
  | _, _, .nil => .nil
  | _, _, .cons h a => .cons (Dp.mono s h) (DpAll.mono s a)
end
theorem DpAll.len {K : PySem.W.Frag} {H : Hp} : ∀ {vs : List V} {ds : List PyData}, DpAll K H vs ds → vs.length = ds.length
  | _, _, .nil => rfl
  | _, _, .cons _ a => congrArg Nat.succ a.len
theorem DpAll.get {K : PySem.W.Frag} {H : Hp} : ∀ {vs : List V} {ds : List PyData} {i : Nat} {v : V}, DpAll K H vs ds → vs[i]? = some v → ∃ d, ds[i]? = some d ∧ Dp K H v d
  | _, _, i, _, .nil, h => by simp at h
  | _, _, 0, v, .cons (d := d) h a, e => by
    have e' := Option.some.inj e
    subst e'
    exact ⟨d, rfl, h⟩
  | _, _, i + 1, v, .cons h a, e => a.get (i := i) e
theorem DpAll.drop {K : PySem.W.Frag} {H : Hp} : ∀ {vs : List V} {ds : List PyData} (n : Nat), DpAll K H vs ds → DpAll K H (vs.drop n) (ds.drop n)
  | _, _, 0, h => h
  | _, _, _ + 1, .nil => .nil
  | _, _, n + 1, .cons _ a => DpAll.drop n a
/-- the name of a datum's class -/
def tyN : PyData → String
  | .none => "NoneType"
  | .bool _ => "bool"
  | .int _ => "int"
  | .str _ => "str"
  | .list _ => "list"
  | .tuple _ => "tuple"
  | .dict _ => "dict"
theorem ty_dp {K : PySem.W.Frag} {H : Hp} {v : V} {d : PyData} (h : Dp K H v d) : TyX K H v (.type (tyN d)) := by
  cases h with
  | non => exact .base .non
  | bl b => exact .base (.bl b)
  | int i => exact .base (.int i)
  | str x => exact .base (.str x)
  | lst hs _ => 
    rcases hs with (hs | ⟨o, hs⟩) | hs
    · exact .base (.lst hs)
    · exact .base (.frz hs)
    · obtain ⟨o, its, n, h1, h2, _⟩ := hs
      exact .kList h1 h2
  | tup hs _ => 
    rcases hs with (hs | ⟨o, hs⟩) | hs
    · exact .base (.tup hs)
    · exact .fTuple hs
    · obtain ⟨o, its, n, h1, h2, _⟩ := hs
      exact .kTuple h1 h2
end L2
namespace Op
open PySem L2 PyProof.Rows
theorem ifT {c : Bool} {A B : Prop} (hc : c = true) (h : A) : if c = true then A else B := by
  rw [if_pos hc]
  exact h
theorem ifF {c : Bool} {A B : Prop} (hc : c = false) (h : B) : if c = true then A else B := by
  rw [hc, if_neg Bool.false_ne_true]
  exact h
/-! ### the mirror: words -/
def letters : Str := "abcdefghijklmnopqrstuvwxyz"
def isWordS (x : Str) : Bool := decide (1 ≤ x.length ∧ x.length ≤ 8) && x.cps.toList.all fun c => decide (c ∈ letters.cps.toList)
def isWord : PyData → Bool
  | .str x => isWordS x
  | _ => false
def isStr : PyData → Bool
  | .str _ => true
  | _ => false
def isList : PyData → Bool
  | .list _ => true
  | _ => false
def isTup : PyData → Bool
  | .tuple _ => true
  | _ => false
def isInt : PyData → Bool
  | .int _ => true
  | _ => false
def strOf : PyData → Str
  | .str x => x
  | _ => ""
def areWords (most : Int) : PyData → Bool
  | .tuple ds => decide (1 ≤ ds.length ∧ (ds.length : Int) ≤ most) && (ds.all isWord && decide ((ds.map strOf).Nodup))
  | _ => false
def isBranches : PyData → Bool
  | .tuple ds => decide (2 ≤ ds.length ∧ ds.length ≤ 3) && ds.all isList
  | _ => false
section
variable {K : PySem.W.Frag} {H : Hp}
theorem kit_str (d : PyData) : PySem.W.kitOne K (.type (tyN d)) (.type "str") = some (isStr d) := by
  cases d with
  | none => exact kit_ty (show kitB "NoneType" "str" = some false by decide +kernel)
  | bool _ => exact kit_ty (show kitB "bool" "str" = some false by decide +kernel)
  | int _ => exact kit_ty (show kitB "int" "str" = some false by decide +kernel)
  | str _ => exact kit_ty (show kitB "str" "str" = some true by decide +kernel)
  | list _ => exact kit_ty (show kitB "list" "str" = some false by decide +kernel)
  | tuple _ => exact kit_ty (show kitB "tuple" "str" = some false by decide +kernel)
  | dict _ => exact kit_ty (show kitB "dict" "str" = some false by decide +kernel)
theorem kit_list (d : PyData) : PySem.W.kitOne K (.type (tyN d)) (.type "list") = some (isList d) := by
  cases d with
  | none => exact kit_ty (show kitB "NoneType" "list" = some false by decide +kernel)
  | bool _ => exact kit_ty (show kitB "bool" "list" = some false by decide +kernel)
  | int _ => exact kit_ty (show kitB "int" "list" = some false by decide +kernel)
  | str _ => exact kit_ty (show kitB "str" "list" = some false by decide +kernel)
  | list _ => exact kit_ty (show kitB "list" "list" = some true by decide +kernel)
  | tuple _ => exact kit_ty (show kitB "tuple" "list" = some false by decide +kernel)
  | dict _ => exact kit_ty (show kitB "dict" "list" = some false by decide +kernel)
theorem kit_tuple (d : PyData) : PySem.W.kitOne K (.type (tyN d)) (.type "tuple") = some (isTup d) := by
  cases d with
  | none => exact kit_ty (show kitB "NoneType" "tuple" = some false by decide +kernel)
  | bool _ => exact kit_ty (show kitB "bool" "tuple" = some false by decide +kernel)
  | int _ => exact kit_ty (show kitB "int" "tuple" = some false by decide +kernel)
  | str _ => exact kit_ty (show kitB "str" "tuple" = some false by decide +kernel)
  | list _ => exact kit_ty (show kitB "list" "tuple" = some false by decide +kernel)
  | tuple _ => exact kit_ty (show kitB "tuple" "tuple" = some true by decide +kernel)
  | dict _ => exact kit_ty (show kitB "dict" "tuple" = some false by decide +kernel)
theorem kit_int (d : PyData) : PySem.W.kitOne K (.type (tyN d)) (.type "int") = some (match d with | .int _ => true | .bool _ => true | _ => false) := by
  cases d with
  | none => exact kit_ty (show kitB "NoneType" "int" = some false by decide +kernel)
  | bool _ => exact kit_ty (show kitB "bool" "int" = some true by decide +kernel)
  | int _ => exact kit_ty (show kitB "int" "int" = some true by decide +kernel)
  | str _ => exact kit_ty (show kitB "str" "int" = some false by decide +kernel)
  | list _ => exact kit_ty (show kitB "list" "int" = some false by decide +kernel)
  | tuple _ => exact kit_ty (show kitB "tuple" "int" = some false by decide +kernel)
  | dict _ => exact kit_ty (show kitB "dict" "int" = some false by decide +kernel)
theorem kit_bool (d : PyData) : PySem.W.kitOne K (.type (tyN d)) (.type "bool") = some (match d with | .bool _ => true | _ => false) := by
  cases d with
  | none => exact kit_ty (show kitB "NoneType" "bool" = some false by decide +kernel)
  | bool _ => exact kit_ty (show kitB "bool" "bool" = some true by decide +kernel)
  | int _ => exact kit_ty (show kitB "int" "bool" = some false by decide +kernel)
  | str _ => exact kit_ty (show kitB "str" "bool" = some false by decide +kernel)
  | list _ => exact kit_ty (show kitB "list" "bool" = some false by decide +kernel)
  | tuple _ => exact kit_ty (show kitB "tuple" "bool" = some false by decide +kernel)
  | dict _ => exact kit_ty (show kitB "dict" "bool" = some false by decide +kernel)
theorem kit_dict (d : PyData) : PySem.W.kitOne K (.type (tyN d)) (.type "dict") = some (match d with | .dict _ => true | _ => false) := by
  cases d with
  | none => exact kit_ty (show kitB "NoneType" "dict" = some false by decide +kernel)
  | bool _ => exact kit_ty (show kitB "bool" "dict" = some false by decide +kernel)
  | int _ => exact kit_ty (show kitB "int" "dict" = some false by decide +kernel)
  | str _ => exact kit_ty (show kitB "str" "dict" = some false by decide +kernel)
  | list _ => exact kit_ty (show kitB "list" "dict" = some false by decide +kernel)
  | tuple _ => exact kit_ty (show kitB "tuple" "dict" = some false by decide +kernel)
  | dict _ => exact kit_ty (show kitB "dict" "dict" = some true by decide +kernel)
end
/-- the names of the module and of the machine that are read -/
structure Txt (mg : Str → Option Value) : Prop where
  b_len : mg "len" = none
  b_int : mg "int" = none
  b_bool : mg "bool" = none
  b_str : mg "str" = none
  b_list : mg "list" = none
  b_tuple : mg "tuple" = none
  b_dict : mg "dict" = none
  b_set : mg "set" = none
  b_range : mg "range" = none
  b_zip : mg "zip" = none
  b_enumerate : mg "enumerate" = none
  b_sorted : mg "sorted" = none
  b_isinstance : mg "isinstance" = none
  g_LETTERS : ∃ t, mg "LETTERS" = some (.str letters t)
def spWord (K : PySem.W.Frag) : Sp := fun vs H Q _ => ∃ (v : V) (d : PyData), vs = [v] ∧ Dp K H v d ∧ (∀ x, d = .str x → x.length ≤ 100000) ∧ Q (.bl (isWord d)) H
section
variable {P : Program} {w : World} {K : PySem.W.Frag} {mg : Str → Option Value} {base : Heap} {H : Hp}
theorem chain_le {σ : L2.St} {H : Hp} {Q : VK} {ta tb : TE} {lo hi n : Int} (tl : TE) (h1 : ∀ Q, Q (.int lo) H → ta σ H Q) (h : ∀ Q, Q (.int n) H → tl σ H Q) (h2 : ∀ Q, Q (.int hi) H → tb σ H Q) (q : Q (.bl (decide (lo ≤ n ∧ n ≤ hi))) H) :
    tChain (rI0 fun i j => .bl (decide (i ≤ j))) (rI0 fun i j => .bl (decide (i ≤ j))) ta tl tb σ H Q := by
  refine h1 _ (h _ ⟨_, _, rfl, rfl, _, rfl, ?_⟩)
  by_cases c : lo ≤ n
  · refine ifT (decide_eq_true c) (h2 _ ⟨_, _, rfl, rfl, ?_⟩)
    have e : decide (n ≤ hi) = decide (lo ≤ n ∧ n ≤ hi) := by simp [c]
    show Q (.bl (decide (n ≤ hi))) H
    rw [e]
    exact q
  · refine ifF (decide_eq_false c) ?_
    have e : false = decide (lo ≤ n ∧ n ≤ hi) := by simp [c]
    rw [e]
    exact q
theorem sc_is_word : FnScope ["value", "letter"] ["value"] (defScope s_is_word) := ⟨rfl, rfl, rfl, by decide +kernel, rfl, by decide +kernel, by decide +kernel⟩
theorem ok_is_word {f : Addr} {fd : FuncData} (F : Fun K "is_word" "is_word" s_is_word f fd) (T : Txt mg) : FnOk P w K mg base CX0 1 f fd ["value"] (spWord K) := by
  refine F.ok sc_is_word (fun vs H Q E h => ?_) (fun cdv A outer s H vs Q E hr h => ?_)
  · obtain ⟨v, d, rfl, _⟩ := h
    rfl
  · obtain ⟨v, d, rfl, hd, hl, k⟩ := h
    obtain ⟨tk, hL⟩ := T.g_LETTERS
    refine ⟨_, (pss_cons (ps_if (PW.pt (pw_or (pt_not (pt_val (pe_callB call_isi (by rfl) T.b_isinstance (by decide +kernel) (pa_cons (pv 0) (pa_cons (pe_bltn (v := .ty "str") (by rfl) T.b_str (by decide +kernel) rfl) pa_nil))))) (pw_or1 (pt_not (pt_chain op_le op_le pe_int (pe_callB call_len_str (by rfl) T.b_len (by decide +kernel) (pa_cons (pv 0) pa_nil)) pe_int))))) (pss_one (ps_ret pe_bl)) pss_nil)
      (pss_cons (ps_for PassesOwn.never rfl (pi_str (pv 0)) (pg_name (i := 1) sc_is_word.nd rfl (.inl rfl)) (pss_one (ps_if (pt_cmpR op_notIn_sign (pv 1) (pe_glob (v := .str letters) rfl hL ⟨_, rfl⟩) (by rfl)) (pss_one (ps_ret pe_bl)) pss_nil)))
      (pss_one (ps_ret pe_bl)))), ?_⟩
    refine ⟨_, rfl, v, _, _, _, _, rfl, .ty _, ty_dp hd, kit_str d, _, rfl, ?_⟩
    cases hd with
    | str x =>
      refine ifF rfl ?_
      refine chain_le _ (fun Q q => q) (fun Q q => ⟨_, rfl, x, rfl, Evl.sz_of (hl x rfl), q⟩) (fun Q q => q) ⟨_, rfl, ?_⟩
      by_cases c : (1 : Int) ≤ (x.length : Int) ∧ (x.length : Int) ≤ 8
      · rw [decide_eq_true c]
        refine ifF rfl ?_
        have eL : decide (1 ≤ x.length ∧ x.length ≤ 8) = true := decide_eq_true (by omega)
        refine ⟨_, rfl, x, rfl, for_it walk_str (fun i σ H' => H' = H ∧ (∃ y : Option V, σ = [some (.str x), y]) ∧ (x.cps.toList.take i).all (fun c => decide (c ∈ letters.cps.toList)) = true) ⟨rfl, ⟨none, rfl⟩, rfl⟩ (fun _ _ _ _ _ => trivial) ?_ ?_⟩
        · rintro i v σ H1 H2 hi ⟨rfl, ⟨y, rfl⟩, hp⟩ ⟨rfl, c, hc, rfl⟩
          have hc' : x.cps.toList[i]? = some c := by rw [Array.getElem?_toList]; exact hc
          refine ⟨_, rfl, c, letters, rfl, rfl, _, rfl, ?_⟩
          by_cases m : c ∈ letters.cps.toList
          · rw [decide_eq_true m]
            refine ifF rfl ⟨rfl, ⟨_, rfl⟩, ?_⟩
            rw [TS.take_one hc', List.all_append, hp, List.all_cons, List.all_nil, decide_eq_true m]
            rfl
          · rw [decide_eq_false m]
            refine ifT rfl ?_
            have e : isWord (.str x) = false := by
              show (decide (1 ≤ x.length ∧ x.length ≤ 8) && _) = false
              rw [eL, Bool.true_and]
              refine Bool.eq_false_iff.mpr fun q => ?_
              have := List.all_eq_true.mp q c (List.mem_of_getElem? hc')
              exact m (of_decide_eq_true this)
            rw [e] at k
            exact k
        · rintro σ H1 ⟨rfl, ⟨y, rfl⟩, hp⟩
          have e : isWord (.str x) = true := by
            show (decide (1 ≤ x.length ∧ x.length ≤ 8) && _) = true
            rw [eL, Bool.true_and]
            rw [List.take_of_length_le (by rw [Array.length_toList]; exact Nat.le_refl _)] at hp
            exact hp
          rw [e] at k
          exact k
      · rw [decide_eq_false c]
        refine ifT rfl ?_
        have e : isWord (.str x) = false := by
          show (decide (1 ≤ x.length ∧ x.length ≤ 8) && _) = false
          rw [decide_eq_false (by omega)]
          rfl
        rw [e] at k
        exact k
    | _ => exact ifT rfl k
/-! data that are of a size that is counted -/
mutual
def small : PyData → Bool
  | .str x => decide (x.length ≤ 100000)
  | .list xs => decide (xs.length ≤ 100000) && smalls xs
  | .tuple xs => decide (xs.length ≤ 100000) && smalls xs
  | _ => true
def smalls : List PyData → Bool
  | [] => true
  | x :: r => small x && smalls r
end
theorem smalls_get : ∀ {ds : List PyData} {i : Nat} {d : PyData}, smalls ds = true → ds[i]? = some d → small d = true
  | [], i, d, _, h => by simp at h
  | x :: r, 0, d, h, e => by
    have e' := Option.some.inj e
    subst e'
    exact (Bool.and_eq_true_iff.mp h).1
  | x :: r, i + 1, d, h, e => smalls_get (ds := r) (i := i) (Bool.and_eq_true_iff.mp h).2 e
theorem small_str {x : Str} (h : small (.str x) = true) : x.length ≤ 100000 := of_decide_eq_true h
theorem strs_of : ∀ {ds : List PyData} {xs : List V}, ds.all isWord = true → DpAll K H xs ds → ∃ zs : List Str, ds = zs.map PyData.str ∧ xs = zs.map V.str := by
  intro ds
  induction ds with
  | nil =>
    intro xs _ h
    cases h
    exact ⟨[], rfl, rfl⟩
  | cons d r ih =>
    intro xs h hp
    cases hp with
    | cons hd ha =>
      obtain ⟨h1, h2⟩ := Bool.and_eq_true_iff.mp h
      obtain ⟨zs, e1, e2⟩ := ih h2 ha
      cases hd with
      | str x => exact ⟨x :: zs, by rw [e1]; rfl, by rw [e2]; rfl⟩
      | _ => cases h1
def spAreWords (K : PySem.W.Frag) : Sp := fun vs H Q _ => ∃ (v : V) (d : PyData) (m : Int), vs = [v, .int m] ∧ Dp K H v d ∧ small d = true ∧ m < 100 ∧ Q (.bl (areWords m d)) H
theorem sc_are_words : FnScope ["value", "most", "item"] ["value", "most"] (defScope s_are_words) := ⟨rfl, rfl, rfl, by decide +kernel, rfl, by decide +kernel, by decide +kernel⟩
theorem ok_are_words {f : Addr} {fd : FuncData} (F : Fun K "are_words" "are_words" s_are_words f fd) (T : Txt mg) (c_is_word : Cal P w K mg base CX0 1 "is_word" ["value"] (spWord K)) : FnOk P w K mg base CX0 2 f fd ["value", "most"] (spAreWords K) := by
  refine F.ok sc_are_words (fun vs H Q E h => ?_) (fun cdv A outer s H vs Q E hr h => ?_)
  · obtain ⟨v, d, m, rfl, _⟩ := h
    rfl
  · obtain ⟨v, d, m, rfl, hd, hs, hm, k⟩ := h
    refine ⟨_, (pss_cons (ps_if (PW.pt (pw_or (pt_not (pt_val (pe_callB call_isi (by rfl) T.b_isinstance (by decide +kernel) (pa_cons (pv 0) (pa_cons (pe_bltn (v := .ty "tuple") (by rfl) T.b_tuple (by decide +kernel) rfl) pa_nil))))) (pw_or1 (pt_not (pt_chain op_le op_le pe_int (pe_callB call_len_seq (by rfl) T.b_len (by decide +kernel) (pa_cons (pv 0) pa_nil)) (pv 1)))))) (pss_one (ps_ret pe_bl)) pss_nil)
      (pss_cons (ps_for PassesOwn.never rfl (pi_tup (pv 0)) (pg_name (i := 2) sc_are_words.nd rfl (.inl rfl)) (pss_one (ps_if (pt_not (pt_val (pe_cal c_is_word (hr.mono (by omega)) rfl pass0 (pa_cons (pv 2) pa_nil)))) (pss_one (ps_ret pe_bl)) pss_nil)))
      (pss_one (ps_ret (pe_cmpR op_eq (pe_lenSetS (by rfl) T.b_len (by rfl) T.b_set (pv 0)) (pe_callB call_len_seq (by rfl) T.b_len (by decide +kernel) (pa_cons (pv 0) pa_nil)) (nomark _)))))), ?_⟩
    refine ⟨_, rfl, v, _, _, _, _, rfl, .ty _, ty_dp hd, kit_tuple d, _, rfl, ?_⟩
    cases hd with
    | @tup a xs ds hq ha =>
      refine ifF rfl ?_
      have hlen := ha.len
      refine chain_le _ (fun Q q => q) (fun Q q => ⟨_, rfl, a, xs, rfl, .inr hq, q⟩) (fun Q q => ⟨_, rfl, q⟩) ⟨_, rfl, ?_⟩
      by_cases c : (1 : Int) ≤ (xs.length : Int) ∧ (xs.length : Int) ≤ m
      · rw [decide_eq_true c]
        refine ifF rfl ?_
        have eL : decide (1 ≤ ds.length ∧ (ds.length : Int) ≤ m) = true := decide_eq_true (by omega)
        refine ⟨_, rfl, a, rfl, ⟨_, hq⟩, for_it walk_tup (fun i σ H' => H' = H ∧ (∃ y : Option V, σ = [some (.ref a), some (.int m), y]) ∧ (ds.take i).all isWord = true) ⟨rfl, ⟨none, rfl⟩, rfl⟩ (fun _ _ _ _ p => by rw [p.1]; exact hq) ?_ ?_⟩
        · rintro i x σ H1 H2 hi ⟨rfl, ⟨y, rfl⟩, hp⟩ ⟨rfl, hx⟩
          obtain ⟨d, hd1, hd2⟩ := ha.get hx
          have hsd := smalls_get (Bool.and_eq_true_iff.mp hs).2 hd1
          refine ⟨_, rfl, x, d, rfl, hd2, fun z e => small_str (by rw [← e]; exact hsd), _, rfl, ?_⟩
          by_cases mw : isWord d = true
          · rw [mw]
            refine ifF rfl ⟨rfl, ⟨_, rfl⟩, ?_⟩
            rw [TS.take_one hd1, List.all_append, hp]
            simp [mw]
          · rw [Bool.eq_false_iff.mpr mw]
            refine ifT rfl ?_
            have e : areWords m (.tuple ds) = false := by
              show (decide (1 ≤ ds.length ∧ (ds.length : Int) ≤ m) && (ds.all isWord && _)) = false
              rw [eL, Bool.true_and]
              refine Bool.eq_false_iff.mpr fun q => ?_
              exact mw (List.all_eq_true.mp (Bool.and_eq_true_iff.mp q).1 d (List.mem_of_getElem? hd1))
            rw [e] at k
            exact k
        · rintro σ H1 ⟨rfl, ⟨y, rfl⟩, hp⟩
          rw [List.take_of_length_le (by omega)] at hp
          obtain ⟨zs, rfl, rfl⟩ := strs_of hp ha
          rw [List.length_map] at hlen c
          refine ⟨_, rfl, a, zs, rfl, hq, by omega, _, rfl, a, _, rfl, .inr hq, rfl, ?_⟩
          have e : areWords m (.tuple (zs.map PyData.str)) = decide (V.int (TS.dist zs zs.length : Nat) = V.int ((zs.map V.str).length : Nat)) := by
            show (decide _ && ((zs.map PyData.str).all isWord && decide (((zs.map PyData.str).map strOf).Nodup))) = _
            rw [eL, hp, Bool.true_and, Bool.true_and, List.map_map]
            have e1 : zs.map (strOf ∘ PyData.str) = zs := by
              have : (strOf ∘ PyData.str) = id := by funext z; rfl
              rw [this, List.map_id]
            rw [e1, List.length_map]
            have f := TS.dist_full zs zs.length (Nat.le_refl _)
            rw [List.take_length] at f
            by_cases nd : zs.Nodup
            · rw [decide_eq_true nd, f.mpr nd]; simp
            · rw [decide_eq_false nd]
              refine (decide_eq_false fun q => nd (f.mp ?_)).symm
              have := V.int.inj q
              omega
          rw [e] at k
          exact k
      · rw [decide_eq_false c]
        refine ifT rfl ?_
        have e : areWords m (.tuple ds) = false := by
          show (decide (1 ≤ ds.length ∧ (ds.length : Int) ≤ m) && _) = false
          rw [decide_eq_false (by omega)]
          rfl
        rw [e] at k
        exact k
    | _ => exact ifT rfl k
def spBr (K : PySem.W.Frag) : Sp := fun vs H Q _ => ∃ (v : V) (d : PyData), vs = [v] ∧ Dp K H v d ∧ Q (.bl (isBranches d)) H
theorem sc_is_branches : FnScope ["value", "rows"] ["value"] (defScope s_is_branches) := ⟨rfl, rfl, rfl, by decide +kernel, rfl, by decide +kernel, by decide +kernel⟩
theorem ok_is_branches {f : Addr} {fd : FuncData} (F : Fun K "is_branches" "is_branches" s_is_branches f fd) (T : Txt mg) : FnOk P w K mg base CX0 1 f fd ["value"] (spBr K) := by
  refine F.ok sc_is_branches (fun vs H Q E h => ?_) (fun cdv A outer s H vs Q E hr h => ?_)
  · obtain ⟨v, d, rfl, _⟩ := h
    rfl
  · obtain ⟨v, d, rfl, hd, k⟩ := h
    refine ⟨_, (pss_cons (ps_if (PW.pt (pw_or (pt_not (pt_val (pe_callB call_isi (by rfl) T.b_isinstance (by decide +kernel) (pa_cons (pv 0) (pa_cons (pe_bltn (v := .ty "tuple") (by rfl) T.b_tuple (by decide +kernel) rfl) pa_nil))))) (pw_or1 (pt_not (pt_chain op_le op_le pe_int (pe_callB call_len_seq (by rfl) T.b_len (by decide +kernel) (pa_cons (pv 0) pa_nil)) pe_int))))) (pss_one (ps_ret pe_bl)) pss_nil)
      (pss_cons (ps_for PassesOwn.never rfl (pi_tup (pv 0)) (pg_name (i := 1) sc_is_branches.nd rfl (.inl rfl)) (pss_one (ps_if (pt_not (pt_val (pe_callB call_isi (by rfl) T.b_isinstance (by decide +kernel) (pa_cons (pv 1) (pa_cons (pe_bltn (v := .ty "list") (by rfl) T.b_list (by decide +kernel) rfl) pa_nil))))) (pss_one (ps_ret pe_bl)) pss_nil)))
      (pss_one (ps_ret pe_bl)))), ?_⟩
    refine ⟨_, rfl, v, _, _, _, _, rfl, .ty _, ty_dp hd, kit_tuple d, _, rfl, ?_⟩
    cases hd with
    | @tup a xs ds hq ha =>
      refine ifF rfl ?_
      have hlen := ha.len
      refine chain_le _ (fun Q q => q) (fun Q q => ⟨_, rfl, a, xs, rfl, .inr hq, q⟩) (fun Q q => q) ⟨_, rfl, ?_⟩
      by_cases c : (2 : Int) ≤ (xs.length : Int) ∧ (xs.length : Int) ≤ 3
      · rw [decide_eq_true c]
        refine ifF rfl ?_
        have eL : decide (2 ≤ ds.length ∧ ds.length ≤ 3) = true := decide_eq_true (by omega)
        refine ⟨_, rfl, a, rfl, ⟨_, hq⟩, for_it walk_tup (fun i σ H' => H' = H ∧ (∃ y : Option V, σ = [some (.ref a), y]) ∧ (ds.take i).all isList = true) ⟨rfl, ⟨none, rfl⟩, rfl⟩ (fun _ _ _ _ p => by rw [p.1]; exact hq) ?_ ?_⟩
        · rintro i x σ H1 H2 hi ⟨rfl, ⟨y, rfl⟩, hp⟩ ⟨rfl, hx⟩
          obtain ⟨d, hd1, hd2⟩ := ha.get hx
          refine ⟨_, rfl, x, _, _, _, _, rfl, .ty _, ty_dp hd2, kit_list d, _, rfl, ?_⟩
          by_cases mw : isList d = true
          · rw [mw]
            refine ifF rfl ⟨rfl, ⟨_, rfl⟩, ?_⟩
            rw [TS.take_one hd1, List.all_append, hp]
            simp [mw]
          · rw [Bool.eq_false_iff.mpr mw]
            refine ifT rfl ?_
            have e : isBranches (.tuple ds) = false := by
              show (decide (2 ≤ ds.length ∧ ds.length ≤ 3) && ds.all isList) = false
              rw [eL, Bool.true_and]
              refine Bool.eq_false_iff.mpr fun q => ?_
              exact mw (List.all_eq_true.mp q d (List.mem_of_getElem? hd1))
            rw [e] at k
            exact k
        · rintro σ H1 ⟨rfl, ⟨y, rfl⟩, hp⟩
          rw [List.take_of_length_le (by omega)] at hp
          have e : isBranches (.tuple ds) = true := by
            show (decide (2 ≤ ds.length ∧ ds.length ≤ 3) && ds.all isList) = true
            rw [eL, hp]
            rfl
          rw [e] at k
          exact k
      · rw [decide_eq_false c]
        refine ifT rfl ?_
        have e : isBranches (.tuple ds) = false := by
          show (decide (2 ≤ ds.length ∧ ds.length ≤ 3) && _) = false
          rw [decide_eq_false (by omega)]
          rfl
        rw [e] at k
        exact k
    | _ => exact ifT rfl k
end
end Op
namespace Op
open PySem L2 PyProof.Rows
/-! ### the mirror: one row -/
structure Chk where
  total : Int
  labels : List Str
  slots : List Str
  gates : List Str
  edits : List Str
/-- what a check knows: asks, signals, whether edit rows may be -/
structure Env0 where
  asks : List Str
  sigs : List Str
  we : Bool
def partFits (E : Env0) (code : Str) (d : PyData) : Bool :=
  if code = "a" then isWord d && decide (strOf d ∈ E.asks)
  else if code = "g" then isWord d && decide (strOf d ∈ E.sigs)
  else if code = "s" then isWord d && !decide (strOf d = "in")
  else if code = "m" ∨ code = "v" then areWords 3 d
  else if code = "b" then isList d
  else if code = "t" then isBranches d
  else isWord d
def idFits (c : Chk) (kind : Str) (parts : List PyData) : Bool :=
  if kind = "edit" then !decide (strOf (parts.headD .none) ∈ c.edits) && !decide (strOf (parts.headD .none) ∈ c.gates)
  else if kind = "gate" ∨ kind = "past" then !decide (strOf (parts.headD .none) ∈ c.edits)
  else true
def shapes : List (Str × Str) := [("ask", "al"), ("timer", "l"), ("await", "ls"), ("first", "ms"), ("drop", "l"), ("take", "gs"), ("note", "sv"), ("put", "sw"), ("if", "rwbb"), ("loop", "b"), ("leave", ""), ("part", "b"), ("both", "t"), ("gate", "ibb"), ("past", "ib"), ("edit", "ibb"), ("end", "r"), ("anew", "r")]
def putW (xs : List Str) (x : Str) : List Str := if x ∈ xs then xs else xs ++ [x]
/-! ### the object -/
structure RcA where
  C : Addr
  a : Addr
  dx : Addr
  ka : Addr
  ks : Addr
  l : Addr
  s : Addr
  g : Addr
  e : Addr
def dkT (xs : List Str) : List (Key × V) := xs.map fun x => (.inr x, .bl true)
theorem valV_dkT (x : Str) : ∀ xs : List Str, (valV (dkT xs) (.inr x)).isSome = decide (x ∈ xs)
  | [] => rfl
  | y :: r => by
    show (valV ((Sum.inr y, V.bl true) :: dkT r) (.inr x)).isSome = _
    by_cases e : y = x
    · rw [valV_pos (by rw [e])]; simp [e]
    · rw [valV_neg (fun q => e (Sum.inr.inj q)), valV_dkT x r]
      simp [Ne.symm e]
theorem dkT_put (xs : List Str) (x : Str) : putK (dkT xs) (.inr x) (.bl true) = dkT (putW xs x) := by
  unfold putW
  by_cases e : x ∈ xs
  · rw [if_pos e]
    unfold putK
    have h : ((dkT xs).any fun kv => decide (kv.1 = Sum.inr x)) = true := by rw [valV_any, valV_dkT]; exact decide_eq_true e
    rw [if_pos h]
    unfold dkT
    rw [List.map_map]
    refine List.map_congr_left fun y _ => ?_
    show (if (Sum.inr y : Key) = Sum.inr x then ((Sum.inr y : Key), V.bl true) else (Sum.inr y, V.bl true)) = _
    split <;> rfl
  · rw [if_neg e, putK_new _ (by
      have h := valV_dkT x xs
      rw [decide_eq_false e] at h
      cases q : valV (dkT xs) (.inr x) with
      | none => rfl
      | some v => rw [q] at h; cases h)]
    unfold dkT
    rw [List.map_append]
    rfl
theorem dkT_len (xs : List Str) : (dkT xs).length = xs.length := List.length_map _
def rcF (A : RcA) (E : Env0) (c : Chk) : List (Str × V) := [("known_asks", .ref A.ka), ("known_signals", .ref A.ks), ("with_edits", .bl E.we), ("total", .int c.total), ("label_words", .ref A.l), ("slot_words", .ref A.s), ("gate_words", .ref A.g), ("edit_words", .ref A.e)]
def Known (H : Hp) (p : Addr) (xs : List Str) : Prop := ∃ kvs, H p = some (.dK kvs) ∧ ∀ x, (valV kvs (.inr x)).isSome = decide (x ∈ xs)
structure RC (H : Hp) (A : RcA) (E : Env0) (c : Chk) : Prop where
  ob : H A.a = some (.ins A.C A.dx (rcF A E c))
  ka : Known H A.ka E.asks
  ks : Known H A.ks E.sigs
  dl : H A.l = some (.dK (dkT c.labels))
  ds : H A.s = some (.dK (dkT c.slots))
  dg : H A.g = some (.dK (dkT c.gates))
  de : H A.e = some (.dK (dkT c.edits))
  nd : [A.ka, A.l, A.s, A.g, A.e].Nodup
  nk : [A.ks, A.l, A.s, A.g, A.e].Nodup
/-- what the class must have -/
structure RcC (K : PySem.W.Frag) (C : Addr) : Prop where
  cls : Cls K C
  n1 : NoAttr K C "known_asks"
  n2 : NoAttr K C "known_signals"
  n3 : NoAttr K C "with_edits"
  n4 : NoAttr K C "total"
  n5 : NoAttr K C "label_words"
  n6 : NoAttr K C "slot_words"
  n7 : NoAttr K C "gate_words"
  n8 : NoAttr K C "edit_words"
mutual
def wt : PyData → Nat
  | .str x => 1 + x.length
  | .list xs => 1 + wts xs
  | .tuple xs => 1 + wts xs
  | _ => 1
def wts : List PyData → Nat
  | [] => 0
  | x :: r => wt x + wts r
end
theorem wt_pos (d : PyData) : 1 ≤ wt d := by cases d <;> unfold wt <;> omega
theorem wts_len : ∀ ds : List PyData, ds.length ≤ wts ds
  | [] => Nat.le_refl _
  | d :: r => by
    have := wts_len r
    have := wt_pos d
    show r.length + 1 ≤ wt d + wts r
    omega
theorem wts_mem {d : PyData} : ∀ {ds : List PyData}, d ∈ ds → wt d ≤ wts ds
  | x :: r, h => by
    show _ ≤ wt x + wts r
    rcases List.mem_cons.mp h with rfl | h
    · omega
    · have := wts_mem h
      omega
mutual
theorem small_of : ∀ d : PyData, wt d ≤ 100000 → small d = true
  | .str x, h => by
    unfold wt at h
    exact decide_eq_true (by omega)
  | .list xs, h => by
    unfold wt at h
    have := wts_len xs
    unfold small
    rw [decide_eq_true (by omega : xs.length ≤ 100000), smalls_of xs (by omega)]
    rfl
  | .tuple xs, h => by
    unfold wt at h
    have := wts_len xs
    unfold small
    rw [decide_eq_true (by omega : xs.length ≤ 100000), smalls_of xs (by omega)]
    rfl
  | .none, _ => by unfold small; rfl
  | .bool _, _ => by unfold small; rfl
  | .int _, _ => by unfold small; rfl
  | .dict _, _ => by unfold small; rfl
theorem smalls_of : ∀ ds : List PyData, wts ds ≤ 100000 → smalls ds = true
  | [], _ => by unfold smalls; rfl
  | d :: r, h => by
    unfold wts at h
    unfold smalls
    rw [small_of d (by omega), smalls_of r (by omega)]
    rfl
end
section
variable {P : Program} {w : World} {K : PySem.W.Frag} {mg : Str → Option Value} {base : Heap}
def spPF (K : PySem.W.Frag) : Sp := fun vs H Q _ => ∃ (A : RcA) (E : Env0) (c : Chk) (x : Str) (v : V) (d : PyData), vs = [.ref A.a, .str x, v] ∧ RC H A E c ∧ RcC K A.C ∧ Dp K H v d ∧ wt d ≤ 100000 ∧ Q (.bl (partFits E x d)) H
theorem dec_strV {x y : Str} : decide (V.str x = V.str y) = decide (x = y) := by
  rw [Bool.eq_iff_iff]
  simp
theorem mono_str {v : V} {d : PyData} {K} {H : Hp} (h : Dp K H v d) (hw : isWord d = true) : v = .str (strOf d) := by
  cases h with
  | str x => rfl
  | _ => cases hw
theorem dget_known {H : Hp} {p : Addr} {kvs : List (Key × V)} {x : Str} (h : H p = some (.dK kvs)) : DGet H p (.str x) (valV kvs (.inr x)) := DGet.k (k := .inr x) h
theorem sc_RowCheck_part_fits : FnScope ["self", "code", "part"] ["self", "code", "part"] (defScope s_RowCheck_part_fits) := ⟨rfl, rfl, rfl, by decide +kernel, rfl, by decide +kernel, by decide +kernel⟩
theorem ok_part_fits {f : Addr} {fd : FuncData} (F : Fun K "part_fits" "RowCheck.part_fits" s_RowCheck_part_fits f fd) (T : Txt mg) (c_is_word : Cal P w K mg base CX0 1 "is_word" ["value"] (spWord K)) (c_are_words : Cal P w K mg base CX0 2 "are_words" ["value", "most"] (spAreWords K)) (c_is_branches : Cal P w K mg base CX0 1 "is_branches" ["value"] (spBr K)) :
    FnOk P w K mg base CX0 3 f fd ["self", "code", "part"] (spPF K) := by
  refine F.ok sc_RowCheck_part_fits (fun vs H Q E h => ?_) (fun cdv A outer s H vs Q E hr h => ?_)
  · obtain ⟨A, E, c, x, v, d, rfl, _⟩ := h
    rfl
  · obtain ⟨R, E0, c, x, v, d, rfl, O, rc, hd, hw, k⟩ := h
    have hu := hu_of hr
    have hs := small_of d hw
    have hsx : ∀ x, d = .str x → x.length ≤ 100000 := fun z e => small_str (by rw [← e]; exact hs)
    obtain ⟨ka, hka, pka⟩ := O.ka
    obtain ⟨ks, hks, pks⟩ := O.ks
    unfold partFits at k
    refine ⟨_, (pss_cons (ps_if (pt_cmpR op_eq (pv 1) pe_str (nomark _)) (pss_one (ps_ret (pe_and (pe_cal c_is_word (hr.mono (by omega)) rfl pass0 (pa_cons (pv 2) pa_nil)) (pe_one (pe_cmp (pc_din hu (pv 2) (pe_fld (pv 0) rfl))))))) pss_nil)
      (pss_cons (ps_if (pt_cmpR op_eq (pv 1) pe_str (nomark _)) (pss_one (ps_ret (pe_and (pe_cal c_is_word (hr.mono (by omega)) rfl pass0 (pa_cons (pv 2) pa_nil)) (pe_one (pe_cmp (pc_din hu (pv 2) (pe_fld (pv 0) rfl))))))) pss_nil)
      (pss_cons (ps_if (pt_cmpR op_eq (pv 1) pe_str (nomark _)) (pss_one (ps_ret (pe_and (pe_cal c_is_word (hr.mono (by omega)) rfl pass0 (pa_cons (pv 2) pa_nil)) (pe_one (pe_cmpR op_ne (pv 2) pe_str (nomark _)))))) pss_nil)
      (pss_cons (ps_if (PW.pt (pw_or (pt_cmpR op_eq (pv 1) pe_str (nomark _)) (pw_or1 (pt_cmpR op_eq (pv 1) pe_str (nomark _))))) (pss_one (ps_ret (pe_cal c_are_words (hr.mono (by omega)) rfl pass0 (pa_cons (pv 2) (pa_cons pe_int pa_nil))))) pss_nil)
      (pss_cons (ps_if (pt_cmpR op_eq (pv 1) pe_str (nomark _)) (pss_one (ps_ret (pe_callB call_isi (by rfl) T.b_isinstance (by decide +kernel) (pa_cons (pv 2) (pa_cons (pe_bltn (v := .ty "list") (by rfl) T.b_list (by decide +kernel) rfl) pa_nil))))) pss_nil)
      (pss_cons (ps_if (pt_cmpR op_eq (pv 1) pe_str (nomark _)) (pss_one (ps_ret (pe_cal c_is_branches (hr.mono (by omega)) rfl pass0 (pa_cons (pv 2) pa_nil)))) pss_nil)
      (pss_one (ps_ret (pe_cal c_is_word (hr.mono (by omega)) rfl pass0 (pa_cons (pv 2) pa_nil)))))))))), ?_⟩
    refine ⟨_, rfl, rfl, _, rfl, ?_⟩
    rw [dec_strV]
    by_cases e1 : x = "a"
    · rw [if_pos e1] at k
      refine ifT (decide_eq_true e1) ⟨_, rfl, v, d, rfl, hd, hsx, _, rfl, ?_⟩
      by_cases q : isWord d = true
      · rw [q] at k
        refine ifT q ?_
        obtain rfl := mono_str hd q
        refine ⟨_, rfl, _, rfl, _, _, _, _, _, rfl, O.ob, rc.cls, rc.n1, rfl, _, _, rfl, dget_known hka, ?_⟩
        rw [pka]
        exact k
      · rw [Bool.eq_false_iff.mpr q] at k
        exact ifF (Bool.eq_false_iff.mpr q) k
    · rw [if_neg e1] at k
      refine ifF (decide_eq_false e1) ⟨_, rfl, rfl, _, rfl, ?_⟩
      rw [dec_strV]
      by_cases e2 : x = "g"
      · rw [if_pos e2] at k
        refine ifT (decide_eq_true e2) ⟨_, rfl, v, d, rfl, hd, hsx, _, rfl, ?_⟩
        by_cases q : isWord d = true
        · rw [q] at k
          refine ifT q ?_
          obtain rfl := mono_str hd q
          refine ⟨_, rfl, _, rfl, _, _, _, _, _, rfl, O.ob, rc.cls, rc.n2, rfl, _, _, rfl, dget_known hks, ?_⟩
          rw [pks]
          exact k
        · rw [Bool.eq_false_iff.mpr q] at k
          exact ifF (Bool.eq_false_iff.mpr q) k
      · rw [if_neg e2] at k
        refine ifF (decide_eq_false e2) ⟨_, rfl, rfl, _, rfl, ?_⟩
        rw [dec_strV]
        by_cases e3 : x = "s"
        · rw [if_pos e3] at k
          refine ifT (decide_eq_true e3) ⟨_, rfl, v, d, rfl, hd, hsx, _, rfl, ?_⟩
          by_cases q : isWord d = true
          · rw [q] at k
            refine ifT q ?_
            obtain rfl := mono_str hd q
            refine ⟨_, rfl, rfl, ?_⟩
            rw [dec_strV]
            exact k
          · rw [Bool.eq_false_iff.mpr q] at k
            exact ifF (Bool.eq_false_iff.mpr q) k
        · rw [if_neg e3] at k
          refine ifF (decide_eq_false e3) ⟨_, rfl, rfl, _, rfl, ?_⟩
          rw [dec_strV]
          by_cases e4 : x = "m" ∨ x = "v"
          · rw [if_pos e4] at k
            by_cases e5 : x = "m"
            · refine ifT (decide_eq_true e5) ?_
              refine ifT rfl ⟨_, rfl, v, d, 3, rfl, hd, hs, by decide, k⟩
            · refine ifF (decide_eq_false e5) ⟨_, rfl, rfl, _, rfl, ?_⟩
              rw [dec_strV]
              refine ifT (decide_eq_true (e4.resolve_left e5)) ⟨_, rfl, v, d, 3, rfl, hd, hs, by decide, k⟩
          · rw [if_neg e4] at k
            refine ifF (decide_eq_false fun h => e4 (.inl h)) ⟨_, rfl, rfl, _, rfl, ?_⟩
            rw [dec_strV]
            refine ifF (decide_eq_false fun h => e4 (.inr h)) ⟨_, rfl, rfl, _, rfl, ?_⟩
            rw [dec_strV]
            by_cases e6 : x = "b"
            · rw [if_pos e6] at k
              exact ifT (decide_eq_true e6) ⟨_, rfl, v, _, _, _, _, rfl, .ty _, ty_dp hd, kit_list d, k⟩
            · rw [if_neg e6] at k
              refine ifF (decide_eq_false e6) ⟨_, rfl, rfl, _, rfl, ?_⟩
              rw [dec_strV]
              by_cases e7 : x = "t"
              · rw [if_pos e7] at k
                exact ifT (decide_eq_true e7) ⟨_, rfl, v, d, rfl, hd, k⟩
              · rw [if_neg e7] at k
                exact ifF (decide_eq_false e7) ⟨_, rfl, v, d, rfl, hd, hsx, k⟩
end
end Op
namespace L2
open PySem PySem.Spec PyProof.Rows
/-! ### frames -/
def seqO : HO → Bool
  | .lst _ => true
  | .tup _ => true
  | .frz _ _ => true
  | _ => false
/-- lists and tuples stay -/
def Kp (H H' : Hp) : Prop := ∀ b o, H b = some o → seqO o = true → H' b = some o
/-- all but those of L stay -/
def Fr (L : List Addr) (H H' : Hp) : Prop := ∀ b o, H b = some o → b ∉ L → H' b = some o
theorem Same.kp {H H' : Hp} (s : Same H H') : Kp H H' := fun b o h _ => s b o h
theorem Same.fr {L : List Addr} {H H' : Hp} (s : Same H H') : Fr L H H' := fun b o h _ => s b o h
theorem Fr.refl {L : List Addr} {H : Hp} : Fr L H H := fun _ _ h _ => h
theorem Fr.trans {L : List Addr} {H H' H'' : Hp} (a : Fr L H H') (b : Fr L H' H'') : Fr L H H'' := fun c o h n => b c o (a c o h n) n
theorem Fr.upd {L : List Addr} {H H' : Hp} {a : Addr} {o : HO} (f : Fr L H H') (h : a ∈ L) : Fr L H (upd H' a o) := fun b u e n => by
  have q : b ≠ a := fun q => n (by rw [q]; exact h)
  rw [L2.upd_ne q]
  exact f b u e n
theorem Same.new {H : Hp} {a : Addr} {o : HO} (h : H a = none) : Same H (upd H a o) := fun b u e => by rw [upd_ne (ne_of_none e h)]; exact e
theorem Kp.trans {H H' H'' : Hp} (a : Kp H H') (b : Kp H' H'') : Kp H H'' := fun c o h n => b c o (a c o h n) n
theorem SqL.kp {K : PySem.W.Frag} {H H' : Hp} {a : Addr} {xs : List V} (h : SqL K H a xs) (s : Kp H H') : SqL K H' a xs := by
  rcases h with (h | ⟨o, h⟩) | h
  · exact .inl (.inl (s _ _ h rfl))
  · exact .inl (.inr ⟨o, s _ _ h rfl⟩)
  · exact .inr h
theorem SqT.kp {K : PySem.W.Frag} {H H' : Hp} {a : Addr} {xs : List V} (h : SqT K H a xs) (s : Kp H H') : SqT K H' a xs := by
  rcases h with (h | ⟨o, h⟩) | h
  · exact .inl (.inl (s _ _ h rfl))
  · exact .inl (.inr ⟨o, s _ _ h rfl⟩)
  · exact .inr h
mutual
theorem Dp.kp {K : PySem.W.Frag} {H H' : Hp} (s : Kp H H') : ∀ {v : V} {d : PyData}, Dp K H v d → Dp K H' v d
  | _, _, .non => .non
  | _, _, .bl b => .bl b
  | _, _, .int i => .int i
  | _, _, .str x => .str x
  | _, _, .lst h a => .lst (h.kp s) (DpAll.kp s a)
  | _, _, .tup h a => .tup (h.kp s) (DpAll.kp s a)
theorem DpAll.kp {K : PySem.W.Frag} {H H' : Hp} (s : Kp H H') : ∀ {vs : List V} {ds : List PyData}, DpAll K H vs ds → DpAll K H' vs ds
  | _, _, .nil => .nil
  | _, _, .cons h a => .cons (Dp.kp s h) (DpAll.kp s a)
end
theorem DpAll.get' {K : PySem.W.Frag} {H : Hp} : ∀ {vs : List V} {ds : List PyData} {i : Nat} {d : PyData}, DpAll K H vs ds → ds[i]? = some d → ∃ v, vs[i]? = some v ∧ Dp K H v d
  | _, _, i, _, .nil, h => by simp at h
  | _, _, 0, d, .cons (v := v) h a, e => by
    have e' := Option.some.inj e
    subst e'
    exact ⟨v, rfl, h⟩
  | _, _, i + 1, v, .cons h a, e => a.get' (i := i) e
end L2
namespace Op
open PySem L2 PyProof.Rows
def RcA.L (A : RcA) : List Addr := [A.a, A.l, A.s, A.g, A.e]
section
variable {H H' : Hp} {A : RcA} {E : Env0} {c : Chk}
theorem RC.kp (O : RC H A E c) (f : Fr A.L H H') : Kp H H' := fun b o h n => f b o h fun m => by
  have : b = A.a ∨ b = A.l ∨ b = A.s ∨ b = A.g ∨ b = A.e := by simpa [RcA.L] using m
  rcases this with rfl | rfl | rfl | rfl | rfl
  · rw [O.ob] at h; cases h; cases n
  · rw [O.dl] at h; cases h; cases n
  · rw [O.ds] at h; cases h; cases n
  · rw [O.dg] at h; cases h; cases n
  · rw [O.de] at h; cases h; cases n
theorem Known.mono {p : Addr} {xs : List Str} (h : Known H p xs) (s : ∀ o, H p = some o → H' p = some o) : Known H' p xs := let ⟨kvs, h1, h2⟩ := h; ⟨kvs, s _ h1, h2⟩
theorem RC.mono (O : RC H A E c) (s : Same H H') : RC H' A E c := ⟨s _ _ O.ob, O.ka.mono (s _), O.ks.mono (s _), s _ _ O.dl, s _ _ O.ds, s _ _ O.dg, s _ _ O.de, O.nd, O.nk⟩
theorem Known.ne_ins {p a C dx : Addr} {fs : List (Str × V)} {xs : List Str} (h : Known H p xs) (e : H a = some (.ins C dx fs)) : p ≠ a := fun q => by
  obtain ⟨kvs, h1, _⟩ := h
  rw [q, e] at h1
  cases h1
theorem RC.nes (O : RC H A E c) : A.a ≠ A.l ∧ A.a ≠ A.s ∧ A.a ≠ A.g ∧ A.a ≠ A.e ∧ A.a ≠ A.ka ∧ A.a ≠ A.ks :=
  ⟨ne_of O.ob O.dl nofun, ne_of O.ob O.ds nofun, ne_of O.ob O.dg nofun, ne_of O.ob O.de nofun, (O.ka.ne_ins O.ob).symm, (O.ks.ne_ins O.ob).symm⟩
theorem RC.nds (O : RC H A E c) : (A.ka ≠ A.l ∧ A.ka ≠ A.s ∧ A.ka ≠ A.g ∧ A.ka ≠ A.e) ∧ (A.ks ≠ A.l ∧ A.ks ≠ A.s ∧ A.ks ≠ A.g ∧ A.ks ≠ A.e) ∧ A.l ≠ A.s ∧ A.l ≠ A.g ∧ A.l ≠ A.e ∧ A.s ≠ A.g ∧ A.s ≠ A.e ∧ A.g ≠ A.e := by
  have h1 := O.nd
  have h2 := O.nk
  simp [List.nodup_cons] at h1 h2
  obtain ⟨⟨a1, a2, a3, a4⟩, ⟨b1, b2, b3⟩, ⟨c1, c2⟩, d1⟩ := h1
  obtain ⟨⟨e1, e2, e3, e4⟩, _⟩ := h2
  exact ⟨⟨a1, a2, a3, a4⟩, ⟨e1, e2, e3, e4⟩, b1, b2, b3, c1, c2, d1⟩
theorem RC.put_l (O : RC H A E c) (x : Str) : RC (upd H A.l (.dK (dkT (putW c.labels x)))) A E { c with labels := putW c.labels x } := by
  obtain ⟨a1, a2, a3, a4, a5, a6⟩ := O.nes
  obtain ⟨⟨k1, k2, k3, k4⟩, ⟨s1, s2, s3, s4⟩, b1, b2, b3, b4, b5, b6⟩ := O.nds
  exact ⟨by rw [upd_ne a1]; exact O.ob, O.ka.mono fun o h => by rw [upd_ne k1]; exact h, O.ks.mono fun o h => by rw [upd_ne s1]; exact h, upd_same, by rw [upd_ne b1.symm]; exact O.ds, by rw [upd_ne b2.symm]; exact O.dg, by rw [upd_ne b3.symm]; exact O.de, O.nd, O.nk⟩
theorem RC.put_s (O : RC H A E c) (x : Str) : RC (upd H A.s (.dK (dkT (putW c.slots x)))) A E { c with slots := putW c.slots x } := by
  obtain ⟨a1, a2, a3, a4, a5, a6⟩ := O.nes
  obtain ⟨⟨k1, k2, k3, k4⟩, ⟨s1, s2, s3, s4⟩, b1, b2, b3, b4, b5, b6⟩ := O.nds
  exact ⟨by rw [upd_ne a2]; exact O.ob, O.ka.mono fun o h => by rw [upd_ne k2]; exact h, O.ks.mono fun o h => by rw [upd_ne s2]; exact h, by rw [upd_ne b1]; exact O.dl, upd_same, by rw [upd_ne b4.symm]; exact O.dg, by rw [upd_ne b5.symm]; exact O.de, O.nd, O.nk⟩
theorem RC.put_g (O : RC H A E c) (x : Str) : RC (upd H A.g (.dK (dkT (putW c.gates x)))) A E { c with gates := putW c.gates x } := by
  obtain ⟨a1, a2, a3, a4, a5, a6⟩ := O.nes
  obtain ⟨⟨k1, k2, k3, k4⟩, ⟨s1, s2, s3, s4⟩, b1, b2, b3, b4, b5, b6⟩ := O.nds
  exact ⟨by rw [upd_ne a3]; exact O.ob, O.ka.mono fun o h => by rw [upd_ne k3]; exact h, O.ks.mono fun o h => by rw [upd_ne s3]; exact h, by rw [upd_ne b2]; exact O.dl, by rw [upd_ne b4]; exact O.ds, upd_same, by rw [upd_ne b6.symm]; exact O.de, O.nd, O.nk⟩
theorem RC.put_e (O : RC H A E c) (x : Str) : RC (upd H A.e (.dK (dkT (putW c.edits x)))) A E { c with edits := putW c.edits x } := by
  obtain ⟨a1, a2, a3, a4, a5, a6⟩ := O.nes
  obtain ⟨⟨k1, k2, k3, k4⟩, ⟨s1, s2, s3, s4⟩, b1, b2, b3, b4, b5, b6⟩ := O.nds
  exact ⟨by rw [upd_ne a4]; exact O.ob, O.ka.mono fun o h => by rw [upd_ne k4]; exact h, O.ks.mono fun o h => by rw [upd_ne s4]; exact h, by rw [upd_ne b3]; exact O.dl, by rw [upd_ne b5]; exact O.ds, by rw [upd_ne b6]; exact O.dg, upd_same, O.nd, O.nk⟩
theorem RC.tot (O : RC H A E c) (n : Int) : RC (upd H A.a (.ins A.C A.dx (rcF A E { c with total := n }))) A E { c with total := n } := by
  obtain ⟨a1, a2, a3, a4, a5, a6⟩ := O.nes
  exact ⟨upd_same, O.ka.mono fun o h => by rw [upd_ne a5.symm]; exact h, O.ks.mono fun o h => by rw [upd_ne a6.symm]; exact h, by rw [upd_ne a1.symm]; exact O.dl, by rw [upd_ne a2.symm]; exact O.ds, by rw [upd_ne a3.symm]; exact O.dg, by rw [upd_ne a4.symm]; exact O.de, O.nd, O.nk⟩
theorem dput_w {p : Addr} {xs : List Str} {x : Str} (h : H p = some (.dK (dkT xs))) (hl : xs.length < sizeLine) : DPut H p (.str x) (.bl true) (upd H p (.dK (dkT (putW xs x)))) := by
  rw [← dkT_put]
  exact DPut.k (k := .inr x) h (by rw [dkT_len]; exact hl)
theorem putW_len (xs : List Str) (x : Str) : (putW xs x).length ≤ xs.length + 1 := by
  unfold putW
  split
  · omega
  · simp
end
section
variable {P : Program} {w : World} {K : PySem.W.Frag} {mg : Str → Option Value} {base : Heap}
def spID (K : PySem.W.Frag) : Sp := fun vs H Q _ => ∃ (A : RcA) (E : Env0) (c : Chk) (t : Addr) (kind : Str) (parts : List PyData), vs = [.ref A.a, .ref t] ∧ RC H A E c ∧ RcC K A.C ∧ Dp K H (.ref t) (.tuple (.str kind :: parts)) ∧
  (kind = "edit" ∨ kind = "gate" ∨ kind = "past" → ∃ x r, parts = .str x :: r) ∧ ∀ H', Same H H' → Q (.bl (idFits c kind parts)) H'
theorem sz_lit {n : Nat} (h : n ≤ 100000) : n ≤ sizeLine := Evl.sz_of h
theorem inV2 (x a b : Str) : inV (.str x) [.str a, .str b] = decide (x = a ∨ x = b) := by
  show (eqV (.str a) (.str x) || (eqV (.str b) (.str x) || false)) = _
  have e : ∀ y : Str, eqV (.str y) (.str x) = decide (x = y) := fun y => by
    show (y == x) = _
    by_cases q : x = y
    · rw [decide_eq_true q, q]; simp
    · rw [decide_eq_false q]; simpa using Ne.symm q
  rw [e, e, Bool.or_false, Bool.eq_iff_iff]
  simp
theorem atI_zero {α : Type} (x : α) (r : List α) : atI (x :: r) 0 = some x := by
  unfold atI ixN
  rw [if_pos (Int.le_refl _), if_pos (by simp only [List.length_cons]; omega)]
  rfl
theorem atI_one {α : Type} (x y : α) (r : List α) : atI (x :: y :: r) 1 = some y := by
  unfold atI ixN
  rw [if_pos (by decide), if_pos (by simp only [List.length_cons]; omega)]
  rfl
theorem sc_RowCheck_id_fits : FnScope ["self", "row"] ["self", "row"] (defScope s_RowCheck_id_fits) := ⟨rfl, rfl, rfl, by decide +kernel, rfl, by decide +kernel, by decide +kernel⟩
theorem ok_id_fits {f : Addr} {fd : FuncData} (F : Fun K "id_fits" "RowCheck.id_fits" s_RowCheck_id_fits f fd) : FnOk P w K mg base CX0 1 f fd ["self", "row"] (spID K) := by
  refine F.ok sc_RowCheck_id_fits (fun vs H Q E h => ?_) (fun cdv A outer s H vs Q E hr h => ?_)
  · obtain ⟨A, E, c, t, kind, parts, rfl, _⟩ := h
    rfl
  · obtain ⟨R, E0, c, t, kind, parts, rfl, O, rc, hd, hp, k⟩ := h
    have hu := hu_of hr
    cases hd with
    | @tup _ xs _ hq ha =>
    cases ha with
    | @cons v0 _ vr _ h0 hr0 =>
    cases h0 with
    | str kind =>
    unfold idFits at k
    refine ⟨_, (pss_cons (ps_if (pt_cmpR op_eq (pe_ix ix_tup (pv 1) pe_int (fun _ _ => rfl)) pe_str (nomark _)) (pss_one (ps_ret (pe_and (pe_cmp (pc_dnotin hu (pe_ix ix_tup (pv 1) pe_int (fun _ _ => rfl)) (pe_fld (pv 0) rfl))) (pe_one (pe_cmp (pc_dnotin hu (pe_ix ix_tup (pv 1) pe_int (fun _ _ => rfl)) (pe_fld (pv 0) rfl))))))) pss_nil)
      (pss_cons (ps_if (pt_cmpR op_in_seq (pe_ix ix_tup (pv 1) pe_int (fun _ _ => rfl)) (pe_tup (pa_cons pe_str (pa_cons pe_str pa_nil))) (by rfl)) (pss_one (ps_ret (pe_cmp (pc_dnotin hu (pe_ix ix_tup (pv 1) pe_int (fun _ _ => rfl)) (pe_fld (pv 0) rfl))))) pss_nil)
      (pss_one (ps_ret pe_bl)))), ?_⟩
    refine ⟨_, rfl, t, _, 0, _, rfl, rfl, hq, atI_zero _ _, rfl, _, rfl, ?_⟩
    rw [dec_strV]
    by_cases e1 : kind = "edit"
    · obtain ⟨x, r, rfl⟩ := hp (.inl e1)
      cases hr0 with
      | @cons v1 _ vr _ h1 _ =>
      cases h1 with
      | str x =>
      rw [if_pos e1] at k
      refine ifT (decide_eq_true e1) ?_
      refine ⟨_, rfl, t, _, 1, _, rfl, rfl, hq, atI_one _ _ _, _, rfl, _, _, _, _, _, rfl, O.ob, rc.cls, rc.n8, rfl, _, _, rfl, dget_known O.de, _, rfl, ?_⟩
      rw [valV_dkT]
      by_cases q : x ∈ c.edits
      · rw [decide_eq_true q]
        refine ifF rfl ?_
        have := k H (Same.refl H)
        rw [show (PyData.str x :: r).headD PyData.none = .str x from rfl] at this
        rw [show strOf (.str x) = x from rfl, decide_eq_true q] at this
        exact this
      · rw [decide_eq_false q]
        refine ifT rfl ?_
        refine ⟨_, rfl, t, _, 1, _, rfl, rfl, hq, atI_one _ _ _, _, rfl, _, _, _, _, _, rfl, O.ob, rc.cls, rc.n7, rfl, _, _, rfl, dget_known O.dg, ?_⟩
        rw [valV_dkT]
        have := k H (Same.refl H)
        rw [show (PyData.str x :: r).headD PyData.none = .str x from rfl] at this
        rw [show strOf (.str x) = x from rfl, decide_eq_false q] at this
        exact this
    · rw [if_neg e1] at k
      refine ifF (decide_eq_false e1) ?_
      refine ⟨_, rfl, t, _, 0, _, rfl, rfl, hq, atI_zero _ _, sz_lit (by decide), fun p hp0 => ⟨p, _, rfl, .inr (.inl (.inl upd_same)), rfl, rfl, _, rfl, ?_⟩⟩
      rw [inV2]
      have sm : Same H (upd H p (.tup [.str "gate", .str "past"])) := Same.new hp0
      by_cases e2 : kind = "gate" ∨ kind = "past"
      · rw [if_pos e2] at k
        refine ifT (decide_eq_true e2) ?_
        obtain ⟨x, r, rfl⟩ := hp (.inr e2)
        cases hr0 with
        | @cons v1 _ vr _ h1 _ =>
        cases h1 with
        | str x =>
        refine ⟨_, rfl, t, _, 1, _, rfl, rfl, hq.mono sm, atI_one _ _ _, _, rfl, _, _, _, _, _, rfl, sm _ _ O.ob, rc.cls, rc.n8, rfl, _, _, rfl, dget_known (sm _ _ O.de), ?_⟩
        rw [valV_dkT]
        exact k _ sm
      · rw [if_neg e2] at k
        refine ifF (decide_eq_false e2) ?_
        exact k _ sm
end
end Op
namespace Op
open PySem L2 PyProof.Rows
def colPart (kind : Str) (c : Chk) (code : Str) (d : PyData) : Chk :=
  if code = "l" then { c with labels := putW c.labels (strOf d) }
  else if code = "m" then { c with labels := (match d with | .tuple ds => (ds.map strOf).foldl putW c.labels | _ => c.labels) }
  else if (code = "s" ∨ code = "r") ∧ ¬ strOf d = "in" then { c with slots := putW c.slots (strOf d) }
  else if code = "i" ∧ kind = "edit" then { c with edits := putW c.edits (strOf d) }
  else if code = "i" then { c with gates := putW c.gates (strOf d) }
  else c
def collect (c : Chk) (kind sh : Str) (parts : List PyData) : Chk := (sh.cps.toList.zip parts).foldl (fun c p => colPart kind c ⟨#[p.1]⟩ p.2) c
def colN (c : Chk) (kind sh : Str) (parts : List PyData) (i : Nat) : Chk := ((sh.cps.toList.zip parts).take i).foldl (fun c p => colPart kind c ⟨#[p.1]⟩ p.2) c
theorem colN_zero (c : Chk) (kind sh : Str) (parts : List PyData) : colN c kind sh parts 0 = c := rfl
theorem colN_all {c : Chk} {kind sh : Str} {parts : List PyData} (h : sh.cps.size = parts.length) : colN c kind sh parts parts.length = collect c kind sh parts := by
  unfold colN collect
  rw [List.take_of_length_le (by rw [List.length_zip, Array.length_toList]; omega)]
theorem colN_succ {c : Chk} {kind sh : Str} {parts : List PyData} {i ch : Nat} {d : PyData} (h1 : sh.cps[i]? = some ch) (h2 : parts[i]? = some d) : colN c kind sh parts (i + 1) = colPart kind (colN c kind sh parts i) ⟨#[ch]⟩ d := by
  unfold colN
  have h : (sh.cps.toList.zip parts)[i]? = some (ch, d) := by
    rw [List.getElem?_zip_eq_some]
    exact ⟨by rw [Array.getElem?_toList]; exact h1, h2⟩
  rw [TS.take_one h, List.foldl_append]
  rfl
/-- sizes of what was collected -/
def Cap (c : Chk) (n : Nat) : Prop := c.labels.length ≤ n ∧ c.slots.length ≤ n ∧ c.gates.length ≤ n ∧ c.edits.length ≤ n
theorem Cap.mono {c : Chk} {m n : Nat} (h : Cap c m) (e : m ≤ n) : Cap c n := ⟨by have := h.1; omega, by have := h.2.1; omega, by have := h.2.2.1; omega, by have := h.2.2.2; omega⟩
theorem foldW_len : ∀ (ys xs : List Str), (ys.foldl putW xs).length ≤ xs.length + ys.length
  | [], xs => Nat.le_refl _
  | y :: r, xs => by
    have := foldW_len r (putW xs y)
    have := putW_len xs y
    show (r.foldl putW (putW xs y)).length ≤ _
    rw [List.length_cons]
    omega
section
variable {E : Env0} {d : PyData}
theorem pf_word {x : Str} (h : partFits E x d = true) (n : ¬ (x = "m" ∨ x = "v") ∧ ¬ x = "b" ∧ ¬ x = "t") : isWord d = true := by
  unfold partFits at h
  rw [if_neg n.1, if_neg n.2.1, if_neg n.2.2] at h
  split at h
  · exact (Bool.and_eq_true_iff.mp h).1
  · split at h
    · exact (Bool.and_eq_true_iff.mp h).1
    · split at h
      · exact (Bool.and_eq_true_iff.mp h).1
      · exact h
theorem pf_m (h : partFits E "m" d = true) : areWords 3 d = true := h
theorem aw_tup {m : Int} (h : areWords m d = true) : ∃ zs : List Str, d = .tuple (zs.map PyData.str) ∧ (zs.length : Int) ≤ m ∧ (∀ z ∈ zs, isWordS z = true) ∧ zs.Nodup ∧ 1 ≤ zs.length := by
  cases d with
  | tuple ds =>
    obtain ⟨h1, h2⟩ := Bool.and_eq_true_iff.mp h
    obtain ⟨h3, h4⟩ := Bool.and_eq_true_iff.mp h2
    have h1 := of_decide_eq_true h1
    have h4 := of_decide_eq_true h4
    have key : ∀ ds : List PyData, ds.all isWord = true → ∃ zs : List Str, ds = zs.map PyData.str ∧ ∀ z ∈ zs, isWordS z = true := by
      intro ds
      induction ds with
      | nil => exact fun _ => ⟨[], rfl, fun _ h => by cases h⟩
      | cons d r ih =>
        intro h
        obtain ⟨a, b⟩ := Bool.and_eq_true_iff.mp h
        obtain ⟨zs, e, p⟩ := ih b
        cases d with
        | str x => exact ⟨x :: zs, by rw [e]; rfl, fun z hz => by
            rcases List.mem_cons.mp hz with rfl | hz
            · exact a
            · exact p z hz⟩
        | _ => cases a
    obtain ⟨zs, rfl, p⟩ := key ds h3
    have e1 : (zs.map PyData.str).map strOf = zs := by
      rw [List.map_map]
      have : (strOf ∘ PyData.str) = id := by funext z; rfl
      rw [this, List.map_id]
    rw [e1] at h4
    rw [List.length_map] at h1
    exact ⟨zs, rfl, h1.2, p, h4, h1.1⟩
  | _ => cases h
end
theorem map_strOf (zs : List Str) : (zs.map PyData.str).map strOf = zs := by
  rw [List.map_map]
  have : (strOf ∘ PyData.str) = id := by funext z; rfl
  rw [this, List.map_id]
/-- the names of the module that the check reads -/
structure TxtC (P : Program) (w : World) (K : PySem.W.Frag) (mg : Str → Option Value) (pS CI : Addr) : Prop extends Txt mg where
  g_SHAPES : mg "SHAPES" = some (.ref pS)
  w_SHAPES : WTab K w pS (shapes.map fun p => (p.1, .str p.2))
  g_MOST_ROWS : ∃ t, mg "MOST_ROWS" = some (.int 60 t)
  g_MOST_LABELS : ∃ t, mg "MOST_LABELS" = some (.int 6 t)
  g_MOST_SLOTS : ∃ t, mg "MOST_SLOTS" = some (.int 4 t)
  g_MOST_GATES : ∃ t, mg "MOST_GATES" = some (.int 8 t)
  g_MOST_EDITS : ∃ t, mg "MOST_EDITS" = some (.int 4 t)
  g_DEEPEST : ∃ t, mg "DEEPEST" = some (.int 5 t)
  g_InvalidProgram : mg "InvalidProgram" = some (.ref CI)
  k_InvalidProgram : PySem.W.keepIn K (.ref CI) = true
  mk_InvalidProgram : XMk P w K CI 2 [] (fun vs _ => [("path", vs.getD 1 .non), ("part", vs.getD 0 .non)])
  r_InvalidProgram : ∀ (M : Model) (h : Heap), K.In h → PySem.W.Looks M h (isSubtype (.ref CI) (.type "BaseException")) true ∧ PySem.W.Looks M h (typeOf (.ref CI)) (.type "type")
theorem shapes_look (x : Str) : (shapes.map fun p => (p.1, V.str p.2)).lookup x = (shapes.lookup x).map V.str := by
  generalize shapes = l
  induction l with
  | nil => rfl
  | cons p r ih =>
    obtain ⟨a, b⟩ := p
    simp only [List.map_cons, List.lookup_cons]
    cases x == a with
    | true => rfl
    | false => exact ih
theorem lt_sz {n : Nat} (h : n < 100000) : n < sizeLine := Nat.lt_of_lt_of_le h (sz_lit (Nat.le_refl _))
theorem cut1 (v : V) (r : List V) : cutV (v :: r) (some 1) none = r := by
  unfold cutV
  rw [HT.sIx_none, show (1 : Int) = ((1 : Nat) : Int) from rfl, HT.sIx_nat, List.length_cons, show min 1 (r.length + 1) = 1 by omega]
  show r.take (r.length + 1 - 1) = r
  rw [List.take_of_length_le (by omega)]
theorem cut1n (v : V) (r : List V) : ¬ (HT.sIx (v :: r).length 0 (some 1) = 0 ∧ HT.sIx (v :: r).length (v :: r).length none = (v :: r).length) := by
  rw [show (1 : Int) = ((1 : Nat) : Int) from rfl, HT.sIx_nat, List.length_cons]
  omega
section
variable {P : Program} {w : World} {K : PySem.W.Frag} {mg : Str → Option Value} {base : Heap} {pS CI : Addr}
def Fitted (E : Env0) (sh : Str) (parts : List PyData) : Prop := sh.cps.size = parts.length ∧ ∀ (i ch : Nat) (d : PyData), sh.cps[i]? = some ch → parts[i]? = some d → partFits E ⟨#[ch]⟩ d = true
def spCol (K : PySem.W.Frag) : Sp := fun vs H Q _ => ∃ (A : RcA) (E : Env0) (c : Chk) (t : Addr) (kind sh : Str) (parts : List PyData), vs = [.ref A.a, .ref t] ∧ RC H A E c ∧ RcC K A.C ∧ Dp K H (.ref t) (.tuple (.str kind :: parts)) ∧
  shapes.lookup kind = some sh ∧ Fitted E sh parts ∧ parts.length ≤ 100 ∧ Cap c 90000 ∧ ∀ H', Fr A.L H H' → RC H' A E (collect c kind sh parts) → Q .non H'
theorem sc_RowCheck_collect : FnScope ["self", "row", "code", "part", "label"] ["self", "row"] (defScope s_RowCheck_collect) := ⟨rfl, rfl, rfl, by decide +kernel, rfl, by decide +kernel, by decide +kernel⟩
theorem ok_collect {f : Addr} {fd : FuncData} (F : Fun K "collect" "RowCheck.collect" s_RowCheck_collect f fd) (T : TxtC P w K mg pS CI) : FnOk P w K mg base CX0 1 f fd ["self", "row"] (spCol K) := by
  refine F.ok sc_RowCheck_collect (fun vs H Q E h => ?_) (fun cdv A outer s H vs Q E hr h => ?_)
  · obtain ⟨A, E, c, t, kind, sh, parts, rfl, _⟩ := h
    rfl
  · obtain ⟨R, E0, c, t, kind, sh, parts, rfl, O, rc, hd, hsh, ⟨hlen, hfit⟩, hpl, hcap, k⟩ := h
    have hu := hu_of hr
    cases hd with
    | @tup _ xs _ hq ha =>
    cases ha with
    | @cons v0 vr d0 dr h0 hr0 =>
    cases h0 with
    | str kind =>
    have hvl := hr0.len
    refine ⟨_, (pss_one (ps_for PassesOwn.never rfl (pi_zipS (by rfl) T.b_zip (pa_cons (pe_ix ix_wtab (pe_gref rfl T.g_SHAPES) (pe_ix ix_tup (pv 1) pe_int (fun _ _ => rfl)) (fun _ _ => rfl)) (pa_cons (pe_slice sl_tupA (pv 1) (po_some pe_int) po_none) pa_nil))) (pg_tup rfl (pgs_cons (pg_name (i := 2) sc_RowCheck_collect.nd rfl (.inl rfl)) (pgs_cons (pg_name (i := 3) sc_RowCheck_collect.nd rfl (.inl rfl)) pgs_nil))) (pss_one (ps_if (pt_cmpR op_eq (pv 2) pe_str (nomark _)) (pss_one (ps_dput hu (pe_fld (pv 0) rfl) (pv 3) pe_bl rfl)) (pss_one (ps_if (pt_cmpR op_eq (pv 2) pe_str (nomark _)) (pss_one (ps_for PassesOwn.never rfl (pi_tup (pv 3)) (pg_name (i := 4) sc_RowCheck_collect.nd rfl (.inl rfl)) (pss_one (ps_dput hu (pe_fld (pv 0) rfl) (pv 4) pe_bl rfl)))) (pss_one (ps_if (PW.pt (pw_and (pt_cmpR op_in_seq (pv 2) (pe_tup (pa_cons pe_str (pa_cons pe_str pa_nil))) (by rfl)) (pw_and1 (pt_cmpR op_ne (pv 3) pe_str (nomark _))))) (pss_one (ps_dput hu (pe_fld (pv 0) rfl) (pv 3) pe_bl rfl)) (pss_one (ps_if (PW.pt (pw_and (pt_cmpR op_eq (pv 2) pe_str (nomark _)) (pw_and1 (pt_cmpR op_eq (pe_ix ix_tup (pv 1) pe_int (fun _ _ => rfl)) pe_str (nomark _))))) (pss_one (ps_dput hu (pe_fld (pv 0) rfl) (pv 3) pe_bl rfl)) (pss_one (ps_if (pt_cmpR op_eq (pv 2) pe_str (nomark _)) (pss_one (ps_dput hu (pe_fld (pv 0) rfl) (pv 3) pe_bl rfl)) pss_nil)))))))))))), ?_⟩
    refine ⟨_, rfl, t, _, 0, _, rfl, rfl, hq, atI_zero _ _, pS, kind, _, .str sh, rfl, rfl, T.w_SHAPES, by rw [shapes_look, hsh]; rfl, ?_⟩
    refine ⟨_, rfl, 1, rfl, t, _, rfl, hq, fun z => absurd z (cut1n _ _), fun _ p hp => ?_⟩
    rw [cut1]
    have sm : Same H (upd H p (.tup vr)) := Same.new hp
    refine ⟨sh, p, vr, rfl, .inl (.inl upd_same), ?_⟩
    refine for_zipS (by omega) (fun i σ H' => (∃ y2 y3 y4 : Option V, σ = [some (.ref R.a), some (.ref t), y2, y3, y4]) ∧ RC H' R E0 (colN c kind sh parts i) ∧ Fr R.L (upd H p (.tup vr)) H' ∧ Cap (colN c kind sh parts i) (90000 + 3 * i)) ⟨⟨_, _, _, rfl⟩, O.mono sm, Fr.refl, hcap⟩ (fun i σ H' q => SqT.kp (.inl (.inl upd_same)) ((O.mono sm).kp q.2.2.1)) ?_ ?_
    · rintro i ch y T0 σ H' h1 h2 ⟨⟨y2, y3, y4, rfl⟩, O1, fr1, cap1⟩ hT0
      obtain ⟨d, h3, hdy⟩ := hr0.get h2
      have hf := hfit i ch d h1 h3
      have hi : i < 100 := by
        have := (List.getElem?_eq_some_iff.mp h3).1
        omega
      have hdy1 : Dp K H' y d := hdy.kp (sm.kp.trans ((O.mono sm).kp fr1))
      refine ⟨T0, _, rfl, .inl (.inl upd_same), rfl, ?_⟩
      have sm1 : Same H' (upd H' T0 (.tup [.str ⟨#[ch]⟩, y])) := Same.new hT0
      have O2 := O1.mono sm1
      have fr2 : Fr R.L (upd H p (.tup vr)) (upd H' T0 (.tup [.str ⟨#[ch]⟩, y])) := fr1.trans sm1.fr
      have hdy2 : Dp K (upd H' T0 (.tup [.str ⟨#[ch]⟩, y])) y d := hdy1.kp sm1.kp
      rw [colN_succ h1 h3]
      revert O2 fr2 hdy2
      generalize upd H' T0 (.tup [.str ⟨#[ch]⟩, y]) = H2
      generalize colN c kind sh parts i = c1 at *
      intro O2 fr2 hdy2
      generalize (⟨#[ch]⟩ : Str) = x at *
      refine ⟨_, _, rfl, _, _, rfl, rfl, _, rfl, rfl, _, rfl, ?_⟩
      rw [dec_strV]
      have word : ¬ (x = "m" ∨ x = "v") ∧ ¬ x = "b" ∧ ¬ x = "t" → y = .str (strOf d) := fun n => mono_str hdy2 (pf_word hf n)
      have cl : c1.labels.length < sizeLine := Nat.lt_of_le_of_lt cap1.1 (lt_sz (by omega))
      have cs : c1.slots.length < sizeLine := Nat.lt_of_le_of_lt cap1.2.1 (lt_sz (by omega))
      have cg : c1.gates.length < sizeLine := Nat.lt_of_le_of_lt cap1.2.2.1 (lt_sz (by omega))
      have ce : c1.edits.length < sizeLine := Nat.lt_of_le_of_lt cap1.2.2.2 (lt_sz (by omega))
      have cap2 : Cap c1 (90000 + 3 * (i + 1)) := cap1.mono (by omega)
      unfold colPart
      by_cases e1 : x = "l"
      · obtain rfl := word (by rw [e1]; decide +kernel)
        rw [if_pos e1]
        refine ifT (decide_eq_true e1) ?_
        refine ⟨_, rfl, _, _, _, _, _, rfl, O2.ob, rc.cls, rc.n5, rfl, _, rfl, _, _, rfl, dput_w O2.dl cl, ⟨_, _, _, rfl⟩, O2.put_l _, fr2.upd (by simp [RcA.L]), ?_, cap2.2⟩
        have := putW_len c1.labels (strOf d)
        have := cap1.1
        show (putW c1.labels (strOf d)).length ≤ _
        omega
      · rw [if_neg e1]
        refine ifF (decide_eq_false e1) ⟨_, rfl, rfl, _, rfl, ?_⟩
        rw [dec_strV]
        by_cases e2 : x = "m"
        · rw [if_pos e2]
          refine ifT (decide_eq_true e2) ?_
          obtain ⟨zs, rfl, hz3, _⟩ := aw_tup (pf_m (by rw [← e2]; exact hf))
          cases hdy2 with
          | @tup q ws _ hws haw =>
          obtain ⟨zs', ez, rfl⟩ := strs_of (by
            have := pf_m (d := .tuple (zs.map PyData.str)) (by rw [← e2]; exact hf)
            exact (Bool.and_eq_true_iff.mp (Bool.and_eq_true_iff.mp this).2).1) haw
          obtain rfl : zs = zs' := by
            have := congrArg (List.map strOf) ez
            rw [map_strOf, map_strOf] at this
            exact this
          refine ⟨_, rfl, q, rfl, ⟨_, hws⟩, for_it walk_tup (fun j σ H3 => (∃ y4 : Option V, σ = [some (.ref R.a), some (.ref t), some (.str x), some (.ref q), y4]) ∧ RC H3 R E0 { c1 with labels := (zs.take j).foldl putW c1.labels } ∧ Fr R.L H2 H3) ⟨⟨_, rfl⟩, O2, Fr.refl⟩ (fun j σ H3 _ p => hws.kp (O2.kp p.2.2)) ?_ ?_⟩
          · rintro j v σ H3 H4 hj ⟨⟨y4', rfl⟩, O3, fr3⟩ ⟨rfl, hv⟩
            have hj' : j < zs.length := by rw [List.length_map] at hj; exact hj
            have hz : zs[j]? = some zs[j] := List.getElem?_eq_getElem hj'
            obtain rfl : v = .str zs[j] := by
              rw [List.getElem?_map, hz] at hv
              exact (Option.some.inj hv).symm
            have hl3 : ((zs.take j).foldl putW c1.labels).length < sizeLine := by
              have h1 := foldW_len (zs.take j) c1.labels
              have h2 : (zs.take j).length ≤ 3 := by rw [List.length_take]; omega
              have := cap1.1
              exact Nat.lt_of_le_of_lt h1 (lt_sz (by omega))
            refine ⟨_, rfl, _, _, _, _, _, rfl, O3.ob, rc.cls, rc.n5, rfl, _, rfl, _, _, rfl, dput_w O3.dl hl3, ⟨_, rfl⟩, ?_, fr3.upd (by simp [RcA.L])⟩
            have e := O3.put_l zs[j]
            rw [TS.take_one hz, List.foldl_append]
            exact e
          · rintro σ H3 ⟨⟨y4', rfl⟩, O3, fr3⟩
            rw [List.length_map, List.take_length] at O3
            refine ⟨⟨_, _, _, rfl⟩, ?_, fr2.trans fr3, ?_, cap2.2⟩
            · show RC H3 R E0 { c1 with labels := ((zs.map PyData.str).map strOf).foldl putW c1.labels }
              rw [map_strOf]
              exact O3
            · show (((zs.map PyData.str).map strOf).foldl putW c1.labels).length ≤ _
              rw [map_strOf]
              have := foldW_len zs c1.labels
              have := cap1.1
              omega
        · rw [if_neg e2]
          refine ifF (decide_eq_false e2) ?_
          refine ⟨_, rfl, sz_lit (by decide), fun p1 hp1 => ⟨p1, _, rfl, .inr (.inl (.inl upd_same)), rfl, rfl, _, rfl, ?_⟩⟩
          rw [inV2]
          have sm3 : Same H2 (upd H2 p1 (.tup [.str "s", .str "r"])) := Same.new hp1
          have O3 := O2.mono sm3
          have fr3 := fr2.trans (sm3.fr (L := R.L))
          have hq3 : SqT K (upd H2 p1 (.tup [.str "s", .str "r"])) t (.str kind :: vr) := hq.kp (sm.kp.trans ((O.mono sm).kp fr3))
          revert O3 fr3 hq3
          generalize upd H2 p1 (.tup [.str "s", .str "r"]) = H3
          intro O3 fr3 hq3
          by_cases e3 : x = "s" ∨ x = "r"
          · refine ifT (decide_eq_true e3) ?_
            obtain rfl := word (by rcases e3 with e | e <;> (rw [e]; decide +kernel))
            refine ⟨_, rfl, rfl, _, rfl, ?_⟩
            rw [dec_strV]
            by_cases e4 : strOf d = "in"
            · rw [if_neg (fun h => h.2 e4), if_neg (by rcases e3 with e | e <;> (rw [e]; intro h; exact absurd h.1 (by decide +kernel))), if_neg (by rcases e3 with e | e <;> (rw [e]; decide +kernel))]
              refine ifF (by rw [decide_eq_true e4]; rfl) ?_
              refine ⟨_, rfl, rfl, _, rfl, ?_⟩
              rw [dec_strV]
              refine ifF (decide_eq_false (by rcases e3 with e | e <;> (rw [e]; decide +kernel))) ?_
              refine ifF rfl ⟨_, rfl, rfl, _, rfl, ?_⟩
              rw [dec_strV]
              exact ifF (decide_eq_false (by rcases e3 with e | e <;> (rw [e]; decide +kernel))) ⟨⟨_, _, _, rfl⟩, O3, fr3, cap2⟩
            · rw [if_pos ⟨e3, e4⟩]
              refine ifT (by rw [decide_eq_false e4]; rfl) ?_
              refine ⟨_, rfl, _, _, _, _, _, rfl, O3.ob, rc.cls, rc.n6, rfl, _, rfl, _, _, rfl, dput_w O3.ds cs, ⟨_, _, _, rfl⟩, O3.put_s _, fr3.upd (by simp [RcA.L]), cap2.1, ?_, cap2.2.2⟩
              have := putW_len c1.slots (strOf d)
              have := cap1.2.1
              show (putW c1.slots (strOf d)).length ≤ _
              omega
          · rw [if_neg (fun h => e3 h.1)]
            refine ifF (decide_eq_false e3) (ifF rfl ⟨_, rfl, rfl, _, rfl, ?_⟩)
            rw [dec_strV]
            by_cases e5 : x = "i"
            · obtain rfl := word (by rw [e5]; decide +kernel)
              refine ifT (decide_eq_true e5) ⟨_, rfl, t, _, 0, _, rfl, rfl, hq3, atI_zero _ _, rfl, _, rfl, ?_⟩
              rw [dec_strV]
              by_cases e6 : kind = "edit"
              · rw [if_pos ⟨e5, e6⟩]
                refine ifT (decide_eq_true e6) ?_
                refine ⟨_, rfl, _, _, _, _, _, rfl, O3.ob, rc.cls, rc.n8, rfl, _, rfl, _, _, rfl, dput_w O3.de ce, ⟨_, _, _, rfl⟩, O3.put_e _, fr3.upd (by simp [RcA.L]), cap2.1, cap2.2.1, cap2.2.2.1, ?_⟩
                have := putW_len c1.edits (strOf d)
                have := cap1.2.2.2
                show (putW c1.edits (strOf d)).length ≤ _
                omega
              · rw [if_neg (fun h => e6 h.2), if_pos e5]
                refine ifF (decide_eq_false e6) ⟨_, rfl, rfl, _, rfl, ?_⟩
                rw [dec_strV]
                refine ifT (decide_eq_true e5) ?_
                refine ⟨_, rfl, _, _, _, _, _, rfl, O3.ob, rc.cls, rc.n7, rfl, _, rfl, _, _, rfl, dput_w O3.dg cg, ⟨_, _, _, rfl⟩, O3.put_g _, fr3.upd (by simp [RcA.L]), cap2.1, cap2.2.1, ?_, cap2.2.2.2⟩
                have := putW_len c1.gates (strOf d)
                have := cap1.2.2.1
                show (putW c1.gates (strOf d)).length ≤ _
                omega
            · rw [if_neg (fun h => e5 h.1), if_neg e5]
              refine ifF (decide_eq_false e5) (ifF rfl ⟨_, rfl, rfl, _, rfl, ?_⟩)
              rw [dec_strV]
              exact ifF (decide_eq_false e5) ⟨⟨_, _, _, rfl⟩, O3, fr3, cap2⟩
    · rintro σ H' ⟨_, O1, fr1, _⟩
      rw [hvl, colN_all hlen] at O1
      exact k _ (sm.fr.trans fr1) O1
end
end Op
namespace Op
open PySem L2 PyProof.Rows
theorem wt_tuple (xs : List PyData) : wt (.tuple xs) = 1 + wts xs := by rw [wt]
theorem wt_list (xs : List PyData) : wt (.list xs) = 1 + wts xs := by rw [wt]
theorem wts_cons (x : PyData) (r : List PyData) : wts (x :: r) = wt x + wts r := by rw [wts]
theorem wts_nil : wts [] = 0 := by rw [wts]
def fitAll (E : Env0) (sh : Str) (parts : List PyData) : Bool := (sh.cps.toList.zip parts).all fun p => partFits E ⟨#[p.1]⟩ p.2
/-- does a text have the sign -/
def hasC (c : Nat) (sh : Str) : Bool := decide (c ∈ sh.cps.toList)
def fitRow (E : Env0) (c : Chk) (kind : Str) (parts : List PyData) (depth : Int) (lp : Bool) (sh : Str) : Bool :=
  if kind = "edit" ∧ E.we = false then false
  else if kind = "leave" ∧ lp = false then false
  else if ¬ parts.length = sh.length then false
  else if (hasC 98 sh || hasC 116 sh) = true ∧ 5 ≤ depth then false
  else if fitAll E sh parts = true then idFits c kind parts else false
def fits (E : Env0) (c : Chk) (d : PyData) (depth : Int) (lp : Bool) : Bool :=
  match d with
  | .tuple (.str kind :: parts) => match shapes.lookup kind with
    | none => false
    | some sh => fitRow E c kind parts depth lp sh
  | _ => false
theorem fitAll_iff {E : Env0} {sh : Str} {parts : List PyData} (hl : sh.cps.size = parts.length) : fitAll E sh parts = true ↔ Fitted E sh parts := by
  unfold fitAll Fitted
  rw [List.all_eq_true]
  constructor
  · intro h
    refine ⟨hl, fun i ch d h1 h2 => h (ch, d) ?_⟩
    refine List.mem_of_getElem? (i := i) ?_
    rw [List.getElem?_zip_eq_some]
    exact ⟨by rw [Array.getElem?_toList]; exact h1, h2⟩
  · rintro ⟨_, h⟩ ⟨ch, d⟩ hm
    obtain ⟨i, hi⟩ := List.getElem?_of_mem hm
    rw [List.getElem?_zip_eq_some] at hi
    exact h i ch d (by rw [← Array.getElem?_toList]; exact hi.1) hi.2
theorem ids_word {E : Env0} {kind sh : Str} {parts : List PyData} (hs : shapes.lookup kind = some sh) (h : Fitted E sh parts) (hk : kind = "edit" ∨ kind = "gate" ∨ kind = "past") : ∃ x r, parts = .str x :: r := by
  have key : ∀ sh : Str, sh.cps[0]? = some 105 → Fitted E sh parts → ∃ x r, parts = .str x :: r := by
    intro sh h0 ⟨hl, hf⟩
    cases parts with
    | nil =>
      have := (Array.getElem?_eq_some_iff.mp h0).1
      rw [hl] at this
      cases this
    | cons d r =>
      have := pf_word (hf 0 105 d h0 rfl) (by decide +kernel)
      cases d with
      | str x => exact ⟨x, r, rfl⟩
      | _ => cases this
  rcases hk with rfl | rfl | rfl
  · obtain rfl : sh = "ibb" := (Option.some.inj (hs.symm.trans (by decide +kernel : shapes.lookup ("edit" : Str) = some "ibb")))
    exact key _ (by decide +kernel) h
  · obtain rfl : sh = "ibb" := (Option.some.inj (hs.symm.trans (by decide +kernel : shapes.lookup ("gate" : Str) = some "ibb")))
    exact key _ (by decide +kernel) h
  · obtain rfl : sh = "ib" := (Option.some.inj (hs.symm.trans (by decide +kernel : shapes.lookup ("past" : Str) = some "ib")))
    exact key _ (by decide +kernel) h
theorem andNo {p : Prop} [Decidable p] {A N : Prop} (h : p → N → A) (n : N) : if decide p = true then A else N := by
  by_cases q : p
  · rw [decide_eq_true q]; exact h q n
  · rw [decide_eq_false q]; exact n
theorem orNo {p : Prop} [Decidable p] {A B N : Prop} (ha : p → N → A) (hb : ¬ p → N → B) (n : N) : if decide p = true then A else B := by
  by_cases q : p
  · rw [decide_eq_true q]; exact ha q n
  · rw [decide_eq_false q]; exact hb q n
section
variable {P : Program} {w : World} {K : PySem.W.Frag} {mg : Str → Option Value} {base : Heap} {pS CI C : Addr}
def spFits (K : PySem.W.Frag) (C : Addr) : Sp := fun vs H Q _ => ∃ (A : RcA) (E : Env0) (c : Chk) (v : V) (d : PyData) (depth : Int) (lp : Bool), vs = [.ref A.a, v, .int depth, .bl lp] ∧ A.C = C ∧ RC H A E c ∧ Dp K H v d ∧ wt d ≤ 100000 ∧
  ∀ H', Same H H' → Q (.bl (fits E c d depth lp)) H'
theorem shapes_len : ∀ {kind sh : Str}, shapes.lookup kind = some sh → sh.length ≤ 4 := by
  have key : ∀ (l : List (Str × Str)) (kind sh : Str), l.all (fun p => decide (p.2.length ≤ 4)) = true → l.lookup kind = some sh → sh.length ≤ 4 := by
    intro l
    induction l with
    | nil => intro kind sh _ h; cases h
    | cons p r ih =>
      intro kind sh ha h
      obtain ⟨a, b⟩ := p
      obtain ⟨h1, h2⟩ := Bool.and_eq_true_iff.mp ha
      rw [List.lookup_cons] at h
      cases q : kind == a with
      | true =>
        rw [q] at h
        obtain rfl := Option.some.inj h
        exact of_decide_eq_true h1
      | false =>
        rw [q] at h
        exact ih kind sh h2 h
  intro kind sh h
  exact key shapes kind sh (by decide +kernel) h
theorem sc_RowCheck_fits : FnScope ["self", "row", "depth", "in_loop", "kind", "shape", "code", "part"] ["self", "row", "depth", "in_loop"] (defScope s_RowCheck_fits) := ⟨rfl, rfl, rfl, by decide +kernel, rfl, by decide +kernel, by decide +kernel⟩
theorem ok_fits {f : Addr} {fd : FuncData} (F : Fun K "fits" "RowCheck.fits" s_RowCheck_fits f fd) (T : TxtC P w K mg pS CI) (rc : RcC K C) (m_part_fits : Mcal P w K mg base CX0 3 C "part_fits" ["self", "code", "part"] (spPF K)) (m_id_fits : Mcal P w K mg base CX0 1 C "id_fits" ["self", "row"] (spID K)) :
    FnOk P w K mg base CX0 4 f fd ["self", "row", "depth", "in_loop"] (spFits K C) := by
  refine F.ok sc_RowCheck_fits (fun vs H Q E h => ?_) (fun cdv A outer s H vs Q E hr h => ?_)
  · obtain ⟨A, E, c, v, d, depth, lp, rfl, _⟩ := h
    rfl
  · obtain ⟨R, E0, c, v, d, depth, lp, rfl, hC, O, hd, hw, k⟩ := h
    have hu := hu_of hr
    have c_RowCheck := rc.cls
    refine ⟨_, (pss_cons (ps_if (PW.pt (pw_or (pt_not (pt_val (pe_callB call_isi (by rfl) T.b_isinstance (by decide +kernel) (pa_cons (pv 1) (pa_cons (pe_bltn (v := .ty "tuple") (by rfl) T.b_tuple (by decide +kernel) rfl) pa_nil))))) (pw_or (pt_cmpR op_eq (pe_callB call_len_seq (by rfl) T.b_len (by decide +kernel) (pa_cons (pv 1) pa_nil)) pe_int (nomark _)) (pw_or1 (pt_not (pt_val (pe_callB call_isi (by rfl) T.b_isinstance (by decide +kernel) (pa_cons (pe_ix ix_tup (pv 1) pe_int (fun _ _ => rfl)) (pa_cons (pe_bltn (v := .ty "str") (by rfl) T.b_str (by decide +kernel) rfl) pa_nil))))))))) (pss_one (ps_ret pe_bl)) pss_nil)
      (pss_cons (ps_set (i := 4) sc_RowCheck_fits.nd rfl (.inl rfl) (pe_ix ix_tup (pv 1) pe_int (fun _ _ => rfl)))
      (pss_cons (ps_if (PW.pt (pw_or (pt_cmpR op_notIn_wtab (pv 4) (pe_gref rfl T.g_SHAPES) (by rfl)) (pw_or1 (PW.pt (pw_and (pt_cmpR op_eq (pv 4) pe_str (nomark _)) (pw_and1 (pt_not (pt_val (pe_fld (pv 0) rfl))))))))) (pss_one (ps_ret pe_bl)) pss_nil)
      (pss_cons (ps_if (PW.pt (pw_and (pt_cmpR op_eq (pv 4) pe_str (nomark _)) (pw_and1 (pt_not (pt_val (pv 3)))))) (pss_one (ps_ret pe_bl)) pss_nil)
      (pss_cons (ps_set (i := 5) sc_RowCheck_fits.nd rfl (.inl rfl) (pe_ix ix_wtab (pe_gref rfl T.g_SHAPES) (pv 4) (fun _ _ => rfl)))
      (pss_cons (ps_if (pt_cmpR op_ne (pe_callB call_len_seq (by rfl) T.b_len (by decide +kernel) (pa_cons (pv 1) pa_nil)) (pe_op op_add pe_int (pe_callB call_len_str (by rfl) T.b_len (by decide +kernel) (pa_cons (pv 5) pa_nil))) (nomark _)) (pss_one (ps_ret pe_bl)) pss_nil)
      (pss_cons (ps_if (PW.pt (pw_and (PW.pt (pw_or (pt_cmpR op_in_sign pe_str (pv 5) (by rfl)) (pw_or1 (pt_cmpR op_in_sign pe_str (pv 5) (by rfl))))) (pw_and1 (pt_cmpR op_ge (pv 2) (pe_glob (v := .int (5)) rfl T.g_DEEPEST.choose_spec ⟨_, rfl⟩) (nomark _))))) (pss_one (ps_ret pe_bl)) pss_nil)
      (pss_cons (ps_for PassesOwn.never rfl (pi_zipS (by rfl) T.b_zip (pa_cons (pv 5) (pa_cons (pe_slice sl_tupA (pv 1) (po_some pe_int) po_none) pa_nil))) (pg_tup rfl (pgs_cons (pg_name (i := 6) sc_RowCheck_fits.nd rfl (.inl rfl)) (pgs_cons (pg_name (i := 7) sc_RowCheck_fits.nd rfl (.inl rfl)) pgs_nil))) (pss_one (ps_if (pt_not (pt_val (pe_mcal (pv 0) c_RowCheck m_part_fits (hr.mono (by omega)) pass0 (pa_cons (pv 6) (pa_cons (pv 7) pa_nil))))) (pss_one (ps_ret pe_bl)) pss_nil)))
      (pss_one (ps_ret (pe_mcal (pv 0) c_RowCheck m_id_fits (hr.mono (by omega)) pass0 (pa_cons (pv 1) pa_nil)))))))))))), ?_⟩
    refine ⟨_, rfl, v, _, _, _, _, rfl, .ty _, ty_dp hd, kit_tuple d, _, rfl, ?_⟩
    cases hd with
    | @tup t xs ds hq ha =>
      refine ifF rfl ⟨_, rfl, t, xs, rfl, .inr hq, rfl, _, rfl, ?_⟩
      cases ha with
      | nil => exact ifT rfl (ifT rfl (k _ (Same.refl _)))
      | @cons v0 vr d0 dr h0 hr0 =>
      refine ifF (decide_eq_false (by intro z; injection z with z; rw [List.length_cons] at z; omega)) ?_
      refine ⟨_, rfl, t, _, 0, _, rfl, rfl, hq, atI_zero _ _, v0, _, _, _, _, rfl, .ty _, ty_dp h0, kit_str d0, _, rfl, ?_⟩
      cases h0 with
      | str kind =>
        refine ifF rfl ?_
        refine ⟨_, rfl, t, _, 0, _, rfl, rfl, hq, atI_zero _ _, ?_⟩
        refine ⟨_, rfl, pS, kind, _, rfl, rfl, T.w_SHAPES, _, rfl, ?_⟩
        rw [shapes_look]
        have k : ∀ H', Same H H' → Q (.bl (match shapes.lookup kind with | none => false | some sh => fitRow E0 c kind dr depth lp sh)) H' := k
        cases hsh : shapes.lookup kind with
        | none =>
          rw [hsh] at k
          exact ifT rfl (ifT rfl (k _ (Same.refl _)))
        | some sh =>
        rw [hsh] at k
        have k : ∀ H', Same H H' → Q (.bl (fitRow E0 c kind dr depth lp sh)) H' := k
        unfold fitRow at k
        refine ifF rfl ⟨_, rfl, rfl, _, rfl, ?_⟩
        rw [dec_strV]
        by_cases e1 : kind = "edit" ∧ E0.we = false
        · rw [if_pos e1] at k
          refine ifT (decide_eq_true e1.1) ⟨_, rfl, _, _, _, _, _, rfl, O.ob, hC ▸ rc.cls, hC ▸ rc.n3, rfl, _, rfl, ?_⟩
          rw [e1.2]
          exact ifT rfl (k _ (Same.refl _))
        rw [if_neg e1] at k
        refine andNo (fun e n => ?_) (ifF rfl ?_)
        · refine ⟨_, rfl, _, _, _, _, _, rfl, O.ob, hC ▸ rc.cls, hC ▸ rc.n3, rfl, _, rfl, ?_⟩
          rw [show E0.we = true from (by cases q : E0.we with | true => rfl | false => exact absurd ⟨e, q⟩ e1)]
          exact n
        refine ⟨_, rfl, rfl, _, rfl, ?_⟩
        rw [dec_strV]
        by_cases e2 : kind = "leave" ∧ lp = false
        · rw [if_pos e2] at k
          refine ifT (decide_eq_true e2.1) ⟨_, rfl, _, rfl, ?_⟩
          rw [e2.2]
          exact ifT rfl (k _ (Same.refl _))
        rw [if_neg e2] at k
        refine andNo (fun e n => ?_) (ifF rfl ?_)
        · refine ⟨_, rfl, _, rfl, ?_⟩
          cases lp with
          | true => exact n
          | false => exact absurd ⟨e, rfl⟩ e2
        refine ⟨_, rfl, pS, kind, _, .str sh, rfl, rfl, T.w_SHAPES, by rw [shapes_look, hsh]; rfl, ?_⟩
        have hsl := shapes_len hsh
        have hvl := hr0.len
        refine ⟨_, rfl, t, _, rfl, .inr hq, _, rfl, sh, rfl, sz_lit (by omega), _, _, rfl, rfl, rfl, _, rfl, ?_⟩
        have el : decide (V.int ((V.str kind :: vr).length : Nat) = V.int (1 + (sh.length : Nat))) = decide (dr.length = sh.length) := by
          rw [Bool.eq_iff_iff, decide_eq_true_iff, decide_eq_true_iff, List.length_cons]
          constructor
          · intro z; injection z with z; omega
          · intro z; congr 1; omega
        rw [el]
        by_cases e3 : ¬ dr.length = sh.length
        · rw [if_pos e3] at k
          rw [decide_eq_false e3]
          exact ifT rfl (k _ (Same.refl _))
        rw [if_neg e3] at k
        have e3 : dr.length = sh.length := Decidable.byContradiction e3
        rw [decide_eq_true e3]
        refine ifF rfl ?_
        refine ⟨_, rfl, 98, sh, rfl, rfl, _, rfl, ?_⟩
        by_cases e4 : (hasC 98 sh || hasC 116 sh) = true ∧ 5 ≤ depth
        · rw [if_pos e4] at k
          by_cases q : 98 ∈ sh.cps.toList
          · refine ifT (decide_eq_true q) (ifT rfl ⟨_, rfl, _, _, rfl, rfl, _, rfl, ?_⟩)
            exact ifT (decide_eq_true e4.2) (k _ (Same.refl _))
          · refine ifF (decide_eq_false q) ⟨_, rfl, 116, sh, rfl, rfl, _, rfl, ?_⟩
            have e5 := e4.1
            unfold hasC at e5
            rw [decide_eq_false q, Bool.false_or] at e5
            refine ifT e5 ⟨_, rfl, _, _, rfl, rfl, _, rfl, ?_⟩
            exact ifT (decide_eq_true e4.2) (k _ (Same.refl _))
        rw [if_neg e4] at k
        apply orNo
        · intro e n
          refine ifT rfl ⟨_, rfl, _, _, rfl, rfl, _, rfl, ?_⟩
          have e5 : decide (5 ≤ depth) = false := decide_eq_false fun h => e4 ⟨by unfold hasC; rw [decide_eq_true e]; rfl, h⟩
          show ite (decide (5 ≤ depth) = true) _ _
          rw [e5]
          exact n
        · intro e n
          refine ⟨_, rfl, 116, sh, rfl, rfl, _, rfl, ?_⟩
          by_cases q : 116 ∈ sh.cps.toList
          · refine ifT (decide_eq_true q) ⟨_, rfl, _, _, rfl, rfl, _, rfl, ?_⟩
            have e5 : decide (5 ≤ depth) = false := decide_eq_false fun h => e4 ⟨by unfold hasC; rw [decide_eq_true q, Bool.or_true], h⟩
            show ite (decide (5 ≤ depth) = true) _ _
            rw [e5]
            exact n
          · exact ifF (decide_eq_false q) n
        refine ifF rfl ?_
        refine ⟨_, rfl, _, rfl, 1, rfl, t, _, rfl, hq, fun z => absurd z (cut1n _ _), fun _ p hp => ?_⟩
        rw [cut1]
        have sm : Same H (upd H p (.tup vr)) := Same.new hp
        refine ⟨sh, p, vr, rfl, .inl (.inl upd_same), ?_⟩
        have hlen : sh.cps.size = dr.length := e3.symm
        refine for_zipS (by omega) (fun i σ H' => (∃ y6 y7 : Option V, σ = [some (.ref R.a), some (.ref t), some (.int depth), some (.bl lp), some (.str kind), some (.str sh), y6, y7]) ∧ Same H H' ∧ SqT K H' p vr ∧ ((sh.cps.toList.zip dr).take i).all (fun p => partFits E0 ⟨#[p.1]⟩ p.2) = true) ⟨⟨_, _, rfl⟩, sm, .inl (.inl upd_same), rfl⟩ (fun i σ H' q => q.2.2.1) ?_ ?_
        · rintro i ch y T0 σ H' h1 h2 ⟨⟨y6, y7, rfl⟩, s1, hp1, hall⟩ hT0
          obtain ⟨d, h3, hdy⟩ := hr0.get h2
          have sm1 : Same H' (upd H' T0 (.tup [.str ⟨#[ch]⟩, y])) := Same.new hT0
          have hz : (sh.cps.toList.zip dr)[i]? = some (ch, d) := by
            rw [List.getElem?_zip_eq_some]
            exact ⟨by rw [Array.getElem?_toList]; exact h1, h3⟩
          refine ⟨T0, _, rfl, .inl (.inl upd_same), rfl, _, _, rfl, _, _, rfl, rfl, ?_⟩
          have s2 := s1.trans sm1
          have hp2 := hp1.mono sm1
          revert s2 hp2
          generalize upd H' T0 (.tup [.str ⟨#[ch]⟩, y]) = H2
          intro s2 hp2
          have O2 := O.mono s2
          have hwd : wt d ≤ 100000 := by
            have a1 := wts_mem (List.mem_of_getElem? h3)
            have a2 : wt (.tuple (.str kind :: dr)) = 1 + (wt (.str kind) + wts dr) := by rw [wt_tuple, wts_cons]
            omega
          subst hC
          refine ⟨_, rfl, _, _, _, rfl, O2.ob, rfl, _, rfl, _, rfl, R, E0, c, _, y, d, rfl, O2, rc, hdy.mono s2, hwd, _, rfl, ?_⟩
          by_cases q : partFits E0 ⟨#[ch]⟩ d = true
          · rw [q]
            refine ifF rfl ⟨⟨_, _, rfl⟩, s2, hp2, ?_⟩
            rw [TS.take_one hz, List.all_append, hall]
            simp [q]
          · rw [Bool.eq_false_iff.mpr q]
            refine ifT rfl ?_
            have e5 : fitAll E0 sh dr = false := by
              refine Bool.eq_false_iff.mpr fun z => q ?_
              exact List.all_eq_true.mp z (ch, d) (List.mem_of_getElem? hz)
            rw [e5] at k
            exact k _ s2
        · rintro σ H' ⟨⟨y6, y7, rfl⟩, s1, _, hall⟩
          rw [List.take_of_length_le (by rw [List.length_zip, Array.length_toList]; omega)] at hall
          have e5 : fitAll E0 sh dr = true := hall
          rw [if_pos e5] at k
          have O2 := O.mono s1
          subst hC
          refine ⟨_, rfl, _, _, _, rfl, O2.ob, rfl, _, rfl, R, E0, c, t, kind, dr, rfl, O2, rc, .tup (hq.mono s1) (.cons (.str kind) (DpAll.mono s1 hr0)), ids_word hsh ((fitAll_iff hlen).mp e5), fun H3 s3 => k _ (s1.trans s3)⟩
      | _ => exact ifT rfl (k _ (Same.refl _))
    | _ => exact ifT rfl (ifT rfl (k _ (Same.refl _)))
end
end Op
namespace L2
open PySem PySem.Spec PyProof.Rows
theorem DpAll.append {K : PySem.W.Frag} {H : Hp} : ∀ {vs ws : List V} {ds es : List PyData}, DpAll K H vs ds → DpAll K H ws es → DpAll K H (vs ++ ws) (ds ++ es)
  | _, _, _, _, .nil, h => h
  | _, _, _, _, .cons a b, h => .cons a (b.append h)
end L2
namespace Op
open PySem L2 PyProof.Rows
/-- the lists of rows within a row -/
def innerL (kind : Str) (parts : List PyData) : List PyData :=
  if kind = "both" then (match parts with | .tuple ds :: _ => ds | _ => []) else parts.filter isList
section
variable {P : Program} {w : World} {K : PySem.W.Frag} {mg : Str → Option Value} {base : Heap}
def spInner (K : PySem.W.Frag) : Sp := fun vs H Q _ => ∃ (t : Addr) (kind : Str) (parts : List PyData), vs = [.ref t] ∧ Dp K H (.ref t) (.tuple (.str kind :: parts)) ∧ parts.length ≤ 1000 ∧ (kind = "both" → ∃ ds r, parts = .tuple ds :: r) ∧
  ∀ p xs H', Same H H' → H p = none → H' p = some (.lst xs) → DpAll K H xs (innerL kind parts) → Q (.ref p) H'
theorem sc_inner_lists : FnScope ["row", "part"] ["row"] (defScope s_inner_lists) := ⟨rfl, rfl, rfl, by decide +kernel, rfl, by decide +kernel, by decide +kernel⟩
theorem ok_inner_lists {f : Addr} {fd : FuncData} (F : Fun K "inner_lists" "inner_lists" s_inner_lists f fd) (T : Txt mg) : FnOk P w K mg base CX0 1 f fd ["row"] (spInner K) := by
  refine F.ok sc_inner_lists (fun vs H Q E h => ?_) (fun cdv A outer s H vs Q E hr h => ?_)
  · obtain ⟨t, kind, parts, rfl, _⟩ := h
    rfl
  · obtain ⟨t, kind, parts, rfl, hd, hpl, hb, k⟩ := h
    cases hd with
    | @tup _ xs _ hq ha =>
    cases ha with
    | @cons v0 vr d0 dr h0 hr0 =>
    cases h0 with
    | str kind =>
    have hvl := hr0.len
    unfold innerL at k
    refine ⟨_, (pss_cons (ps_if (pt_cmpR op_eq (pe_ix ix_tup (pv 0) pe_int (fun _ _ => rfl)) pe_str (nomark _)) (pss_one (ps_ret (pe_callTy call_list_of (by rfl) T.b_list (by decide +kernel) (pa_cons (pe_ix ix_tup (pv 0) pe_int (fun _ _ => rfl)) pa_nil)))) pss_nil)
      (pss_one (ps_ret (pe_lc (own := [("part", 1)]) (g := gName 1)  rfl sc_inner_lists.nd (pi_tup (pv 0)) (blkOk_by (own := [("part", 1)]) (N := ["row", "part"]) (sc := defScope s_inner_lists) (by decide +kernel)) (fun _ _ _ _ _ => (pg_name (i := 1) sc_inner_lists.nd rfl (.inl rfl))) (fun _ _ _ _ _ => (pts_one (pt_val (pe_callB (id := "isinstance") (r := rIsi K) call_isi (by rfl) T.b_isinstance (by decide +kernel) (pa_cons (pv 1) (pa_cons (pe_bltn (v := .ty "list") (by rfl) T.b_list (by decide +kernel) rfl) pa_nil)))))) (fun _ _ _ _ _ => (pv 1)))))), ?_⟩
    refine ⟨_, rfl, t, _, 0, _, rfl, rfl, hq, atI_zero _ _, rfl, _, rfl, ?_⟩
    rw [dec_strV]
    by_cases e1 : kind = "both"
    · rw [if_pos e1] at k
      obtain ⟨ds, r, rfl⟩ := hb e1
      cases hr0 with
      | @cons v1 vs1 d1 dr1 h1 hr1 =>
      cases h1 with
      | @tup q ws _ hqw haw =>
      refine ifT (decide_eq_true e1) ⟨_, rfl, t, _, 1, _, rfl, rfl, hq, atI_one _ _ _, q, ws, rfl, .inr hqw, fun l hl => ?_⟩
      exact k l ws _ (Same.new hl) hl upd_same haw
    · rw [if_neg e1] at k
      refine ifF (decide_eq_false e1) ⟨_, rfl, t, rfl, ⟨_, hq⟩, fun D hD => ?_⟩
      refine lc_it (walk_tup (xs := .str kind :: vr)) (fun i H' => ∃ acc, H' D = some (.lst acc) ∧ acc.length ≤ i ∧ DpAll K H acc (((.str kind :: parts).take i).filter isList) ∧ Same H H') ⟨[], upd_same, Nat.le_refl _, .nil, Same.new hD⟩ (fun i H' _ p => hq.mono (let ⟨_, _, _, _, s⟩ := p; s)) ?_ ?_
      · rintro i x H1 H2 hi ⟨acc, hacc, hal, hdp, sm⟩ ⟨rfl, hx⟩
        obtain ⟨d, hd1, hd2⟩ := DpAll.get (.cons (.str kind) hr0) hx
        refine ⟨rfl, _, rfl, x, _, _, _, _, rfl, .ty _, ty_dp (hd2.mono sm), kit_list d, _, rfl, ?_⟩
        have hi' : i < 2000 := by rw [List.length_cons] at hi; omega
        have e2 : ((.str kind :: parts).take (i + 1)).filter isList = ((.str kind :: parts).take i).filter isList ++ [d].filter isList := by
          rw [TS.take_one hd1, List.filter_append]
        by_cases q : isList d = true
        · rw [q]
          refine ifT rfl ⟨_, rfl, acc, hacc, lt_sz (by omega), acc ++ [x], upd_same, by rw [List.length_append]; show acc.length + 1 ≤ _; omega, ?_, fun b o hb => ?_⟩
          · rw [e2, List.filter_cons_of_pos q, List.filter_nil]
            exact hdp.append (.cons hd2 .nil)
          · rw [upd_ne (ne_of_none hb hD)]
            exact sm b o hb
        · rw [Bool.eq_false_iff.mpr q]
          refine ifF rfl ⟨acc, hacc, by omega, ?_, sm⟩
          rw [e2, List.filter_cons_of_neg (by rw [Bool.eq_false_iff.mpr q]; exact Bool.false_ne_true), List.filter_nil, List.append_nil]
          exact hdp
      · rintro H1 ⟨acc, hacc, _, hdp, sm⟩
        refine k D acc H1 sm hD hacc ?_
        rw [List.take_of_length_le (by rw [List.length_cons, List.length_cons]; omega)] at hdp
        exact hdp
end
end Op
namespace Op
open PySem L2 PyProof.Rows
/-! ### the mirror: the check of a list of rows -/
abbrev Out := Except (List Int) Chk
def listOf : PyData → List PyData
  | .list ds => ds
  | _ => []
def chkIn (rec : List PyData → List Int → Chk → Out) (pre : List Int) : List PyData → Nat → Chk → Out
  | [], _, c => .ok c
  | d :: r, j, c => match rec (listOf d) (pre ++ [(j : Int)]) c with
    | .error p => .error p
    | .ok c' => chkIn rec pre r (j + 1) c'
def inside (lp : Bool) (kind : Str) : Bool := if kind = "both" then false else lp || decide (kind = "loop")
def shapeOf (kind : Str) : Str := (shapes.lookup kind).getD ""
def chkRow (rec : Bool → List PyData → List Int → Chk → Out) (E : Env0) (depth : Int) (lp : Bool) (pre : List Int) (d : PyData) (i : Nat) (c : Chk) : Out :=
  match d with
  | .tuple (.str kind :: parts) => if fits E c d depth lp = true then chkIn (rec (inside lp kind)) (pre ++ [(i : Int)]) (innerL kind parts) 0 (collect { c with total := c.total + 1 } kind (shapeOf kind) parts) else .error (pre ++ [(i : Int)])
  | _ => .error (pre ++ [(i : Int)])
def chkRows (row : PyData → Nat → Chk → Out) : List PyData → Nat → Chk → Out
  | [], _, c => .ok c
  | d :: r, i, c => match row d i c with
    | .error p => .error p
    | .ok c' => chkRows row r (i + 1) c'
def chkL (E : Env0) : Nat → Bool → List PyData → List Int → Chk → Out
  | 0, _, _, _, c => .ok c
  | n + 1, lp, ds, pre, c => chkRows (chkRow (chkL E n) E (5 - (n : Int)) lp pre) ds 0 c
/-! ### sizes -/
theorem colPart_cap {E : Env0} {kind : Str} {c : Chk} {x : Str} {d : PyData} {n : Nat} (hf : partFits E x d = true) (h : Cap c n) : Cap (colPart kind c x d) (n + 3) := by
  obtain ⟨h1, h2, h3, h4⟩ := h
  unfold colPart
  split
  · have := putW_len c.labels (strOf d)
    exact ⟨by show (putW c.labels (strOf d)).length ≤ _; omega, by show c.slots.length ≤ _; omega, by show c.gates.length ≤ _; omega, by show c.edits.length ≤ _; omega⟩
  · split
    · rename_i e
      obtain ⟨zs, rfl, hz, _⟩ := aw_tup (pf_m (by rw [← e]; exact hf))
      refine ⟨?_, by show c.slots.length ≤ _; omega, by show c.gates.length ≤ _; omega, by show c.edits.length ≤ _; omega⟩
      show (((zs.map PyData.str).map strOf).foldl putW c.labels).length ≤ _
      rw [map_strOf]
      have := foldW_len zs c.labels
      omega
    · split
      · have := putW_len c.slots (strOf d)
        exact ⟨by show c.labels.length ≤ _; omega, by show (putW c.slots (strOf d)).length ≤ _; omega, by show c.gates.length ≤ _; omega, by show c.edits.length ≤ _; omega⟩
      · split
        · have := putW_len c.edits (strOf d)
          exact ⟨by show c.labels.length ≤ _; omega, by show c.slots.length ≤ _; omega, by show c.gates.length ≤ _; omega, by show (putW c.edits (strOf d)).length ≤ _; omega⟩
        · split
          · have := putW_len c.gates (strOf d)
            exact ⟨by show c.labels.length ≤ _; omega, by show c.slots.length ≤ _; omega, by show (putW c.gates (strOf d)).length ≤ _; omega, by show c.edits.length ≤ _; omega⟩
          · exact ⟨by omega, by omega, by omega, by omega⟩
theorem colPart_total {kind : Str} {c : Chk} {x : Str} {d : PyData} : (colPart kind c x d).total = c.total := by
  unfold colPart
  repeat' split
  all_goals rfl
theorem collect_cap {E : Env0} {kind sh : Str} {c : Chk} {parts : List PyData} {n : Nat} (hf : Fitted E sh parts) (h : Cap c n) : Cap (collect c kind sh parts) (n + 3 * parts.length) := by
  have key : ∀ i, i ≤ parts.length → Cap (colN c kind sh parts i) (n + 3 * i) := by
    intro i
    induction i with
    | zero => intro _; exact h
    | succ i ih =>
      intro hi
      have h2 : parts[i]? = some parts[i] := List.getElem?_eq_getElem hi
      have hs : i < sh.cps.size := by rw [hf.1]; exact hi
      have h1 : sh.cps[i]? = some sh.cps[i] := Array.getElem?_eq_getElem hs
      rw [colN_succ h1 h2]
      exact (colPart_cap (hf.2 i _ _ h1 h2) (ih (by omega))).mono (by omega)
  rw [← colN_all hf.1]
  exact key _ (Nat.le_refl _)
def wIn : List PyData → Nat
  | [] => 0
  | d :: r => wts (listOf d) + wIn r
theorem wts_listOf (d : PyData) : wts (listOf d) + 1 ≤ wt d := by
  cases d with
  | list ds => rw [wt_list]; show wts ds + 1 ≤ _; omega
  | _ => exact (by have := wt_pos; rw [show listOf _ = [] from rfl, wts_nil]; exact wt_pos _)
theorem wIn_le : ∀ ds : List PyData, wIn ds ≤ wts ds
  | [] => by rw [wts_nil]; exact Nat.le_refl _
  | d :: r => by
    have := wIn_le r
    have := wts_listOf d
    rw [wts_cons]
    show wts (listOf d) + wIn r ≤ _
    omega
theorem wIn_filter : ∀ ds : List PyData, ds.length + wIn (ds.filter isList) ≤ wts ds
  | [] => by rw [wts_nil]; exact Nat.le_refl _
  | d :: r => by
    have h1 := wIn_filter r
    have h2 := wts_listOf d
    rw [wts_cons, List.length_cons]
    by_cases q : isList d = true
    · rw [List.filter_cons_of_pos q]
      show _ + (wts (listOf d) + wIn (r.filter isList)) ≤ _
      omega
    · rw [List.filter_cons_of_neg q]
      omega
theorem wIn_inner (kind : Str) (parts : List PyData) : parts.length + wIn (innerL kind parts) ≤ wts parts := by
  unfold innerL
  split
  · cases parts with
    | nil => rw [wts_nil]; exact Nat.le_refl _
    | cons d r =>
      have h1 := wts_len r
      have h0 := wt_pos d
      rw [wts_cons, List.length_cons]
      cases d with
      | tuple ds =>
        have := wIn_le ds
        rw [wt_tuple]
        show _ + wIn ds ≤ _
        omega
      | _ =>
        show r.length + 1 + 0 ≤ _
        omega
  · exact wIn_filter parts
def CapF (f : List PyData → List Int → Chk → Out) : Prop := ∀ ds pre c c' m, f ds pre c = .ok c' → Cap c m → Cap c' (m + 3 * wts ds)
theorem chkIn_cap {f : List PyData → List Int → Chk → Out} (hf : CapF f) {pre : List Int} : ∀ (l : List PyData) (j : Nat) (c c' : Chk) (m : Nat), chkIn f pre l j c = .ok c' → Cap c m → Cap c' (m + 3 * wIn l)
  | [], j, c, c', m, h, k => by
    obtain rfl := Except.ok.inj h
    exact k
  | d :: r, j, c, c', m, h, k => by
    unfold chkIn at h
    cases q : f (listOf d) (pre ++ [(j : Int)]) c with
    | error p => rw [q] at h; cases h
    | ok c1 =>
      rw [q] at h
      have h1 := hf _ _ _ _ _ q k
      have h2 := chkIn_cap hf r (j + 1) c1 c' _ h h1
      exact h2.mono (by show _ ≤ m + 3 * (wts (listOf d) + wIn r); omega)
theorem fits_shape {E : Env0} {c : Chk} {kind : Str} {parts : List PyData} {depth : Int} {lp : Bool} (h : fits E c (.tuple (.str kind :: parts)) depth lp = true) : shapes.lookup kind = some (shapeOf kind) ∧ Fitted E (shapeOf kind) parts ∧ ((hasC 98 (shapeOf kind) || hasC 116 (shapeOf kind)) = true → depth < 5) := by
  have h : (match shapes.lookup kind with | none => false | some sh => fitRow E c kind parts depth lp sh) = true := h
  cases q : shapes.lookup kind with
  | none => rw [q] at h; cases h
  | some sh =>
    rw [q] at h
    have e : shapeOf kind = sh := by unfold shapeOf; rw [q]; rfl
    rw [e]
    have h : fitRow E c kind parts depth lp sh = true := h
    unfold fitRow at h
    split at h
    · cases h
    · split at h
      · cases h
      · split at h
        · cases h
        · rename_i e3
          have e3 : parts.length = sh.length := Decidable.byContradiction e3
          split at h
          · cases h
          · rename_i e4
            split at h
            · rename_i e5
              exact ⟨rfl, (fitAll_iff e3.symm).mp e5, fun z => Decidable.byContradiction fun w => e4 ⟨z, by omega⟩⟩
            · cases h
theorem chkRow_cap {rec : Bool → List PyData → List Int → Chk → Out} (hr : ∀ lp, CapF (rec lp)) {E : Env0} {depth : Int} {lp : Bool} {pre : List Int} {d : PyData} {i : Nat} {c c' : Chk} {m : Nat} (h : chkRow rec E depth lp pre d i c = .ok c') (k : Cap c m) : Cap c' (m + 3 * wt d) := by
  unfold chkRow at h
  split at h
  · rename_i kind parts
    split at h
    · rename_i hf
      obtain ⟨_, hF, _⟩ := fits_shape hf
      have h1 := collect_cap (kind := kind) (c := { c with total := c.total + 1 }) hF k
      have h2 := chkIn_cap (hr _) _ _ _ _ _ h h1
      have h3 := wIn_inner kind parts
      refine h2.mono ?_
      rw [wt_tuple, wts_cons]
      omega
    · cases h
  · cases h
theorem chkRows_cap {row : PyData → Nat → Chk → Out} (hr : ∀ d i c c' m, row d i c = .ok c' → Cap c m → Cap c' (m + 3 * wt d)) : ∀ (l : List PyData) (j : Nat) (c c' : Chk) (m : Nat), chkRows row l j c = .ok c' → Cap c m → Cap c' (m + 3 * wts l)
  | [], j, c, c', m, h, k => by
    obtain rfl := Except.ok.inj h
    exact k.mono (by omega)
  | d :: r, j, c, c', m, h, k => by
    unfold chkRows at h
    cases q : row d j c with
    | error p => rw [q] at h; cases h
    | ok c1 =>
      rw [q] at h
      have h1 := hr _ _ _ _ _ q k
      have h2 := chkRows_cap hr r (j + 1) c1 c' _ h h1
      exact h2.mono (by rw [wts_cons]; omega)
theorem chkL_cap (E : Env0) : ∀ (n : Nat) (lp : Bool), CapF (chkL E n lp)
  | 0, lp => fun ds pre c c' m h k => by
    obtain rfl := Except.ok.inj h
    exact k.mono (by omega)
  | n + 1, lp => fun ds pre c c' m h k => chkRows_cap (fun d i c c' m h k => chkRow_cap (chkL_cap E n) h k) ds 0 c c' m h k
/-- at the deepest level no row has lists -/
theorem inner_deep {E : Env0} {c : Chk} {kind : Str} {parts : List PyData} {depth : Int} {lp : Bool} (h : fits E c (.tuple (.str kind :: parts)) depth lp = true) (hd : 5 ≤ depth) : innerL kind parts = [] := by
  obtain ⟨hs, ⟨hl, hF⟩, hb⟩ := fits_shape h
  have nb : (hasC 98 (shapeOf kind) || hasC 116 (shapeOf kind)) = false := Bool.eq_false_iff.mpr fun z => by
    have := hb z
    omega
  unfold innerL
  split
  · rename_i e
    subst e
    exact absurd nb (by decide +kernel)
  · refine List.filter_eq_nil_iff.mpr fun d hm hd' => ?_
    obtain ⟨i, hi⟩ := List.getElem?_of_mem hm
    have hi' := (List.getElem?_eq_some_iff.mp hi).1
    have h1 : (shapeOf kind).cps[i]? = some ((shapeOf kind).cps[i]'(by omega)) := Array.getElem?_eq_getElem _
    have hf := hF i _ d h1 hi
    have hm' : (shapeOf kind).cps[i]'(by omega) ∈ (shapeOf kind).cps.toList := List.mem_of_getElem? (i := i) (by rw [Array.getElem?_toList]; exact h1)
    revert hf hm' 
    generalize (shapeOf kind).cps[i]'(by omega) = ch
    intro hf hm'
    have n1 : ch ≠ 98 := fun z => by
      unfold hasC at nb
      rw [← z, decide_eq_true hm'] at nb
      cases nb
    have n2 : ch ≠ 116 := fun z => by
      unfold hasC at nb
      rw [← z, decide_eq_true hm', Bool.or_true] at nb
      cases nb
    have sb : ¬ (⟨#[ch]⟩ : Str) = "b" := fun z => n1 (by
      have z : (⟨#[ch]⟩ : Str) = ⟨#[98]⟩ := z
      simpa using z)
    have st : ¬ (⟨#[ch]⟩ : Str) = "t" := fun z => n2 (by
      have z : (⟨#[ch]⟩ : Str) = ⟨#[116]⟩ := z
      simpa using z)
    by_cases em : (⟨#[ch]⟩ : Str) = "m" ∨ (⟨#[ch]⟩ : Str) = "v"
    · unfold partFits at hf
      rw [if_neg (by rcases em with e | e <;> (rw [e]; decide +kernel)), if_neg (by rcases em with e | e <;> (rw [e]; decide +kernel)), if_neg (by rcases em with e | e <;> (rw [e]; decide +kernel)), if_pos em] at hf
      cases d with
      | tuple _ => cases hd'
      | _ => cases hf
    · have := pf_word hf ⟨em, sb, st⟩
      cases d with
      | str _ => cases hd'
      | _ => cases this
theorem both_tuple {E : Env0} {c : Chk} {kind : Str} {parts : List PyData} {depth : Int} {lp : Bool} (h : fits E c (.tuple (.str kind :: parts)) depth lp = true) (hk : kind = "both") : ∃ ds r, parts = .tuple ds :: r ∧ ∀ d ∈ ds, isList d = true := by
  obtain ⟨hs, ⟨hl, hF⟩, hb⟩ := fits_shape h
  subst hk
  cases parts with
  | nil => exact absurd hl (by decide +kernel)
  | cons d r =>
    have hf := hF 0 116 d (by decide +kernel) rfl
    have hf : isBranches d = true := hf
    cases d with
    | tuple ds => exact ⟨ds, r, rfl, fun d hd => List.all_eq_true.mp (Bool.and_eq_true_iff.mp hf).2 d hd⟩
    | _ => cases hf
theorem inner_lists_all {E : Env0} {c : Chk} {kind : Str} {parts : List PyData} {depth : Int} {lp : Bool} (h : fits E c (.tuple (.str kind :: parts)) depth lp = true) : ∀ d ∈ innerL kind parts, isList d = true := by
  intro d hd
  unfold innerL at hd
  split at hd
  · rename_i e
    obtain ⟨ds, r, rfl, p⟩ := both_tuple h e
    exact p d hd
  · exact (List.mem_filter.mp hd).2
end Op
namespace L2
open PySem PySem.Spec PyProof.Rows
theorem cat_any {K : PySem.W.Frag} {H : Hp} {a b : Addr} {xs ys : List V} {Q : VK} (ha : SqT K H a xs) (hb : SqT K H b ys) (hz : xs.length + ys.length ≤ sizeLine) (k : ∀ t H', Same H H' → SqT K H' t (xs ++ ys) → Q (.ref t) H') : rCatA K (.ref a) (.ref b) H Q := by
  refine ⟨a, b, xs, ys, rfl, rfl, ha, hb, hz, fun e => ?_, fun _ e => ?_, fun _ _ p hp => k p _ (Same.new hp) (.inl (.inl upd_same))⟩
  · subst e
    exact k b H (Same.refl _) hb
  · subst e
    exact k a H (Same.refl _) (by rw [List.append_nil]; exact ha)
end L2
namespace Op
open PySem L2 PyProof.Rows
theorem putF_total (A : RcA) (E : Env0) (c : Chk) (n : Int) : putF "total" (.int n) (rcF A E c) = rcF A E { c with total := n } := rfl
theorem chkRow_no {rec : Bool → List PyData → List Int → Chk → Out} {E : Env0} {depth : Int} {lp : Bool} {pre : List Int} {d : PyData} {i : Nat} {c : Chk} (h : fits E c d depth lp = false) : chkRow rec E depth lp pre d i c = .error (pre ++ [(i : Int)]) := by
  unfold chkRow
  split
  · rw [if_neg (by rw [h]; exact Bool.false_ne_true)]
  · rfl
theorem fits_tuple {E : Env0} {depth : Int} {lp : Bool} {d : PyData} {c : Chk} (h : fits E c d depth lp = true) : ∃ kind parts, d = .tuple (.str kind :: parts) := by
  unfold fits at h
  split at h
  · exact ⟨_, _, rfl⟩
  · cases h
theorem sz1 (x : V) : [x].length ≤ sizeLine := sz_lit (by show 1 ≤ 100000; decide)
theorem sz2 (x y : V) : [x, y].length ≤ sizeLine := sz_lit (by show 2 ≤ 100000; decide)
def contR (f : Chk → Out) : Out → Out
  | .error p => .error p
  | .ok c => f c
theorem chkRows_cons (row : PyData → Nat → Chk → Out) (d : PyData) (r : List PyData) (i : Nat) (c : Chk) : chkRows row (d :: r) i c = contR (chkRows row r (i + 1)) (row d i c) := by
  rw [chkRows]
  cases row d i c <;> rfl
theorem chkIn_cons (f : List PyData → List Int → Chk → Out) (pre : List Int) (d : PyData) (r : List PyData) (j : Nat) (c : Chk) : chkIn f pre (d :: r) j c = contR (chkIn f pre r (j + 1)) (f (listOf d) (pre ++ [(j : Int)]) c) := by
  rw [chkIn]
  cases f (listOf d) (pre ++ [(j : Int)]) c <;> rfl
theorem chkRow_yes {rec : Bool → List PyData → List Int → Chk → Out} {E : Env0} {depth : Int} {lp : Bool} {pre : List Int} {kind : Str} {parts : List PyData} {i : Nat} {c : Chk} (h : fits E c (.tuple (.str kind :: parts)) depth lp = true) :
    chkRow rec E depth lp pre (.tuple (.str kind :: parts)) i c = chkIn (rec (inside lp kind)) (pre ++ [(i : Int)]) (innerL kind parts) 0 (collect { c with total := c.total + 1 } kind (shapeOf kind) parts) := if_pos h
theorem map_snoc (pre : List Int) (i : Int) : pre.map V.int ++ [V.int i] = (pre ++ [i]).map V.int := by rw [List.map_append]; rfl
theorem map_snoc2 (pre : List Int) (i j : Int) : pre.map V.int ++ [V.int i, V.int j] = (pre ++ [i] ++ [j]).map V.int := by rw [List.map_append, List.map_append, List.append_assoc]; rfl
section
variable {P : Program} {w : World} {K : PySem.W.Frag} {mg : Str → Option Value} {base : Heap} {pS CI C : Addr}
/-- InvalidProgram(part, path) stands in the dict d -/
def XProg (K : PySem.W.Frag) (H : Hp) (d : Addr) (part : Str) (path : List Int) : Prop := ∃ t, H d = some (.xd [("path", .ref t), ("part", .str part)]) ∧ SqT K H t (path.map V.int)
def spCL (K : PySem.W.Frag) (C CI : Addr) : Nat → Sp
  | 0 => fun _ _ _ _ => False
  | n + 1 => fun vs H Q X => ∃ (A : RcA) (E : Env0) (c : Chk) (rws pr : Addr) (ds : List PyData) (pre : List Int) (lp : Bool) (m : Nat), vs = [.ref A.a, .ref rws, .ref pr, .int (5 - (n : Int)), .bl lp] ∧ A.C = C ∧ RC H A E c ∧ Dp K H (.ref rws) (.list ds) ∧ SqT K H pr (pre.map V.int) ∧ pre.length + 2 * n ≤ 100 ∧ Cap c m ∧ m + 3 * wts ds ≤ 90000 ∧
    (∀ c', chkL E (n + 1) lp ds pre c = .ok c' → ∀ H', Fr A.L H H' → RC H' A E c' → Q .non H') ∧ (∀ p, chkL E (n + 1) lp ds pre c = .error p → ∀ H' d, Fr A.L H H' → XProg K H' d "rows" p → X (.ref CI) (some d) H')
theorem sc_RowCheck_check_list : FnScope ["self", "rows", "prefix", "depth", "in_loop", "index", "row", "inside", "number", "inner"] ["self", "rows", "prefix", "depth", "in_loop"] (defScope s_RowCheck_check_list) := ⟨rfl, rfl, rfl, by decide +kernel, rfl, by decide +kernel, by decide +kernel⟩
theorem ok_check_list {f : Addr} {fd : FuncData} (F : Fun K "check_list" "RowCheck.check_list" s_RowCheck_check_list f fd) (T : TxtC P w K mg pS CI) (rc : RcC K C) (hm : Meth K C "check_list" f) (hb : Binds K fd ["self", "rows", "prefix", "depth", "in_loop"] []) (m_fits : Mcal P w K mg base CX0 4 C "fits" ["self", "row", "depth", "in_loop"] (spFits K C)) (m_collect : Mcal P w K mg base CX0 1 C "collect" ["self", "row"] (spCol K)) (c_inner_lists : Cal P w K mg base CX0 1 "inner_lists" ["row"] (spInner K)) :
    ∀ n : Nat, FnOk P w K mg base (L2.CX P w) (5 + n + 1) f fd ["self", "rows", "prefix", "depth", "in_loop"] (spCL K C CI n)
  | 0 => F.okX sc_RowCheck_check_list (fun vs H Q E h => h.elim) (fun cdv A outer s H vs Q E hr h => h.elim)
  | n + 1 => by
    have m_check_list : Mcal P w K mg base (L2.CX P w) (5 + n + 1) C "check_list" ["self", "rows", "prefix", "depth", "in_loop"] (spCL K C CI n) := ⟨f, fd, hm, hb, ok_check_list F T rc hm hb m_fits m_collect c_inner_lists n⟩
    refine F.okX sc_RowCheck_check_list (fun vs H Q E h => ?_) (fun cdv A outer s H vs Q E hr h => ?_)
    · obtain ⟨A, E, c, rws, pr, ds, pre, lp, m, rfl, _⟩ := h
      rfl
    · obtain ⟨R, E0, c, rws, pr, ds, pre, lp, m, rfl, hC, O, hd, hpr, hpl, hcap, hw, k1, k2⟩ := h
      have hu := hu_of hr
      have c_RowCheck := rc.cls
      subst hC
      refine ⟨_, (pss_one (ps_for (passes_of rfl) rfl (pi_enum (by rfl) T.b_enumerate (pa_cons (pv 1) pa_nil)) (pg_tup rfl (pgs_cons (pg_name (i := 5) sc_RowCheck_check_list.nd rfl (.inl rfl)) (pgs_cons (pg_name (i := 6) sc_RowCheck_check_list.nd rfl (.inl rfl)) pgs_nil))) (pss_cons (ps_if (pt_not (pt_val (pe_mcal (pv 0) c_RowCheck m_fits (hr.mono (by omega)) pass0 (pa_cons (pv 6) (pa_cons (pv 3) (pa_cons (pv 4) pa_nil)))))) (pss_one (ps_raise rfl (takes_of rfl rfl rfl rfl) (pmk_x T.mk_InvalidProgram hr rfl T.g_InvalidProgram T.k_InvalidProgram T.r_InvalidProgram (pa_cons pe_str (pa_cons (pe_op op_catA (pv 2) (pe_tup (pa_cons (pv 5) pa_nil))) pa_nil))))) pss_nil)
      (pss_cons (ps_fldaug (pv 0) pe_int in_add)
      (pss_cons (ps_expr (pe_mcal (pv 0) c_RowCheck m_collect (hr.mono (by omega)) pass0 (pa_cons (pv 6) pa_nil)))
      (Evl.pss_cut (ps_set (i := 7) sc_RowCheck_check_list.nd rfl (.inl rfl) (pe_or (pv 4) (pe_one (pe_cmpR op_eq (pe_ix ix_tup (pv 6) pe_int (fun _ _ => rfl)) pe_str (nomark _)))))
      (Evl.pss_cut (ps_if (pt_cmpR op_eq (pe_ix ix_tup (pv 6) pe_int (fun _ _ => rfl)) pe_str (nomark _)) (pss_one (ps_set (i := 7) sc_RowCheck_check_list.nd rfl (.inl rfl) pe_bl)) pss_nil)
      (pss_one (ps_for (passes_of rfl) rfl (pi_enum (by rfl) T.b_enumerate (pa_cons (pe_cal c_inner_lists (hr.mono (by omega)) rfl pass0 (pa_cons (pv 6) pa_nil)) pa_nil)) (pg_tup rfl (pgs_cons (pg_name (i := 8) sc_RowCheck_check_list.nd rfl (.inl rfl)) (pgs_cons (pg_name (i := 9) sc_RowCheck_check_list.nd rfl (.inl rfl)) pgs_nil))) (pss_one (ps_expr (pe_mcal (pv 0) c_RowCheck m_check_list (hr.mono (by omega)) (passes_call (takes_of rfl rfl rfl rfl) (fun _ _ _ _ h => h)) (pa_cons (pv 9) (pa_cons (pe_op op_catA (pv 2) (pe_tup (pa_cons (pv 5) (pa_cons (pv 8) pa_nil)))) (pa_cons (pe_op op_add (pv 3) pe_int) (pa_cons (pv 7) pa_nil)))))))))))))))), ?_⟩
      cases hd with
      | @lst _ xs _ hq ha =>
      have hxl := ha.len
      refine ⟨_, rfl, rws, xs, rfl, hq, ?_⟩
      refine for_it walk_enum (fun i σ H' => (∃ y5 y6 y7 y8 y9 : Option V, σ = [some (.ref R.a), some (.ref rws), some (.ref pr), some (.int (5 - (n : Int))), some (.bl lp), y5, y6, y7, y8, y9]) ∧ ∃ ci mi, RC H' R E0 ci ∧ Fr R.L H H' ∧ Cap ci mi ∧ mi + 3 * wts (ds.drop i) ≤ 90000 ∧ chkL E0 (n + 1) lp ds pre c = chkRows (chkRow (chkL E0 n) E0 (5 - (n : Int)) lp pre) (ds.drop i) i ci) ⟨⟨_, _, _, _, _, rfl⟩, c, m, O, Fr.refl, hcap, hw, rfl⟩ (fun i σ H' _ p => by
        obtain ⟨_, ci, mi, O1, fr, _⟩ := p
        exact hq.kp (O.kp fr)) ?_ ?_
      · rintro i v σ H1 H2 hi ⟨⟨y5, y6, y7, y8, y9, rfl⟩, ci, mi, O1, fr1, cap1, hw1, hres⟩ ⟨T0, x0, y, rfl, hT0, rfl, hx0, hy⟩
        obtain rfl : x0 = .int (i : Nat) := (Option.some.inj hx0).symm
        obtain ⟨d, hd1, hdy⟩ := ha.get hy
        have hdrop : ds.drop i = d :: ds.drop (i + 1) := by
          obtain ⟨h1, h2⟩ := List.getElem?_eq_some_iff.mp hd1
          rw [List.drop_eq_getElem_cons h1, h2]
        rw [hdrop] at hw1 hres
        rw [wts_cons] at hw1
        refine ⟨T0, _, rfl, .inl (.inl upd_same), rfl, _, _, rfl, _, _, rfl, rfl, ?_⟩
        have sm2 : Same H1 (upd H1 T0 (.tup [.int (i : Nat), y])) := Same.new hT0
        have O2 := O1.mono sm2
        have fr2 : Fr R.L H (upd H1 T0 (.tup [.int (i : Nat), y])) := fr1.trans sm2.fr
        revert O2 fr2
        generalize upd H1 T0 (.tup [.int (i : Nat), y]) = H2
        intro O2 fr2
        have hdy2 : Dp K H2 y d := hdy.kp (O.kp fr2)
        have hwd : wt d ≤ 100000 := by omega
        refine ⟨_, rfl, _, _, _, rfl, O2.ob, rfl, _, rfl, _, rfl, _, rfl, R, E0, ci, y, d, _, lp, rfl, rfl, O2, hdy2, hwd, fun H3 s3 => ⟨_, rfl, ?_⟩⟩
        have O3 := O2.mono s3
        have fr3 : Fr R.L H H3 := fr2.trans s3.fr
        by_cases hf : ¬ fits E0 ci d (5 - (n : Int)) lp = true
        · have hf := Bool.eq_false_iff.mpr hf
          rw [hf]
          refine ifT rfl ?_
          have hp3 : SqT K H3 pr (pre.map V.int) := hpr.kp (O.kp fr3)
          refine ⟨_, rfl, _, rfl, sz1 _, fun p hp => cat_any (hp3.mono (Same.new hp)) (.inl (.inl upd_same)) (sz_lit (by rw [List.length_map]; show _ + 1 ≤ _; omega)) fun t H4 s4 ht => ⟨rfl, fun dd hdd => ?_⟩⟩
          have e : chkL E0 (n + 1) lp ds pre c = .error (pre ++ [(i : Int)]) := by
            rw [hres]
            unfold chkRows
            rw [chkRow_no hf]
          refine k2 _ e _ dd (fr3.trans ((Same.new hp).fr.trans (s4.fr.trans (Same.new hdd).fr))) ⟨t, upd_same, ?_⟩
          rw [← map_snoc]
          exact ht.mono (Same.new hdd)
        have hf : fits E0 ci d (5 - (n : Int)) lp = true := Decidable.byContradiction hf
        rw [hf]
        refine ifF rfl ?_
        obtain ⟨kind, parts, rfl⟩ := fits_tuple hf
        obtain ⟨hsh, hFit, _⟩ := fits_shape hf
        have hsl := shapes_len hsh
        have hpl4 : parts.length ≤ 4 := by rw [← hFit.1]; exact hsl
        cases hdy with
        | @tup t ys _ hqt hat =>
        have hdt : Dp K H3 (.ref t) (.tuple (.str kind :: parts)) := hdy2.mono s3
        refine ⟨_, rfl, _, _, _, _, _, rfl, O3.ob, rc.cls, rc.n4, rfl, _, _, rfl, rfl, _, _, O3.ob, (by show 8 < 1000; decide), ?_⟩
        have O4 := O3.tot (ci.total + 1)
        have fr4 : Fr R.L H3 (upd H3 R.a (.ins R.C R.dx (rcF R E0 { ci with total := ci.total + 1 }))) := Fr.refl.upd (by simp [RcA.L])
        refine ⟨_, rfl, _, _, _, rfl, O4.ob, rfl, _, rfl, R, E0, { ci with total := ci.total + 1 }, t, kind, _, parts, rfl, O4, rc, hdt.kp (O3.kp fr4), hsh, hFit, by omega, cap1.mono (by omega), fun H5 fr5 O5 => ?_⟩
        have fr45 := fr4.trans fr5
        have frH := fr3.trans fr45
        have hdt5 : Dp K H5 (.ref t) (.tuple (.str kind :: parts)) := hdt.kp (O3.kp fr45)
        clear fr5 O4 fr4
        have hq5 : ∃ vr, SqT K H5 t (.str kind :: vr) := by
          cases hdt5 with
          | @tup _ _ _ h1 h2 =>
          cases h2 with
          | @cons _ vr _ _ h3 h4 =>
          cases h3 with
          | str _ => exact ⟨vr, h1⟩
        obtain ⟨vr, hq5⟩ := hq5
        refine ⟨fun σ H' => (∃ y8' y9' : Option V, σ = [some (.ref R.a), some (.ref rws), some (.ref pr), some (.int (5 - (n : Int))), some (.bl lp), some (.int (i : Nat)), some (.ref t), some (.bl (lp || decide (kind = "loop"))), y8', y9']) ∧ H' = H5, ?_, ?_⟩
        · refine ⟨_, rfl, _, rfl, ?_⟩
          cases lp with
          | true => exact ifT rfl ⟨⟨_, _, rfl⟩, rfl⟩
          | false =>
            refine ifF rfl ⟨_, rfl, t, _, 0, _, rfl, rfl, hq5, atI_zero _ _, rfl, ?_⟩
            rw [dec_strV]
            exact ⟨⟨_, _, rfl⟩, rfl⟩
        rintro σ H' ⟨⟨y8', y9', rfl⟩, rfl⟩
        refine ⟨fun σ H'' => (∃ y8' y9' : Option V, σ = [some (.ref R.a), some (.ref rws), some (.ref pr), some (.int (5 - (n : Int))), some (.bl lp), some (.int (i : Nat)), some (.ref t), some (.bl (inside lp kind)), y8', y9']) ∧ H'' = H', ?_, ?_⟩
        · refine ⟨_, rfl, t, _, 0, _, rfl, rfl, hq5, atI_zero _ _, rfl, _, rfl, ?_⟩
          rw [dec_strV]
          unfold inside
          by_cases e : kind = "both"
          · rw [if_pos e]
            exact ifT (decide_eq_true e) ⟨⟨_, _, rfl⟩, rfl⟩
          · rw [if_neg e]
            exact ifF (decide_eq_false e) ⟨⟨_, _, rfl⟩, rfl⟩
        rintro σ H'' ⟨⟨y8', y9', rfl⟩, rfl⟩
        refine ⟨_, rfl, t, kind, parts, rfl, hdt5, by omega, fun e => ?_, fun p xs' H6 s6 _ hp6 hdp6 => ?_⟩
        · obtain ⟨ds', r', e', _⟩ := both_tuple hf e
          exact ⟨ds', r', e'⟩
        refine ⟨p, xs', rfl, .inl (.inl hp6), ?_⟩
        have hO6 := O5.mono s6
        have fr6 : Fr R.L H H6 := frH.trans s6.fr
        have hal := inner_lists_all hf
        have hlen6 := hdp6.len
        have hwi := wIn_inner kind parts
        have hres' : chkL E0 (n + 1) lp ds pre c = contR (chkRows (chkRow (chkL E0 n) E0 (5 - (n : Int)) lp pre) (ds.drop (i + 1)) (i + 1)) (chkIn (chkL E0 n (inside lp kind)) (pre ++ [(i : Int)]) (innerL kind parts) 0 (collect { ci with total := ci.total + 1 } kind (shapeOf kind) parts)) := by
          rw [hres, chkRows_cons]
          congr 1
          exact chkRow_yes hf
        refine for_it walk_enum (fun j σ H' => (∃ y8' y9' : Option V, σ = [some (.ref R.a), some (.ref rws), some (.ref pr), some (.int (5 - (n : Int))), some (.bl lp), some (.int (i : Nat)), some (.ref t), some (.bl (inside lp kind)), y8', y9']) ∧ ∃ cj mj, RC H' R E0 cj ∧ Fr R.L H6 H' ∧ Cap cj mj ∧ mj + 3 * wIn ((innerL kind parts).drop j) + 3 * wts (ds.drop (i + 1)) ≤ 90000 ∧ chkL E0 (n + 1) lp ds pre c = contR (chkRows (chkRow (chkL E0 n) E0 (5 - (n : Int)) lp pre) (ds.drop (i + 1)) (i + 1)) (chkIn (chkL E0 n (inside lp kind)) (pre ++ [(i : Int)]) ((innerL kind parts).drop j) j cj)) ⟨⟨_, _, rfl⟩, _, mi + 3 * parts.length, hO6, Fr.refl, collect_cap hFit cap1, ?_, hres'⟩ (fun j σ H' _ q => by
          obtain ⟨_, cj, mj, O7, fr7, _⟩ := q
          exact SqL.kp (.inl (.inl hp6)) (hO6.kp fr7)) ?_ ?_
        · rw [wt_tuple, wts_cons] at hw1
          rw [List.drop_zero]
          omega
        · rintro j v σ H7 H8 hj ⟨⟨y8', y9', rfl⟩, cj, mj, O7, fr7, cap7, hw7, hres7⟩ ⟨T1, x1, y1, rfl, hT1, rfl, hx1, hy1⟩
          obtain rfl : x1 = .int (j : Nat) := (Option.some.inj hx1).symm
          obtain ⟨d1, hd1', hdy1⟩ := hdp6.get hy1
          have hdrop1 : (innerL kind parts).drop j = d1 :: (innerL kind parts).drop (j + 1) := by
            obtain ⟨h1, h2⟩ := List.getElem?_eq_some_iff.mp hd1'
            rw [List.drop_eq_getElem_cons h1, h2]
          rw [hdrop1] at hw7 hres7
          have hw7 : mj + 3 * (wts (listOf d1) + wIn ((innerL kind parts).drop (j + 1))) + 3 * wts (ds.drop (i + 1)) ≤ 90000 := hw7
          obtain ⟨dl, rfl⟩ : ∃ dl, d1 = .list dl := by
            have := hal d1 (List.mem_of_getElem? hd1')
            cases d1 with
            | list dl => exact ⟨dl, rfl⟩
            | _ => cases this
          refine ⟨T1, _, rfl, .inl (.inl upd_same), rfl, _, _, rfl, _, _, rfl, rfl, ?_⟩
          have sm8 : Same H7 (upd H7 T1 (.tup [.int (j : Nat), y1])) := Same.new hT1
          have O8 := O7.mono sm8
          have fr8 : Fr R.L H6 (upd H7 T1 (.tup [.int (j : Nat), y1])) := fr7.trans sm8.fr
          revert O8 fr8
          generalize upd H7 T1 (.tup [.int (j : Nat), y1]) = H8
          intro O8 fr8
          have frA : Fr R.L H H8 := fr6.trans fr8
          have hdl : Dp K H8 y1 (.list dl) := (hdy1.mono s6).kp (hO6.kp fr8)
          cases n with
          | zero =>
            have := inner_deep hf (by show (5 : Int) ≤ 5 - (0 : Nat); omega)
            rw [this] at hd1'
            simp at hd1'
          | succ n' =>
          have hp8 : SqT K H8 pr (pre.map V.int) := hpr.kp (O.kp frA)
          obtain ⟨q1, rfl⟩ : ∃ q1, y1 = .ref q1 := by
            cases hdl with
            | lst _ _ => exact ⟨_, rfl⟩
          refine ⟨_, rfl, _, _, _, rfl, O8.ob, rfl, _, rfl, _, rfl, _, rfl, _, rfl, sz2 _ _, fun p9 hp9 => cat_any (hp8.mono (Same.new hp9)) (.inl (.inl upd_same)) (sz_lit (by rw [List.length_map]; show _ + 2 ≤ _; omega)) fun t9 H9 s9 ht9 => ⟨_, rfl, _, _, rfl, rfl, _, rfl, ?_⟩⟩
          have s89 : Same H8 H9 := (Same.new hp9).trans s9
          rw [map_snoc2] at ht9
          refine ⟨R, E0, cj, q1, t9, dl, pre ++ [(i : Int)] ++ [(j : Int)], inside lp kind, mj, ?_, rfl, O8.mono s89, hdl.mono s89, ht9, ?_, cap7, ?_, fun c' hc' H' fr' O' => ?_, fun p' hp' H' d' fr' hx' => ?_⟩
          · show [V.ref R.a, V.ref q1, V.ref t9, V.int (5 - ((n' + 1 : Nat) : Int) + 1), V.bl (inside lp kind)] = _
            rw [show (5 - ((n' + 1 : Nat) : Int) + 1) = 5 - (n' : Int) by omega]
          · rw [List.length_append, List.length_append]
            show pre.length + 1 + 1 + 2 * n' ≤ 100
            omega
          · have : wts (listOf (.list dl)) = wts dl := rfl
            omega
          · refine ⟨⟨_, _, rfl⟩, c', mj + 3 * wts dl, O', fr8.trans (s89.fr.trans fr'), chkL_cap E0 _ _ _ _ _ _ _ hc' cap7, ?_, ?_⟩
            · have : wts (listOf (.list dl)) = wts dl := rfl
              omega
            · rw [hres7]
              rw [chkIn_cons, show listOf (.list dl) = dl from rfl, hc']
              rfl
          · refine k2 p' ?_ H' d' (frA.trans (s89.fr.trans fr')) hx'
            rw [hres7]
            rw [chkIn_cons, show listOf (.list dl) = dl from rfl, hp']
            rfl
        · rintro σ H7 ⟨⟨y8', y9', rfl⟩, cj, mj, O7, fr7, cap7, hw7, hres7⟩
          rw [List.drop_of_length_le (l := innerL kind parts) (by omega)] at hres7
          exact ⟨⟨_, _, _, _, _, rfl⟩, cj, mj, O7, fr6.trans fr7, cap7, by omega, hres7⟩
      · rintro σ H' ⟨_, ci, mi, O1, fr, _, _, e⟩
        rw [List.drop_of_length_le (by omega)] at e
        exact k1 ci e H' fr O1
end
end Op
namespace Op
open PySem L2 PyProof.Rows
/-! ### the mirror: sizes, the whole check -/
def sizes (c : Chk) : Option Str :=
  if 60 < c.total then some "size"
  else if 6 < c.labels.length then some "labels"
  else if 4 < c.slots.length then some "slots"
  else if 8 < c.gates.length + c.edits.length then some "gates"
  else if 4 < c.edits.length then some "edits"
  else none
def chk0 : Chk := ⟨0, [], [], [], []⟩
def checkAll (E : Env0) (d : PyData) : Except (Str × List Int) Chk :=
  match d with
  | .list ds => match chkL E 5 false ds [] chk0 with
    | .error p => .error ("rows", p)
    | .ok c => match sizes c with
      | some s => .error (s, [])
      | none => .ok c
  | _ => .error ("rows", [])
section
variable {P : Program} {w : World} {K : PySem.W.Frag} {mg : Str → Option Value} {base : Heap} {pS CI C : Addr}
def spSizes (K : PySem.W.Frag) (C CI : Addr) : Sp := fun vs H Q X => ∃ (A : RcA) (E : Env0) (c : Chk), vs = [.ref A.a] ∧ A.C = C ∧ RC H A E c ∧ (sizes c = none → Q .non H) ∧ ∀ part, sizes c = some part → ∀ H' d, Same H H' → XProg K H' d part [] → X (.ref CI) (some d) H'
theorem sc_RowCheck_check_sizes : FnScope ["self"] ["self"] (defScope s_RowCheck_check_sizes) := ⟨rfl, rfl, rfl, by decide +kernel, rfl, by decide +kernel, by decide +kernel⟩
theorem ok_check_sizes {f : Addr} {fd : FuncData} (F : Fun K "check_sizes" "RowCheck.check_sizes" s_RowCheck_check_sizes f fd) (T : TxtC P w K mg pS CI) (rc : RcC K C) : FnOk P w K mg base (L2.CX P w) 1 f fd ["self"] (spSizes K C CI) := by
  refine F.okX sc_RowCheck_check_sizes (fun vs H Q E h => ?_) (fun cdv A outer s H vs Q E hr h => ?_)
  · obtain ⟨A, E, c, rfl, _⟩ := h
    rfl
  · obtain ⟨R, E0, c, rfl, hC, O, k1, k2⟩ := h
    subst hC
    unfold sizes at k1 k2
    refine ⟨_, (pss_cons (ps_if (pt_cmpR op_gt (pe_fld (pv 0) rfl) (pe_glob (v := .int (60)) rfl T.g_MOST_ROWS.choose_spec ⟨_, rfl⟩) (nomark _)) (pss_one (ps_raise rfl (takes_of rfl rfl rfl rfl) (pmk_x T.mk_InvalidProgram hr rfl T.g_InvalidProgram T.k_InvalidProgram T.r_InvalidProgram (pa_cons pe_str (pa_cons (pe_tup pa_nil) pa_nil))))) pss_nil)
      (pss_cons (ps_if (pt_cmpR op_gt (pe_callB call_lenD (by rfl) T.b_len (by decide +kernel) (pa_cons (pe_fld (pv 0) rfl) pa_nil)) (pe_glob (v := .int (6)) rfl T.g_MOST_LABELS.choose_spec ⟨_, rfl⟩) (nomark _)) (pss_one (ps_raise rfl (takes_of rfl rfl rfl rfl) (pmk_x T.mk_InvalidProgram hr rfl T.g_InvalidProgram T.k_InvalidProgram T.r_InvalidProgram (pa_cons pe_str (pa_cons (pe_tup pa_nil) pa_nil))))) pss_nil)
      (pss_cons (ps_if (pt_cmpR op_gt (pe_callB call_lenD (by rfl) T.b_len (by decide +kernel) (pa_cons (pe_fld (pv 0) rfl) pa_nil)) (pe_glob (v := .int (4)) rfl T.g_MOST_SLOTS.choose_spec ⟨_, rfl⟩) (nomark _)) (pss_one (ps_raise rfl (takes_of rfl rfl rfl rfl) (pmk_x T.mk_InvalidProgram hr rfl T.g_InvalidProgram T.k_InvalidProgram T.r_InvalidProgram (pa_cons pe_str (pa_cons (pe_tup pa_nil) pa_nil))))) pss_nil)
      (pss_cons (ps_if (pt_cmpR op_gt (pe_op op_add (pe_callB call_lenD (by rfl) T.b_len (by decide +kernel) (pa_cons (pe_fld (pv 0) rfl) pa_nil)) (pe_callB call_lenD (by rfl) T.b_len (by decide +kernel) (pa_cons (pe_fld (pv 0) rfl) pa_nil))) (pe_glob (v := .int (8)) rfl T.g_MOST_GATES.choose_spec ⟨_, rfl⟩) (nomark _)) (pss_one (ps_raise rfl (takes_of rfl rfl rfl rfl) (pmk_x T.mk_InvalidProgram hr rfl T.g_InvalidProgram T.k_InvalidProgram T.r_InvalidProgram (pa_cons pe_str (pa_cons (pe_tup pa_nil) pa_nil))))) pss_nil)
      (pss_one (ps_if (pt_cmpR op_gt (pe_callB call_lenD (by rfl) T.b_len (by decide +kernel) (pa_cons (pe_fld (pv 0) rfl) pa_nil)) (pe_glob (v := .int (4)) rfl T.g_MOST_EDITS.choose_spec ⟨_, rfl⟩) (nomark _)) (pss_one (ps_raise rfl (takes_of rfl rfl rfl rfl) (pmk_x T.mk_InvalidProgram hr rfl T.g_InvalidProgram T.k_InvalidProgram T.r_InvalidProgram (pa_cons pe_str (pa_cons (pe_tup pa_nil) pa_nil))))) pss_nil)))))), ?_⟩
    have fin : ∀ part : Str, (∀ H' d, Same H H' → XProg K H' d part [] → E (.ref CI) (some d) H') → ∀ p, H p = none → ∀ d, upd H p (.tup []) d = none → E (.ref CI) (some d) (upd (upd H p (.tup [])) d (.xd [("path", .ref p), ("part", .str part)])) := by
      intro part k p hp d hd
      refine k _ d ((Same.new hp).trans (Same.new hd)) ⟨p, upd_same, ?_⟩
      exact SqT.mono (.inl (.inl upd_same)) (Same.new hd)
    refine ⟨_, rfl, _, _, _, _, _, rfl, O.ob, rc.cls, rc.n4, rfl, _, _, rfl, rfl, _, rfl, ?_⟩
    by_cases e1 : 60 < c.total
    · rw [if_pos e1] at k2
      exact ifT (decide_eq_true e1) ⟨sz_lit (by decide), fun p hp => ⟨rfl, fun d hd => fin _ (k2 _ rfl) p hp d hd⟩⟩
    rw [if_neg e1] at k1 k2
    refine ifF (decide_eq_false e1) ⟨_, rfl, _, _, _, _, _, rfl, O.ob, rc.cls, rc.n5, rfl, _, _, rfl, O.dl, _, _, rfl, rfl, _, rfl, ?_⟩
    rw [dkT_len]
    by_cases e2 : 6 < c.labels.length
    · rw [if_pos e2] at k2
      exact ifT (decide_eq_true (show (6 : Int) < (c.labels.length : Int) by omega)) ⟨sz_lit (by decide), fun p hp => ⟨rfl, fun d hd => fin _ (k2 _ rfl) p hp d hd⟩⟩
    rw [if_neg e2] at k1 k2
    refine ifF (decide_eq_false (show ¬ (6 : Int) < (c.labels.length : Int) by omega)) ⟨_, rfl, _, _, _, _, _, rfl, O.ob, rc.cls, rc.n6, rfl, _, _, rfl, O.ds, _, _, rfl, rfl, _, rfl, ?_⟩
    rw [dkT_len]
    by_cases e3 : 4 < c.slots.length
    · rw [if_pos e3] at k2
      exact ifT (decide_eq_true (show (4 : Int) < (c.slots.length : Int) by omega)) ⟨sz_lit (by decide), fun p hp => ⟨rfl, fun d hd => fin _ (k2 _ rfl) p hp d hd⟩⟩
    rw [if_neg e3] at k1 k2
    refine ifF (decide_eq_false (show ¬ (4 : Int) < (c.slots.length : Int) by omega)) ⟨_, rfl, _, _, _, _, _, rfl, O.ob, rc.cls, rc.n7, rfl, _, _, rfl, O.dg, _, rfl, _, _, _, _, _, rfl, O.ob, rc.cls, rc.n8, rfl, _, _, rfl, O.de, _, _, rfl, rfl, _, _, rfl, rfl, _, rfl, ?_⟩
    rw [dkT_len, dkT_len]
    by_cases e4 : 8 < c.gates.length + c.edits.length
    · rw [if_pos e4] at k2
      exact ifT (decide_eq_true (show (8 : Int) < (c.gates.length : Int) + (c.edits.length : Int) by omega)) ⟨sz_lit (by decide), fun p hp => ⟨rfl, fun d hd => fin _ (k2 _ rfl) p hp d hd⟩⟩
    rw [if_neg e4] at k1 k2
    refine ifF (decide_eq_false (show ¬ (8 : Int) < (c.gates.length : Int) + (c.edits.length : Int) by omega)) ⟨_, rfl, _, _, _, _, _, rfl, O.ob, rc.cls, rc.n8, rfl, _, _, rfl, O.de, _, _, rfl, rfl, _, rfl, ?_⟩
    rw [dkT_len]
    by_cases e5 : 4 < c.edits.length
    · rw [if_pos e5] at k2
      exact ifT (decide_eq_true (show (4 : Int) < (c.edits.length : Int) by omega)) ⟨sz_lit (by decide), fun p hp => ⟨rfl, fun d hd => fin _ (k2 _ rfl) p hp d hd⟩⟩
    rw [if_neg e5] at k1 k2
    exact ifF (decide_eq_false (show ¬ (4 : Int) < (c.edits.length : Int) by omega)) (k1 rfl)
end
end Op
namespace Op
open PySem L2 PyProof.Rows
section
variable {P : Program} {w : World} {K : PySem.W.Frag} {mg : Str → Option Value} {base : Heap} {pS CI C : Addr}
def spCheck (K : PySem.W.Frag) (C CI : Addr) : Sp := fun vs H Q X => ∃ (A : RcA) (E : Env0) (v : V) (d : PyData), vs = [.ref A.a, v] ∧ A.C = C ∧ RC H A E chk0 ∧ Dp K H v d ∧ wt d ≤ 30000 ∧
  (∀ c, checkAll E d = .ok c → ∀ H', Fr A.L H H' → RC H' A E c → Q .non H') ∧ ∀ part path, checkAll E d = .error (part, path) → ∀ H' dd, Fr A.L H H' → XProg K H' dd part path → X (.ref CI) (some dd) H'
theorem sc_RowCheck_check : FnScope ["self", "rows"] ["self", "rows"] (defScope s_RowCheck_check) := ⟨rfl, rfl, rfl, by decide +kernel, rfl, by decide +kernel, by decide +kernel⟩
theorem ok_check {f : Addr} {fd : FuncData} (F : Fun K "check" "RowCheck.check" s_RowCheck_check f fd) (T : TxtC P w K mg pS CI) (rc : RcC K C) (m_check_list : Mcal P w K mg base (L2.CX P w) 11 C "check_list" ["self", "rows", "prefix", "depth", "in_loop"] (spCL K C CI 5)) (m_check_sizes : Mcal P w K mg base (L2.CX P w) 1 C "check_sizes" ["self"] (spSizes K C CI)) :
    FnOk P w K mg base (L2.CX P w) 12 f fd ["self", "rows"] (spCheck K C CI) := by
  refine F.okX sc_RowCheck_check (fun vs H Q E h => ?_) (fun cdv A outer s H vs Q E hr h => ?_)
  · obtain ⟨A, E, v, d, rfl, _⟩ := h
    rfl
  · obtain ⟨R, E0, v, d, rfl, hC, O, hd, hw, k1, k2⟩ := h
    have c_RowCheck := rc.cls
    subst hC
    refine ⟨_, (pss_cons (ps_if (pt_not (pt_val (pe_callB call_isi (by rfl) T.b_isinstance (by decide +kernel) (pa_cons (pv 1) (pa_cons (pe_bltn (v := .ty "list") (by rfl) T.b_list (by decide +kernel) rfl) pa_nil))))) (pss_one (ps_raise rfl (takes_of rfl rfl rfl rfl) (pmk_x T.mk_InvalidProgram hr rfl T.g_InvalidProgram T.k_InvalidProgram T.r_InvalidProgram (pa_cons pe_str (pa_cons (pe_tup pa_nil) pa_nil))))) pss_nil)
      (pss_cons (ps_expr (pe_mcal (pv 0) c_RowCheck m_check_list (hr.mono (by omega)) (passes_call (takes_of rfl rfl rfl rfl) (fun _ _ _ _ h => h)) (pa_cons (pv 1) (pa_cons (pe_tup pa_nil) (pa_cons pe_int (pa_cons pe_bl pa_nil))))))
      (pss_one (ps_expr (pe_mcal0 (pv 0) c_RowCheck m_check_sizes (hr.mono (by omega)) (passes_call (takes_of rfl rfl rfl rfl) (fun _ _ _ _ h => h))))))), ?_⟩
    refine ⟨_, rfl, v, _, _, _, _, rfl, .ty _, ty_dp hd, kit_list d, _, rfl, ?_⟩
    have fin : (∀ H' dd, Fr R.L H H' → XProg K H' dd "rows" [] → E (.ref CI) (some dd) H') → ∀ p, H p = none → ∀ d, upd H p (.tup []) d = none → E (.ref CI) (some d) (upd (upd H p (.tup [])) d (.xd [("path", .ref p), ("part", .str "rows")])) := by
      intro k p hp d hd
      refine k _ d ((Same.new hp).trans (Same.new hd)).fr ⟨p, upd_same, ?_⟩
      exact SqT.mono (.inl (.inl upd_same)) (Same.new hd)
    cases hd with
    | @lst q xs ds hq ha =>
      have hw' : 1 + wts ds ≤ 30000 := by rw [wt_list] at hw; exact hw
      refine ifF rfl ⟨_, rfl, _, _, _, rfl, O.ob, rfl, _, rfl, sz_lit (by decide), fun p hp => ?_⟩
      have s1 : Same H (upd H p (.tup [])) := Same.new hp
      refine ⟨R, E0, chk0, q, p, ds, [], false, 0, rfl, rfl, O.mono s1, (Dp.lst hq ha).mono s1, .inl (.inl upd_same), by decide, ⟨Nat.le_refl _, Nat.le_refl _, Nat.le_refl _, Nat.le_refl _⟩, by omega, fun c' hc' H' fr' O' => ?_, fun p' hp' H' d' fr' hx' => ?_⟩
      · refine ⟨_, rfl, _, _, _, rfl, O'.ob, rfl, R, E0, c', rfl, rfl, O', fun hs => ?_, fun part hs H'' d'' s'' hx'' => ?_⟩
        · refine k1 c' ?_ H' (s1.fr.trans fr') O'
          unfold checkAll
          simp only [hc', hs]
        · refine k2 part [] ?_ H'' d'' (s1.fr.trans (fr'.trans s''.fr)) hx''
          unfold checkAll
          simp only [hc', hs]
      · refine k2 "rows" p' ?_ H' d' (s1.fr.trans fr') hx'
        unfold checkAll
        simp only [hp']
    | _ => exact ifT rfl ⟨sz_lit (by decide), fun p hp => ⟨rfl, fun d hd => fin (k2 _ _ rfl) p hp d hd⟩⟩
/-! ### the making of it -/
theorem init_step {H : Hp} {x p C dx : Addr} {fs : List (Str × V)} {f : Str} (h : H x = some (.ins C dx fs)) (hp : H p = none) :
    upd (upd H p (.dK [])) x (.ins C dx (putF f (.ref p) fs)) x = some (.ins C dx (putF f (.ref p) fs)) ∧ upd (upd H p (.dK [])) x (.ins C dx (putF f (.ref p) fs)) p = some (.dK []) ∧ (∀ b o, H b = some o → b ≠ x → upd (upd H p (.dK [])) x (.ins C dx (putF f (.ref p) fs)) b = some o) ∧ ∀ b o, H b = some o → p ≠ b := by
  have hpx : p ≠ x := fun e => by rw [e, h] at hp; cases hp
  refine ⟨upd_same, by rw [upd_ne hpx, upd_same], fun b o hb hbx => ?_, fun b o hb e => ?_⟩
  · rw [upd_ne hbx, upd_ne (ne_of_none hb hp)]
    exact hb
  · rw [e, hb] at hp
    cases hp
def spRcInit (K : PySem.W.Frag) (C : Addr) : Sp := fun vs H Q _ => ∃ (x dx ka ks : Addr) (E : Env0), vs = [.ref x, .ref ka, .ref ks, .bl E.we] ∧ H x = some (.ins C dx []) ∧ Known H ka E.asks ∧ Known H ks E.sigs ∧
  ∀ H' A, A.a = x → A.C = C → (∀ b ∈ [A.l, A.s, A.g, A.e], H b = none) → RC H' A E chk0 → (∀ b o, H b = some o → b ≠ x → H' b = some o) → Q .non H'
theorem sc_RowCheck___init__ : FnScope ["self", "asks", "signals", "with_edits"] ["self", "asks", "signals", "with_edits"] (defScope s_RowCheck___init__) := ⟨rfl, rfl, rfl, by decide +kernel, rfl, by decide +kernel, by decide +kernel⟩
theorem ok_rcinit {f : Addr} {fd : FuncData} (F : Fun K "__init__" "RowCheck.__init__" s_RowCheck___init__ f fd) (rc : RcC K C) : FnOk P w K mg base CX0 1 f fd ["self", "asks", "signals", "with_edits"] (spRcInit K C) := by
  refine F.ok sc_RowCheck___init__ (fun vs H Q E h => ?_) (fun cdv A outer s H vs Q E hr h => ?_)
  · obtain ⟨x, dx, ka, ks, E, rfl, _⟩ := h
    rfl
  · obtain ⟨x, dx, ka, ks, E0, rfl, hx, hka, hks, k⟩ := h
    have nka : ka ≠ x := hka.ne_ins hx
    have nks : ks ≠ x := hks.ne_ins hx
    refine ⟨_, (pss_cons (ps_fld (pv 0) (pv 1) rfl)
      (pss_cons (ps_fld (pv 0) (pv 2) rfl)
      (pss_cons (ps_fld (pv 0) (pv 3) rfl)
      (pss_cons (ps_fld (pv 0) pe_int rfl)
      (pss_cons (ps_fld (pv 0) pe_dnewK rfl)
      (pss_cons (ps_fld (pv 0) pe_dnewK rfl)
      (pss_cons (ps_fld (pv 0) pe_dnewK rfl)
      (pss_one (ps_fld (pv 0) pe_dnewK rfl))))))))), ?_⟩
    refine ⟨_, rfl, _, rfl, x, C, dx, _, rfl, hx, rc.cls, rc.n1, (by show 0 < 1000; decide), ?_⟩
    refine ⟨_, rfl, _, rfl, x, C, dx, _, rfl, upd_same, rc.cls, rc.n2, (by show 1 < 1000; decide), ?_⟩
    refine ⟨_, rfl, _, rfl, x, C, dx, _, rfl, upd_same, rc.cls, rc.n3, (by show 2 < 1000; decide), ?_⟩
    refine ⟨_, rfl, x, C, dx, _, rfl, upd_same, rc.cls, rc.n4, (by show 3 < 1000; decide), ?_⟩
    rw [upd_upd, upd_upd, upd_upd]
    have g0 : ∀ b o, H b = some o → b ≠ x → upd H x (.ins C dx (putF "total" (.int 0) (putF "with_edits" (.bl E0.we) (putF "known_signals" (.ref ks) (putF "known_asks" (.ref ka) []))))) b = some o := fun b o hb hbx => by rw [upd_ne hbx]; exact hb
    have x0 : upd H x (.ins C dx (putF "total" (.int 0) (putF "with_edits" (.bl E0.we) (putF "known_signals" (.ref ks) (putF "known_asks" (.ref ka) []))))) x = some (.ins C dx (putF "total" (.int 0) (putF "with_edits" (.bl E0.we) (putF "known_signals" (.ref ks) (putF "known_asks" (.ref ka) []))))) := upd_same
    have n0 : ∀ b, upd H x (.ins C dx (putF "total" (.int 0) (putF "with_edits" (.bl E0.we) (putF "known_signals" (.ref ks) (putF "known_asks" (.ref ka) []))))) b = none → H b = none := fun b hb => by
      cases q : H b with
      | none => rfl
      | some o =>
        by_cases e : b = x
        · rw [e, x0] at hb; cases hb
        · rw [g0 b o q e] at hb; cases hb
    revert g0 x0 n0
    generalize upd H x (.ins C dx (putF "total" (.int 0) (putF "with_edits" (.bl E0.we) (putF "known_signals" (.ref ks) (putF "known_asks" (.ref ka) []))))) = H0
    intro g0 x0 n0
    refine fun p1 hp1 => ⟨_, rfl, x, C, dx, _, rfl, Same.new hp1 _ _ x0, rc.cls, rc.n5, (by show 4 < 1000; decide), ?_⟩
    obtain ⟨x1, q1, g1, m1⟩ := init_step (f := "label_words") x0 hp1
    revert x1 q1 g1
    generalize upd (upd H0 p1 (.dK [])) x (.ins C dx (putF "label_words" (.ref p1) _)) = H1
    intro x1 q1 g1
    refine fun p2 hp2 => ⟨_, rfl, x, C, dx, _, rfl, Same.new hp2 _ _ x1, rc.cls, rc.n6, (by show 5 < 1000; decide), ?_⟩
    obtain ⟨x2, q2, g2, m2⟩ := init_step (f := "slot_words") x1 hp2
    revert x2 q2 g2
    generalize upd (upd H1 p2 (.dK [])) x (.ins C dx (putF "slot_words" (.ref p2) _)) = H2
    intro x2 q2 g2
    refine fun p3 hp3 => ⟨_, rfl, x, C, dx, _, rfl, Same.new hp3 _ _ x2, rc.cls, rc.n7, (by show 6 < 1000; decide), ?_⟩
    obtain ⟨x3, q3, g3, m3⟩ := init_step (f := "gate_words") x2 hp3
    revert x3 q3 g3
    generalize upd (upd H2 p3 (.dK [])) x (.ins C dx (putF "gate_words" (.ref p3) _)) = H3
    intro x3 q3 g3
    refine fun p4 hp4 => ⟨_, rfl, x, C, dx, _, rfl, Same.new hp4 _ _ x3, rc.cls, rc.n8, (by show 7 < 1000; decide), ?_⟩
    obtain ⟨x4, q4, g4, m4⟩ := init_step (f := "edit_words") x3 hp4
    revert x4 q4 g4
    generalize upd (upd H3 p4 (.dK [])) x (.ins C dx (putF "edit_words" (.ref p4) _)) = H4
    intro x4 q4 g4
    have p1x : p1 ≠ x := m1 x _ x0
    have p2x : p2 ≠ x := m2 x _ x1
    have p3x : p3 ≠ x := m3 x _ x2
    have p4x : p4 ≠ x := m4 x _ x3
    have gg : ∀ b o, H b = some o → b ≠ x → H4 b = some o := fun b o hb hbx => g4 b o (g3 b o (g2 b o (g1 b o (g0 b o hb hbx) hbx) hbx) hbx) hbx
    have a1 : H1 p1 = some (.dK []) := q1
    have a2 : H2 p1 = some (.dK []) := g2 _ _ a1 p1x
    have a3 : H3 p1 = some (.dK []) := g3 _ _ a2 p1x
    have b2 : H2 p2 = some (.dK []) := q2
    have b3 : H3 p2 = some (.dK []) := g3 _ _ b2 p2x
    have c3 : H3 p3 = some (.dK []) := q3
    have e12 : p1 ≠ p2 := (m2 _ _ a1).symm
    have e13 : p1 ≠ p3 := (m3 _ _ a2).symm
    have e14 : p1 ≠ p4 := (m4 _ _ a3).symm
    have e23 : p2 ≠ p3 := (m3 _ _ b2).symm
    have e24 : p2 ≠ p4 := (m4 _ _ b3).symm
    have e34 : p3 ≠ p4 := (m4 _ _ c3).symm
    have up1 : ∀ b o, H b = some o → b ≠ x → H1 b = some o := fun b o hb hbx => g1 b o (g0 b o hb hbx) hbx
    have up2 : ∀ b o, H b = some o → b ≠ x → H2 b = some o := fun b o hb hbx => g2 b o (up1 b o hb hbx) hbx
    have up3 : ∀ b o, H b = some o → b ≠ x → H3 b = some o := fun b o hb hbx => g3 b o (up2 b o hb hbx) hbx
    have old : ∀ b o, H b = some o → b ≠ x → b ≠ p1 ∧ b ≠ p2 ∧ b ≠ p3 ∧ b ≠ p4 := fun b o hb hbx =>
      ⟨(m1 _ _ (g0 b o hb hbx)).symm, (m2 _ _ (up1 b o hb hbx)).symm, (m3 _ _ (up2 b o hb hbx)).symm, (m4 _ _ (up3 b o hb hbx)).symm⟩
    have oka := let ⟨kvs, h, _⟩ := hka; old _ _ h nka
    have oks := let ⟨kvs, h, _⟩ := hks; old _ _ h nks
    refine k H4 ⟨C, x, dx, ka, ks, p1, p2, p3, p4⟩ rfl rfl ?_ ⟨x4, hka.mono fun o h => gg _ o h nka, hks.mono fun o h => gg _ o h nks, g4 _ _ a3 p1x, g4 _ _ b3 p2x, g4 _ _ c3 p3x, q4, ?_, ?_⟩ gg
    · intro b hb
      cases q : H b with
      | none => rfl
      | some o =>
        exfalso
        have hb : b = p1 ∨ b = p2 ∨ b = p3 ∨ b = p4 := by simpa using hb
        by_cases hbx : b = x
        · rcases hb with e | e | e | e
          · exact p1x (e.symm.trans hbx)
          · exact p2x (e.symm.trans hbx)
          · exact p3x (e.symm.trans hbx)
          · exact p4x (e.symm.trans hbx)
        · obtain ⟨o1, o2, o3, o4⟩ := old b o q hbx
          rcases hb with e | e | e | e
          · exact o1 e
          · exact o2 e
          · exact o3 e
          · exact o4 e
    · simp [List.nodup_cons, oka, e12, e13, e14, e23, e24, e34]
    · simp [List.nodup_cons, oks, e12, e13, e14, e23, e24, e34]
end
end Op
namespace Op
open PySem L2 PyProof.Rows
/-! ### an argument that may be None, a dict with text keys, or something else -/
inductive ArgD where
  | none
  | dict (kvs : List (Str × PyData))
  | other (d : PyData)
def KvsR (K : PySem.W.Frag) (H : Hp) : List (Key × V) → List (Str × PyData) → Prop
  | [], [] => True
  | (k, v) :: r, (x, d) :: t => k = .inr x ∧ Dp K H v d ∧ KvsR K H r t
  | _, _ => False
def ArgV (K : PySem.W.Frag) (H : Hp) (v : V) : ArgD → Prop
  | .none => v = .non
  | .dict kvs => ∃ p vs, v = .ref p ∧ H p = some (.dK vs) ∧ KvsR K H vs kvs ∧ (kvs.map (·.1)).Nodup
  | .other d => Dp K H v d ∧ d ≠ .none
def argSmall : ArgD → Prop
  | .dict kvs => kvs.length ≤ 60 ∧ ∀ p ∈ kvs, p.1.length ≤ 100000 ∧ wt p.2 ≤ 100000
  | _ => True
def argL : V → List Addr
  | .ref p => [p]
  | _ => []
section
variable {K : PySem.W.Frag} {H H' : Hp}
theorem KvsR.kp (s : Kp H H') : ∀ {vs : List (Key × V)} {kvs : List (Str × PyData)}, KvsR K H vs kvs → KvsR K H' vs kvs
  | [], [], _ => trivial
  | (k, v) :: r, (x, d) :: t, ⟨h1, h2, h3⟩ => ⟨h1, h2.kp s, KvsR.kp s h3⟩
theorem KvsR.len : ∀ {vs : List (Key × V)} {kvs : List (Str × PyData)}, KvsR K H vs kvs → vs.length = kvs.length
  | [], [], _ => rfl
  | (k, v) :: r, (x, d) :: t, ⟨h1, h2, h3⟩ => congrArg Nat.succ (KvsR.len h3)
theorem KvsR.keys : ∀ {vs : List (Key × V)} {kvs : List (Str × PyData)}, KvsR K H vs kvs → vs.map (·.1) = (kvs.map (·.1)).map Sum.inr
  | [], [], _ => rfl
  | (k, v) :: r, (x, d) :: t, ⟨h1, h2, h3⟩ => by
    rw [List.map_cons, List.map_cons, List.map_cons, KvsR.keys h3, h1]
theorem KvsR.get : ∀ {vs : List (Key × V)} {kvs : List (Str × PyData)} {i : Nat} {k : Key} {v : V}, KvsR K H vs kvs → vs[i]? = some (k, v) → ∃ x d, kvs[i]? = some (x, d) ∧ k = .inr x ∧ Dp K H v d
  | [], [], i, k, v, _, h => by simp at h
  | (k, v) :: r, (x, d) :: t, 0, k', v', ⟨h1, h2, h3⟩, e => by
    obtain ⟨rfl, rfl⟩ := Prod.mk.inj (Option.some.inj e)
    exact ⟨x, d, rfl, h1, h2⟩
  | (k, v) :: r, (x, d) :: t, i + 1, k', v', ⟨h1, h2, h3⟩, e => KvsR.get (i := i) h3 e
def lk (kvs : List (Str × PyData)) (y : Str) : PyData := (kvs.lookup y).getD .none
theorem KvsR.val : ∀ {vs : List (Key × V)} {kvs : List (Str × PyData)} (y : Str), KvsR K H vs kvs → y ∈ kvs.map (·.1) → ∃ v, valV vs (.inr y) = some v ∧ Dp K H v (lk kvs y)
  | [], [], y, _, h => by simp at h
  | (k, v) :: r, (x, d) :: t, y, ⟨h1, h2, h3⟩, h => by
    by_cases e : y = x
    · subst e
      refine ⟨v, by rw [h1]; exact valV_pos rfl, ?_⟩
      unfold lk
      rw [List.lookup_cons, beq_self_eq_true]
      exact h2
    · have hm : y ∈ t.map (·.1) := by
        rw [List.map_cons] at h
        exact (List.mem_cons.mp h).resolve_left e
      obtain ⟨w, g1, g2⟩ := KvsR.val y h3 hm
      refine ⟨w, by rw [h1, valV_neg (fun q => e (Sum.inr.inj q).symm)]; exact g1, ?_⟩
      unfold lk at g2 ⊢
      rw [List.lookup_cons, show (y == x) = false by simpa using e]
      exact g2
theorem lk_self : ∀ {kvs : List (Str × PyData)}, (kvs.map (·.1)).Nodup → (kvs.map (·.1)).map (fun y => (y, lk kvs y)) = kvs := by
  intro kvs
  induction kvs with
  | nil => intro _; rfl
  | cons p r ih =>
    obtain ⟨x, d⟩ := p
    intro h
    rw [List.map_cons, List.nodup_cons] at h
    rw [List.map_cons, List.map_cons]
    have e1 : lk ((x, d) :: r) x = d := by
      unfold lk
      rw [List.lookup_cons, beq_self_eq_true]
      rfl
    rw [e1]
    have e2 : (r.map (·.1)).map (fun y => (y, lk ((x, d) :: r) y)) = (r.map (·.1)).map (fun y => (y, lk r y)) := List.map_congr_left fun y hy => by
      have : (y == x) = false := by simpa using fun e : y = x => h.1 (e ▸ hy)
      unfold lk
      rw [List.lookup_cons, this]
    rw [e2, ih h.2]
end
def okTab (ok : PyData → Bool) (most : Nat) : ArgD → Option (List (Str × PyData))
  | .none => some []
  | .other _ => none
  | .dict kvs => if kvs.length ≤ most ∧ (kvs.all fun p => isWordS p.1 && ok p.2) = true then some kvs else none
section
variable {P : Program} {w : World} {K : PySem.W.Frag} {mg : Str → Option Value} {base : Heap} {pS CI : Addr}
def spTab (K : PySem.W.Frag) (CI : Addr) (part : Str) (ok : PyData → Bool) (most : Nat) : Sp := fun vs H Q X => ∃ v a, vs = [v] ∧ ArgV K H v a ∧ argSmall a ∧
  (∀ kvs, okTab ok most a = some kvs → ∀ p' H' ws kvs', Same H H' → H p' = none → H' p' = some (.dK ws) → kvs'.Perm kvs → sortedS (kvs'.map (·.1)) = true → KvsR K H' ws kvs' → Q (.ref p') H') ∧
  (okTab ok most a = none → ∀ H' d, Fr (argL v) H H' → XProg K H' d part [] → X (.ref CI) (some d) H')
theorem nodup_take {ys : List Str} {i : Nat} {y : Str} (h : ys.Nodup) (e : ys[i]? = some y) : y ∉ ys.take i := fun m => by
  obtain ⟨j, hj⟩ := List.getElem?_of_mem m
  have hji : j < i := by
    have := (List.getElem?_eq_some_iff.mp hj).1
    rw [List.length_take] at this
    omega
  rw [List.getElem?_take, if_pos hji] at hj
  obtain ⟨h1, e1⟩ := List.getElem?_eq_some_iff.mp hj
  obtain ⟨h2, e2⟩ := List.getElem?_eq_some_iff.mp e
  exact (List.pairwise_iff_getElem.mp h) j i h1 h2 hji (e1.trans e2.symm)
theorem tyV_dK {H : Hp} {p : Addr} {kvs : List (Key × V)} (h : H p = some (.dK kvs)) : tyV K "dict" (.ref p) H := .inr (.inr (.inl ⟨rfl, .inl ⟨kvs, h⟩⟩))
theorem kit_dictK {H : Hp} {p : Addr} {kvs : List (Key × V)} (h : H p = some (.dK kvs)) : TyX K H (.ref p) (.type "dict") := .base (.dK h)
theorem sc_checked_asks : FnScope ["value", "name", "words"] ["value"] (defScope s_checked_asks) := ⟨rfl, rfl, rfl, by decide +kernel, rfl, by decide +kernel, by decide +kernel⟩
theorem ok_checked_asks {f : Addr} {fd : FuncData} (F : Fun K "checked_asks" "checked_asks" s_checked_asks f fd) (T : TxtC P w K mg pS CI) (c_is_word : Cal P w K mg base CX0 1 "is_word" ["value"] (spWord K)) (c_are_words : Cal P w K mg base CX0 2 "are_words" ["value", "most"] (spAreWords K)) :
    FnOk P w K mg base (L2.CX P w) 3 f fd ["value"] (spTab K CI "asks" (areWords 4) 6) := by
  refine F.okX sc_checked_asks (fun vs H Q E h => ?_) (fun cdv A outer s H vs Q E hr h => ?_)
  · obtain ⟨v, a, rfl, _⟩ := h
    rfl
  · obtain ⟨v, a, rfl, hv, hsm, k1, k2⟩ := h
    have hu := hu_of hr
    refine ⟨_, (pss_cons (ps_if (pt_cmpR op_isN (pv 0) pe_non (nomark _)) (pss_one (ps_ret pe_dnewK)) pss_nil)
      (pss_cons (ps_if (PW.pt (pw_or (pt_not (pt_val (pe_callB call_isi (by rfl) T.b_isinstance (by decide +kernel) (pa_cons (pv 0) (pa_cons (pe_bltn (v := .ty "dict") (by rfl) T.b_dict (by decide +kernel) rfl) pa_nil))))) (pw_or1 (pt_cmpR op_gt (pe_callB call_lenD (by rfl) T.b_len (by decide +kernel) (pa_cons (pv 0) pa_nil)) pe_int (nomark _))))) (pss_one (ps_raise rfl (takes_of rfl rfl rfl rfl) (pmk_x T.mk_InvalidProgram hr rfl T.g_InvalidProgram T.k_InvalidProgram T.r_InvalidProgram (pa_cons pe_str (pa_cons (pe_tup pa_nil) pa_nil))))) pss_nil)
      (pss_cons (ps_lock (ps_for (passes_of rfl) rfl (pi_items (pv 0)) (pg_tup rfl (pgs_cons (pg_name (i := 1) sc_checked_asks.nd rfl (.inl rfl)) (pgs_cons (pg_name (i := 2) sc_checked_asks.nd rfl (.inl rfl)) pgs_nil))) (pss_one (ps_if (PW.pt (pw_or (pt_not (pt_val (pe_cal c_is_word (hr.mono (by omega)) rfl pass0 (pa_cons (pv 1) pa_nil)))) (pw_or1 (pt_not (pt_val (pe_cal c_are_words (hr.mono (by omega)) rfl pass0 (pa_cons (pv 2) (pa_cons pe_int pa_nil)))))))) (pss_one (ps_raise rfl (takes_of rfl rfl rfl rfl) (pmk_x T.mk_InvalidProgram hr rfl T.g_InvalidProgram T.k_InvalidProgram T.r_InvalidProgram (pa_cons pe_str (pa_cons (pe_tup pa_nil) pa_nil))))) pss_nil))))
      (pss_one (ps_ret (pe_dc (own := [("name", 1)]) (g := gName 1) (tt := tYes) rfl sc_checked_asks.nd (pi_list (pe_callB (call_sortedKV rfl) (by rfl) T.b_sorted (by decide +kernel) (pa_cons (pe_bm0 PySem.F.plainAttrs_dict PySem.F.slot_dict_keys PySem.F.type_dict_keys mt_keysV (pv 0)) pa_nil))) (blkOk_by (own := [("name", 1)]) (N := ["value", "name", "words"]) (sc := defScope s_checked_asks) (by decide +kernel)) (fun _ _ _ _ _ => (pg_name (i := 1) sc_checked_asks.nd rfl (.inl rfl))) (fun _ _ _ _ _ => pts_nil) (fun _ _ _ _ _ => (pv 1)) (fun _ _ _ _ _ => (pe_dget hu (pv 0) (pv 1) (fun _ _ => rfl))))))))), ?_⟩
    have fin : (∀ H' dd, Fr (argL v) H H' → XProg K H' dd "asks" [] → E (.ref CI) (some dd) H') → ∀ H1, Fr (argL v) H H1 → ∀ p, H1 p = none → ∀ d, upd H1 p (.tup []) d = none → E (.ref CI) (some d) (upd (upd H1 p (.tup [])) d (.xd [("path", .ref p), ("part", .str "asks")])) := by
      intro k H1 f1 p hp d hd
      refine k _ d (f1.trans ((Same.new hp).trans (Same.new hd)).fr) ⟨p, upd_same, ?_⟩
      exact SqT.mono (.inl (.inl upd_same)) (Same.new hd)
    cases a with
    | none =>
      obtain rfl := hv
      refine ⟨_, rfl, rfl, _, rfl, ifT rfl fun p hp => ?_⟩
      exact k1 [] rfl p _ [] [] (Same.new hp) hp upd_same .nil rfl trivial
    | other d =>
      obtain ⟨hd, hn⟩ := hv
      have hvn : decide (v = .non) = false := decide_eq_false fun e => by
        subst e
        cases hd
        exact hn rfl
      refine ⟨_, rfl, rfl, _, rfl, ?_⟩
      rw [hvn]
      refine ifF rfl ⟨_, rfl, v, _, _, _, _, rfl, .ty _, ty_dp hd, kit_dict d, _, rfl, ?_⟩
      have fin' : ∀ p, H p = none → ∀ d, upd H p (.tup []) d = none → E (.ref CI) (some d) (upd (upd H p (.tup [])) d (.xd [("path", .ref p), ("part", .str "asks")])) := fin (k2 rfl) H Fr.refl
      cases hd <;> exact ifT rfl (ifT rfl ⟨sz_lit (by decide), fun p hp => ⟨rfl, fun d hd => fin' p hp d hd⟩⟩)
    | dict kvs =>
      obtain ⟨p, vs, rfl, hp, hkv, hnd⟩ := hv
      obtain ⟨hl60, hsmall⟩ := hsm
      have hlen := hkv.len
      refine ⟨_, rfl, rfl, _, rfl, ifF rfl ?_⟩
      refine ⟨_, rfl, .ref p, _, _, _, _, rfl, .ty _, kit_dictK hp, kit_ty (show kitB "dict" "dict" = some true by decide +kernel), _, rfl, ifF rfl ?_⟩
      refine ⟨_, rfl, p, vs, rfl, hp, _, _, rfl, rfl, _, rfl, ?_⟩
      by_cases e1 : 6 < vs.length
      · refine ifT (decide_eq_true (show (6 : Int) < (vs.length : Int) by omega)) ?_
        have : okTab (areWords 4) 6 (.dict kvs) = none := if_neg fun h => by omega
        exact ⟨sz_lit (by decide), fun q hq => ⟨rfl, fun d hd => fin (k2 this) H Fr.refl q hq d hd⟩⟩
      refine ifF (decide_eq_false (show ¬ (6 : Int) < (vs.length : Int) by omega)) ?_
      refine ⟨p, _, hp, trivial, fun od => ?_⟩
      have kp1 : Kp H (upd H p (.frz od (.dK vs))) := fun b o hb ho => by
        have : b ≠ p := fun e => by rw [e, hp] at hb; cases hb; cases ho
        rw [upd_ne this]
        exact hb
      have fr1 : Fr (argL (.ref p)) H (upd H p (.frz od (.dK vs))) := Fr.refl.upd (by simp [argL])
      refine ⟨_, rfl, p, od, vs, rfl, upd_same, ?_⟩
      refine for_it walk_items (fun i σ H' => (∃ y1 y2 : Option V, σ = [some (.ref p), y1, y2]) ∧ Same (upd H p (.frz od (.dK vs))) H' ∧ ((kvs.take i).all fun q => isWordS q.1 && areWords 4 q.2) = true) ⟨⟨_, _, rfl⟩, Same.refl _, rfl⟩ (fun i σ H' _ q => q.2.1 _ _ upd_same) ?_ ?_
      · rintro i v σ H1 H2 hi ⟨⟨y1, y2, rfl⟩, s1, hall⟩ ⟨T0, x, y, rfl, hT0, rfl, hx, hy⟩
        have hvi : vs[i]? = some vs[i] := List.getElem?_eq_getElem hi
        have hx : Option.map (fun kv => kV kv.1) vs[i]? = some x := hx
        have hy : Option.map Prod.snd vs[i]? = some y := hy
        rw [hvi] at hx hy
        obtain ⟨xk, d, hki, hk, hdy⟩ := hkv.get (k := vs[i].1) (v := vs[i].2) hvi
        obtain rfl : x = .str xk := by
          rw [← Option.some.inj hx]
          show kV vs[i].1 = _
          rw [hk]
          rfl
        obtain rfl : y = vs[i].2 := (Option.some.inj hy).symm
        obtain ⟨hs1, hs2⟩ := hsmall (xk, d) (List.mem_of_getElem? hki)
        have sm2 : Same H1 (upd H1 T0 (.tup [.str xk, vs[i].2])) := Same.new hT0
        refine ⟨T0, _, rfl, .inl (.inl upd_same), rfl, _, _, rfl, _, _, rfl, rfl, ?_⟩
        have s2 := s1.trans sm2
        revert s2
        generalize upd H1 T0 (.tup [.str xk, vs[i].2]) = H2
        intro s2
        have hdy2 : Dp K H2 vs[i].2 d := hdy.kp (kp1.trans s2.kp)
        refine ⟨_, rfl, .str xk, .str xk, rfl, .str xk, fun z e => by cases e; exact hs1, _, rfl, ?_⟩
        have bad : (isWordS xk && areWords 4 d) = false → okTab (areWords 4) 6 (.dict kvs) = none := fun hb => if_neg fun h => by
          have := List.all_eq_true.mp h.2 (xk, d) (List.mem_of_getElem? hki)
          rw [hb] at this
          cases this
        have up : ∀ q, H2 q = none → ∀ d, upd H2 q (.tup []) d = none → okTab (areWords 4) 6 (.dict kvs) = none → E (.ref CI) (some d) (upd (upd H2 q (.tup [])) d (.xd [("path", .ref q), ("part", .str "asks")])) := fun q hq d hd hn => fin (k2 hn) H2 (fr1.trans s2.fr) q hq d hd
        by_cases w1 : isWordS xk = true
        · rw [show isWord (.str xk) = true from w1]
          refine ifF rfl ⟨_, rfl, vs[i].2, d, 4, rfl, hdy2, small_of d hs2, by decide, _, rfl, ?_⟩
          by_cases w2 : areWords 4 d = true
          · rw [w2]
            refine ifF rfl ⟨⟨_, _, rfl⟩, s2, ?_⟩
            rw [TS.take_one hki, List.all_append, hall]
            simp [w1, w2]
          · rw [Bool.eq_false_iff.mpr w2]
            refine ifT rfl ⟨sz_lit (by decide), fun q hq => ⟨rfl, fun d hd => up q hq d hd (bad ?_)⟩⟩
            rw [Bool.eq_false_iff.mpr w2, Bool.and_false]
        · rw [show isWord (.str xk) = false from Bool.eq_false_iff.mpr w1]
          refine ifT rfl (ifT rfl ⟨sz_lit (by decide), fun q hq => ⟨rfl, fun d hd => up q hq d hd (bad ?_)⟩⟩)
          rw [Bool.eq_false_iff.mpr w1, Bool.false_and]
      · rintro σ H1 ⟨⟨y1, y2, rfl⟩, s1, hall⟩
        rw [List.take_of_length_le (by omega)] at hall
        refine ⟨s1 _ _ upd_same, ?_⟩
        have good : okTab (areWords 4) 6 (.dict kvs) = some kvs := if_pos ⟨by omega, hall⟩
        have sA : Same H (upd H1 p (.dK vs)) := fun b o hb => by
          by_cases e : b = p
          · subst e
            rw [hp] at hb
            rw [upd_same]
            exact hb
          · rw [upd_ne e]
            refine s1 b o ?_
            rw [upd_ne e]
            exact hb
        have hpA : upd H1 p (.dK vs) p = some (.dK vs) := upd_same
        revert sA hpA
        generalize upd H1 p (.dK vs) = H2
        intro sA hpA
        refine ⟨_, rfl, tyV_dK hpA, p, vs, rfl, rfl, .inl hpA, fun q hq => ?_⟩
        have sB : Same H2 (upd H2 q (keysO q p)) := Same.new hq
        refine ⟨q, p, vs, kvs.map (·.1), rfl, upd_same, .inl (sB _ _ hpA), hkv.keys, by rw [List.length_map]; omega, fun ys l hperm hsort hl => ?_⟩
        have sC := sB.trans (Same.new (o := .lst (ys.map V.str)) hl)
        have hlC : upd (upd H2 q (keysO q p)) l (.lst (ys.map V.str)) l = some (.lst (ys.map V.str)) := upd_same
        revert sC hlC
        generalize upd (upd H2 q (keysO q p)) l (.lst (ys.map V.str)) = H3
        intro sC hlC
        refine ⟨l, rfl, ⟨_, .inl (.inl hlC)⟩, fun D hD => ?_⟩
        have hnd' : ys.Nodup := hperm.nodup_iff.mpr hnd
        have hyl : ys.length = kvs.length := by rw [hperm.length_eq, List.length_map]
        have hDS : Same H3 (upd H3 D (.dK [])) := Same.new hD
        refine dc_it (walk_list (xs := ys.map V.str)) (fun i H' => H' D = some (.dK ((ys.take i).map fun y => (Sum.inr y, (valV vs (.inr y)).getD .non))) ∧ Same H3 H') ⟨upd_same, hDS⟩ (fun i H' _ q => .inl (.inl (q.2 _ _ hlC))) ?_ ?_
        · rintro i x H5 H4 hi ⟨hD4, s4⟩ ⟨rfl, hx⟩
          have hi' : i < ys.length := by rw [List.length_map] at hi; exact hi
          have hyi : ys[i]? = some ys[i] := List.getElem?_eq_getElem hi'
          obtain rfl : x = .str ys[i] := by
            rw [List.getElem?_map, hyi] at hx
            exact (Option.some.inj hx).symm
          obtain ⟨v, hv1, hv2⟩ := hkv.val ys[i] (hperm.mem_iff.mp (List.mem_of_getElem? hyi))
          have hp4 : H4 p = some (.dK vs) := s4 _ _ (sC _ _ hpA)
          refine ⟨rfl, ?_⟩
          refine ⟨_, rfl, _, rfl, _, rfl, p, v, rfl, by rw [← hv1]; exact dget_known hp4, _, .inr ys[i], rfl, hD4, lt_sz (by rw [List.length_map, List.length_take]; omega), ?_, fun b o hb => ?_⟩
          · rw [upd_same, putK_new]
            · rw [TS.take_one hyi, List.map_append, List.map_cons, List.map_nil, hv1]
              rfl
            · have : ∀ l : List Str, ys[i] ∉ l → valV (l.map fun y => ((Sum.inr y : Key), (valV vs (.inr y)).getD .non)) (.inr ys[i]) = none := by
                intro l
                induction l with
                | nil => intro _; rfl
                | cons z r ih =>
                  intro hz
                  rw [List.mem_cons, not_or] at hz
                  rw [List.map_cons, valV_neg (fun e => hz.1 (Sum.inr.inj e).symm)]
                  exact ih hz.2
              exact this _ (nodup_take hnd' hyi)
          · have : b ≠ D := fun e => by rw [e, hD] at hb; cases hb
            rw [upd_ne this]
            exact s4 b o hb
        · rintro H4 ⟨hD4, s4⟩
          rw [List.length_map, List.take_length] at hD4
          have sall : Same H H4 := sA.trans (sC.trans s4)
          refine k1 kvs good D H4 _ (ys.map fun y => (y, lk kvs y)) sall ?_ hD4 ?_ ?_ ?_
          · exact (sA.trans sC).free hD
          · have := hperm.map (fun y => (y, lk kvs y))
            rw [lk_self hnd] at this
            exact this
          · rw [List.map_map]
            have : ((fun x : Str × PyData => x.1) ∘ fun y => (y, lk kvs y)) = id := by funext y; rfl
            rw [this, List.map_id]
            exact hsort
          · have : ∀ l : List Str, (∀ y ∈ l, y ∈ kvs.map (·.1)) → KvsR K H4 (l.map fun y => ((Sum.inr y : Key), (valV vs (.inr y)).getD .non)) (l.map fun y => (y, lk kvs y)) := by
              intro l
              induction l with
              | nil => intro _; exact trivial
              | cons z r ih =>
                intro hz
                obtain ⟨v, hv1, hv2⟩ := hkv.val z (hz z List.mem_cons_self)
                refine ⟨rfl, ?_, ih fun y hy => hz y (List.mem_cons_of_mem _ hy)⟩
                show Dp K H4 ((valV vs (.inr z)).getD .non) _
                rw [hv1]
                exact hv2.mono sall
            exact this ys fun y hy => hperm.mem_iff.mp hy
end
end Op
namespace Op
open PySem L2 PyProof.Rows
def isBox : PyData → Bool
  | .tuple [.int n, d] => decide (1 ≤ n ∧ n ≤ 3) && areWords 3 d
  | _ => false
section
variable {P : Program} {w : World} {K : PySem.W.Frag} {mg : Str → Option Value} {base : Heap} {pS CI : Addr}
theorem small_tup {ds : List PyData} (h : small (.tuple ds) = true) : smalls ds = true := by
  unfold small at h
  exact (Bool.and_eq_true_iff.mp h).2
def spInt (K : PySem.W.Frag) : Sp := fun vs H Q _ => ∃ (v : V) (d : PyData), vs = [v] ∧ Dp K H v d ∧ Q (.bl (isInt d)) H
theorem sc_is_integer : FnScope ["value"] ["value"] (defScope s_is_integer) := ⟨rfl, rfl, rfl, by decide +kernel, rfl, by decide +kernel, by decide +kernel⟩
theorem ok_is_integer {f : Addr} {fd : FuncData} (F : Fun K "is_integer" "is_integer" s_is_integer f fd) (T : Txt mg) : FnOk P w K mg base CX0 1 f fd ["value"] (spInt K) := by
  refine F.ok sc_is_integer (fun vs H Q E h => ?_) (fun cdv A outer s H vs Q E hr h => ?_)
  · obtain ⟨v, d, rfl, _⟩ := h
    rfl
  · obtain ⟨v, d, rfl, hd, k⟩ := h
    refine ⟨_, (pss_one (ps_ret (pe_and (pe_callB call_isi (by rfl) T.b_isinstance (by decide +kernel) (pa_cons (pv 0) (pa_cons (pe_bltn (v := .ty "int") (by rfl) T.b_int (by decide +kernel) rfl) pa_nil))) (pe_one (pe_not (pe_callB call_isi (by rfl) T.b_isinstance (by decide +kernel) (pa_cons (pv 0) (pa_cons (pe_bltn (v := .ty "bool") (by rfl) T.b_bool (by decide +kernel) rfl) pa_nil)))))))), ?_⟩
    refine ⟨_, rfl, v, _, _, _, _, rfl, .ty _, ty_dp hd, kit_int d, _, rfl, ?_⟩
    cases hd with
    | int i => exact ifT rfl ⟨_, rfl, .int i, _, _, _, _, rfl, .ty _, ty_dp (.int i), kit_bool (.int i), _, rfl, k⟩
    | bl b => exact ifT rfl ⟨_, rfl, .bl b, _, _, _, _, rfl, .ty _, ty_dp (.bl b), kit_bool (.bool b), _, rfl, k⟩
    | _ => exact ifF rfl k
def spBox (K : PySem.W.Frag) : Sp := fun vs H Q _ => ∃ (v : V) (d : PyData), vs = [v] ∧ Dp K H v d ∧ small d = true ∧ Q (.bl (isBox d)) H
theorem sc_is_box : FnScope ["value"] ["value"] (defScope s_is_box) := ⟨rfl, rfl, rfl, by decide +kernel, rfl, by decide +kernel, by decide +kernel⟩
theorem ok_is_box {f : Addr} {fd : FuncData} (F : Fun K "is_box" "is_box" s_is_box f fd) (T : Txt mg) (c_is_integer : Cal P w K mg base CX0 1 "is_integer" ["value"] (spInt K)) (c_are_words : Cal P w K mg base CX0 2 "are_words" ["value", "most"] (spAreWords K)) : FnOk P w K mg base CX0 3 f fd ["value"] (spBox K) := by
  refine F.ok sc_is_box (fun vs H Q E h => ?_) (fun cdv A outer s H vs Q E hr h => ?_)
  · obtain ⟨v, d, rfl, _⟩ := h
    rfl
  · obtain ⟨v, d, rfl, hd, hs, k⟩ := h
    refine ⟨_, (pss_cons (ps_if (PW.pt (pw_or (pt_not (pt_val (pe_callB call_isi (by rfl) T.b_isinstance (by decide +kernel) (pa_cons (pv 0) (pa_cons (pe_bltn (v := .ty "tuple") (by rfl) T.b_tuple (by decide +kernel) rfl) pa_nil))))) (pw_or (pt_cmpR op_ne (pe_callB call_len_seq (by rfl) T.b_len (by decide +kernel) (pa_cons (pv 0) pa_nil)) pe_int (nomark _)) (pw_or1 (pt_not (pt_val (pe_cal c_is_integer (hr.mono (by omega)) rfl pass0 (pa_cons (pe_ix ix_tup (pv 0) pe_int (fun _ _ => rfl)) pa_nil)))))))) (pss_one (ps_ret pe_bl)) pss_nil)
      (pss_one (ps_ret (pe_and (pe_chain op_le op_le pe_int (pe_ix ix_tup (pv 0) pe_int (fun _ _ => rfl)) pe_int) (pe_one (pe_cal c_are_words (hr.mono (by omega)) rfl pass0 (pa_cons (pe_ix ix_tup (pv 0) pe_int (fun _ _ => rfl)) (pa_cons pe_int pa_nil)))))))), ?_⟩
    refine ⟨_, rfl, v, _, _, _, _, rfl, .ty _, ty_dp hd, kit_tuple d, _, rfl, ?_⟩
    cases hd with
    | @tup a xs ds hq ha =>
      refine ifF rfl ⟨_, rfl, a, xs, rfl, .inr hq, rfl, _, rfl, ?_⟩
      have hlen := ha.len
      by_cases c : xs.length = 2
      · rw [c]
        refine ifF rfl ?_
        match xs, ds, ha, c, hlen, hq, hs, k with
        | [x, y], [d0, d1], .cons h0 (.cons h1 .nil), _, _, hq, hs, k =>
          refine ⟨_, rfl, a, _, 0, _, rfl, rfl, hq, atI_zero _ _, x, d0, rfl, h0, _, rfl, ?_⟩
          by_cases ci : isInt d0 = true
          · rw [ci]
            refine ifF rfl ?_
            cases h0 with
            | int n =>
              have hs1 : small d1 = true := smalls_get (ds := [.int n, d1]) (i := 1) (small_tup hs) rfl
              have e : isBox (.tuple [.int n, d1]) = (decide (1 ≤ n ∧ n ≤ 3) && areWords 3 d1) := rfl
              rw [e] at k
              refine ⟨_, rfl, a, _, 0, _, rfl, rfl, hq, atI_zero _ _, _, _, rfl, rfl, _, rfl, ?_⟩
              by_cases c1 : 1 ≤ n
              · refine ifT (decide_eq_true c1) ⟨_, _, rfl, rfl, _, rfl, ?_⟩
                by_cases c2 : n ≤ 3
                · rw [decide_eq_true (⟨c1, c2⟩ : 1 ≤ n ∧ n ≤ 3)] at k
                  exact ifT (decide_eq_true c2) ⟨_, rfl, a, _, 1, _, rfl, rfl, hq, atI_one _ _ _, y, d1, 3, rfl, h1, hs1, by decide, k⟩
                · rw [decide_eq_false (fun h => c2 h.2 : ¬ (1 ≤ n ∧ n ≤ 3))] at k
                  exact ifF (decide_eq_false c2) k
              · rw [decide_eq_false (fun h => c1 h.1 : ¬ (1 ≤ n ∧ n ≤ 3))] at k
                exact ifF (decide_eq_false c1) ⟨_, rfl, ifF rfl k⟩
            | _ => cases ci
          · rw [Bool.eq_false_iff.mpr ci]
            refine ifT rfl ?_
            have : isBox (.tuple [d0, d1]) = false := by cases d0 <;> first | rfl | exact absurd rfl ci
            rw [this] at k
            exact k
      · refine ifT (by rw [decide_eq_false (by intro z; injection z with z; omega)]; rfl) (ifT rfl ?_)
        · have : isBox (.tuple ds) = false := by
            match ds, hlen with
            | [], _ => rfl
            | [x], _ => cases x <;> rfl
            | [_, _], h => exact absurd h c
            | x :: _ :: _ :: _, _ => cases x <;> rfl
          rw [this] at k
          exact k
    | _ => exact ifT rfl (ifT rfl k)
theorem sc_checked_signals : FnScope ["value", "name", "box"] ["value"] (defScope s_checked_signals) := ⟨rfl, rfl, rfl, by decide +kernel, rfl, by decide +kernel, by decide +kernel⟩
theorem ok_checked_signals {f : Addr} {fd : FuncData} (F : Fun K "checked_signals" "checked_signals" s_checked_signals f fd) (T : TxtC P w K mg pS CI) (c_is_word : Cal P w K mg base CX0 1 "is_word" ["value"] (spWord K)) (c_is_box : Cal P w K mg base CX0 3 "is_box" ["value"] (spBox K)) :
    FnOk P w K mg base (L2.CX P w) 4 f fd ["value"] (spTab K CI "signals" isBox 3) := by
  refine F.okX sc_checked_signals (fun vs H Q E h => ?_) (fun cdv A outer s H vs Q E hr h => ?_)
  · obtain ⟨v, a, rfl, _⟩ := h
    rfl
  · obtain ⟨v, a, rfl, hv, hsm, k1, k2⟩ := h
    have hu := hu_of hr
    refine ⟨_, (pss_cons (ps_if (pt_cmpR op_isN (pv 0) pe_non (nomark _)) (pss_one (ps_ret pe_dnewK)) pss_nil)
      (pss_cons (ps_if (PW.pt (pw_or (pt_not (pt_val (pe_callB call_isi (by rfl) T.b_isinstance (by decide +kernel) (pa_cons (pv 0) (pa_cons (pe_bltn (v := .ty "dict") (by rfl) T.b_dict (by decide +kernel) rfl) pa_nil))))) (pw_or1 (pt_cmpR op_gt (pe_callB call_lenD (by rfl) T.b_len (by decide +kernel) (pa_cons (pv 0) pa_nil)) pe_int (nomark _))))) (pss_one (ps_raise rfl (takes_of rfl rfl rfl rfl) (pmk_x T.mk_InvalidProgram hr rfl T.g_InvalidProgram T.k_InvalidProgram T.r_InvalidProgram (pa_cons pe_str (pa_cons (pe_tup pa_nil) pa_nil))))) pss_nil)
      (pss_cons (ps_lock (ps_for (passes_of rfl) rfl (pi_items (pv 0)) (pg_tup rfl (pgs_cons (pg_name (i := 1) sc_checked_signals.nd rfl (.inl rfl)) (pgs_cons (pg_name (i := 2) sc_checked_signals.nd rfl (.inl rfl)) pgs_nil))) (pss_one (ps_if (PW.pt (pw_or (pt_not (pt_val (pe_cal c_is_word (hr.mono (by omega)) rfl pass0 (pa_cons (pv 1) pa_nil)))) (pw_or1 (pt_not (pt_val (pe_cal c_is_box (hr.mono (by omega)) rfl pass0 (pa_cons (pv 2) pa_nil))))))) (pss_one (ps_raise rfl (takes_of rfl rfl rfl rfl) (pmk_x T.mk_InvalidProgram hr rfl T.g_InvalidProgram T.k_InvalidProgram T.r_InvalidProgram (pa_cons pe_str (pa_cons (pe_tup pa_nil) pa_nil))))) pss_nil))))
      (pss_one (ps_ret (pe_dc (own := [("name", 1)]) (g := gName 1) (tt := tYes) rfl sc_checked_signals.nd (pi_list (pe_callB (call_sortedKV rfl) (by rfl) T.b_sorted (by decide +kernel) (pa_cons (pe_bm0 PySem.F.plainAttrs_dict PySem.F.slot_dict_keys PySem.F.type_dict_keys mt_keysV (pv 0)) pa_nil))) (blkOk_by (own := [("name", 1)]) (N := ["value", "name", "box"]) (sc := defScope s_checked_signals) (by decide +kernel)) (fun _ _ _ _ _ => (pg_name (i := 1) sc_checked_signals.nd rfl (.inl rfl))) (fun _ _ _ _ _ => pts_nil) (fun _ _ _ _ _ => (pv 1)) (fun _ _ _ _ _ => (pe_dget hu (pv 0) (pv 1) (fun _ _ => rfl))))))))), ?_⟩
    have fin : (∀ H' dd, Fr (argL v) H H' → XProg K H' dd "signals" [] → E (.ref CI) (some dd) H') → ∀ H1, Fr (argL v) H H1 → ∀ p, H1 p = none → ∀ d, upd H1 p (.tup []) d = none → E (.ref CI) (some d) (upd (upd H1 p (.tup [])) d (.xd [("path", .ref p), ("part", .str "signals")])) := by
      intro k H1 f1 p hp d hd
      refine k _ d (f1.trans ((Same.new hp).trans (Same.new hd)).fr) ⟨p, upd_same, ?_⟩
      exact SqT.mono (.inl (.inl upd_same)) (Same.new hd)
    cases a with
    | none =>
      obtain rfl := hv
      refine ⟨_, rfl, rfl, _, rfl, ifT rfl fun p hp => ?_⟩
      exact k1 [] rfl p _ [] [] (Same.new hp) hp upd_same .nil rfl trivial
    | other d =>
      obtain ⟨hd, hn⟩ := hv
      have hvn : decide (v = .non) = false := decide_eq_false fun e => by
        subst e
        cases hd
        exact hn rfl
      refine ⟨_, rfl, rfl, _, rfl, ?_⟩
      rw [hvn]
      refine ifF rfl ⟨_, rfl, v, _, _, _, _, rfl, .ty _, ty_dp hd, kit_dict d, _, rfl, ?_⟩
      have fin' : ∀ p, H p = none → ∀ d, upd H p (.tup []) d = none → E (.ref CI) (some d) (upd (upd H p (.tup [])) d (.xd [("path", .ref p), ("part", .str "signals")])) := fin (k2 rfl) H Fr.refl
      cases hd <;> exact ifT rfl (ifT rfl ⟨sz_lit (by decide), fun p hp => ⟨rfl, fun d hd => fin' p hp d hd⟩⟩)
    | dict kvs =>
      obtain ⟨p, vs, rfl, hp, hkv, hnd⟩ := hv
      obtain ⟨hl60, hsmall⟩ := hsm
      have hlen := hkv.len
      refine ⟨_, rfl, rfl, _, rfl, ifF rfl ?_⟩
      refine ⟨_, rfl, .ref p, _, _, _, _, rfl, .ty _, kit_dictK hp, kit_ty (show kitB "dict" "dict" = some true by decide +kernel), _, rfl, ifF rfl ?_⟩
      refine ⟨_, rfl, p, vs, rfl, hp, _, _, rfl, rfl, _, rfl, ?_⟩
      by_cases e1 : 3 < vs.length
      · refine ifT (decide_eq_true (show (3 : Int) < (vs.length : Int) by omega)) ?_
        have : okTab isBox 3 (.dict kvs) = none := if_neg fun h => by omega
        exact ⟨sz_lit (by decide), fun q hq => ⟨rfl, fun d hd => fin (k2 this) H Fr.refl q hq d hd⟩⟩
      refine ifF (decide_eq_false (show ¬ (3 : Int) < (vs.length : Int) by omega)) ?_
      refine ⟨p, _, hp, trivial, fun od => ?_⟩
      have kp1 : Kp H (upd H p (.frz od (.dK vs))) := fun b o hb ho => by
        have : b ≠ p := fun e => by rw [e, hp] at hb; cases hb; cases ho
        rw [upd_ne this]
        exact hb
      have fr1 : Fr (argL (.ref p)) H (upd H p (.frz od (.dK vs))) := Fr.refl.upd (by simp [argL])
      refine ⟨_, rfl, p, od, vs, rfl, upd_same, ?_⟩
      refine for_it walk_items (fun i σ H' => (∃ y1 y2 : Option V, σ = [some (.ref p), y1, y2]) ∧ Same (upd H p (.frz od (.dK vs))) H' ∧ ((kvs.take i).all fun q => isWordS q.1 && isBox q.2) = true) ⟨⟨_, _, rfl⟩, Same.refl _, rfl⟩ (fun i σ H' _ q => q.2.1 _ _ upd_same) ?_ ?_
      · rintro i v σ H1 H2 hi ⟨⟨y1, y2, rfl⟩, s1, hall⟩ ⟨T0, x, y, rfl, hT0, rfl, hx, hy⟩
        have hvi : vs[i]? = some vs[i] := List.getElem?_eq_getElem hi
        have hx : Option.map (fun kv => kV kv.1) vs[i]? = some x := hx
        have hy : Option.map Prod.snd vs[i]? = some y := hy
        rw [hvi] at hx hy
        obtain ⟨xk, d, hki, hk, hdy⟩ := hkv.get (k := vs[i].1) (v := vs[i].2) hvi
        obtain rfl : x = .str xk := by
          rw [← Option.some.inj hx]
          show kV vs[i].1 = _
          rw [hk]
          rfl
        obtain rfl : y = vs[i].2 := (Option.some.inj hy).symm
        obtain ⟨hs1, hs2⟩ := hsmall (xk, d) (List.mem_of_getElem? hki)
        have sm2 : Same H1 (upd H1 T0 (.tup [.str xk, vs[i].2])) := Same.new hT0
        refine ⟨T0, _, rfl, .inl (.inl upd_same), rfl, _, _, rfl, _, _, rfl, rfl, ?_⟩
        have s2 := s1.trans sm2
        revert s2
        generalize upd H1 T0 (.tup [.str xk, vs[i].2]) = H2
        intro s2
        have hdy2 : Dp K H2 vs[i].2 d := hdy.kp (kp1.trans s2.kp)
        refine ⟨_, rfl, .str xk, .str xk, rfl, .str xk, fun z e => by cases e; exact hs1, _, rfl, ?_⟩
        have bad : (isWordS xk && isBox d) = false → okTab isBox 3 (.dict kvs) = none := fun hb => if_neg fun h => by
          have := List.all_eq_true.mp h.2 (xk, d) (List.mem_of_getElem? hki)
          rw [hb] at this
          cases this
        have up : ∀ q, H2 q = none → ∀ d, upd H2 q (.tup []) d = none → okTab isBox 3 (.dict kvs) = none → E (.ref CI) (some d) (upd (upd H2 q (.tup [])) d (.xd [("path", .ref q), ("part", .str "signals")])) := fun q hq d hd hn => fin (k2 hn) H2 (fr1.trans s2.fr) q hq d hd
        by_cases w1 : isWordS xk = true
        · rw [show isWord (.str xk) = true from w1]
          refine ifF rfl ⟨_, rfl, vs[i].2, d, rfl, hdy2, small_of d hs2, _, rfl, ?_⟩
          by_cases w2 : isBox d = true
          · rw [w2]
            refine ifF rfl ⟨⟨_, _, rfl⟩, s2, ?_⟩
            rw [TS.take_one hki, List.all_append, hall]
            simp [w1, w2]
          · rw [Bool.eq_false_iff.mpr w2]
            refine ifT rfl ⟨sz_lit (by decide), fun q hq => ⟨rfl, fun d hd => up q hq d hd (bad ?_)⟩⟩
            rw [Bool.eq_false_iff.mpr w2, Bool.and_false]
        · rw [show isWord (.str xk) = false from Bool.eq_false_iff.mpr w1]
          refine ifT rfl (ifT rfl ⟨sz_lit (by decide), fun q hq => ⟨rfl, fun d hd => up q hq d hd (bad ?_)⟩⟩)
          rw [Bool.eq_false_iff.mpr w1, Bool.false_and]
      · rintro σ H1 ⟨⟨y1, y2, rfl⟩, s1, hall⟩
        rw [List.take_of_length_le (by omega)] at hall
        refine ⟨s1 _ _ upd_same, ?_⟩
        have good : okTab isBox 3 (.dict kvs) = some kvs := if_pos ⟨by omega, hall⟩
        have sA : Same H (upd H1 p (.dK vs)) := fun b o hb => by
          by_cases e : b = p
          · subst e
            rw [hp] at hb
            rw [upd_same]
            exact hb
          · rw [upd_ne e]
            refine s1 b o ?_
            rw [upd_ne e]
            exact hb
        have hpA : upd H1 p (.dK vs) p = some (.dK vs) := upd_same
        revert sA hpA
        generalize upd H1 p (.dK vs) = H2
        intro sA hpA
        refine ⟨_, rfl, tyV_dK hpA, p, vs, rfl, rfl, .inl hpA, fun q hq => ?_⟩
        have sB : Same H2 (upd H2 q (keysO q p)) := Same.new hq
        refine ⟨q, p, vs, kvs.map (·.1), rfl, upd_same, .inl (sB _ _ hpA), hkv.keys, by rw [List.length_map]; omega, fun ys l hperm hsort hl => ?_⟩
        have sC := sB.trans (Same.new (o := .lst (ys.map V.str)) hl)
        have hlC : upd (upd H2 q (keysO q p)) l (.lst (ys.map V.str)) l = some (.lst (ys.map V.str)) := upd_same
        revert sC hlC
        generalize upd (upd H2 q (keysO q p)) l (.lst (ys.map V.str)) = H3
        intro sC hlC
        refine ⟨l, rfl, ⟨_, .inl (.inl hlC)⟩, fun D hD => ?_⟩
        have hnd' : ys.Nodup := hperm.nodup_iff.mpr hnd
        have hyl : ys.length = kvs.length := by rw [hperm.length_eq, List.length_map]
        have hDS : Same H3 (upd H3 D (.dK [])) := Same.new hD
        refine dc_it (walk_list (xs := ys.map V.str)) (fun i H' => H' D = some (.dK ((ys.take i).map fun y => (Sum.inr y, (valV vs (.inr y)).getD .non))) ∧ Same H3 H') ⟨upd_same, hDS⟩ (fun i H' _ q => .inl (.inl (q.2 _ _ hlC))) ?_ ?_
        · rintro i x H5 H4 hi ⟨hD4, s4⟩ ⟨rfl, hx⟩
          have hi' : i < ys.length := by rw [List.length_map] at hi; exact hi
          have hyi : ys[i]? = some ys[i] := List.getElem?_eq_getElem hi'
          obtain rfl : x = .str ys[i] := by
            rw [List.getElem?_map, hyi] at hx
            exact (Option.some.inj hx).symm
          obtain ⟨v, hv1, hv2⟩ := hkv.val ys[i] (hperm.mem_iff.mp (List.mem_of_getElem? hyi))
          have hp4 : H4 p = some (.dK vs) := s4 _ _ (sC _ _ hpA)
          refine ⟨rfl, ?_⟩
          refine ⟨_, rfl, _, rfl, _, rfl, p, v, rfl, by rw [← hv1]; exact dget_known hp4, _, .inr ys[i], rfl, hD4, lt_sz (by rw [List.length_map, List.length_take]; omega), ?_, fun b o hb => ?_⟩
          · rw [upd_same, putK_new]
            · rw [TS.take_one hyi, List.map_append, List.map_cons, List.map_nil, hv1]
              rfl
            · have : ∀ l : List Str, ys[i] ∉ l → valV (l.map fun y => ((Sum.inr y : Key), (valV vs (.inr y)).getD .non)) (.inr ys[i]) = none := by
                intro l
                induction l with
                | nil => intro _; rfl
                | cons z r ih =>
                  intro hz
                  rw [List.mem_cons, not_or] at hz
                  rw [List.map_cons, valV_neg (fun e => hz.1 (Sum.inr.inj e).symm)]
                  exact ih hz.2
              exact this _ (nodup_take hnd' hyi)
          · have : b ≠ D := fun e => by rw [e, hD] at hb; cases hb
            rw [upd_ne this]
            exact s4 b o hb
        · rintro H4 ⟨hD4, s4⟩
          rw [List.length_map, List.take_length] at hD4
          have sall : Same H H4 := sA.trans (sC.trans s4)
          refine k1 kvs good D H4 _ (ys.map fun y => (y, lk kvs y)) sall ?_ hD4 ?_ ?_ ?_
          · exact (sA.trans sC).free hD
          · have := hperm.map (fun y => (y, lk kvs y))
            rw [lk_self hnd] at this
            exact this
          · rw [List.map_map]
            have : ((fun x : Str × PyData => x.1) ∘ fun y => (y, lk kvs y)) = id := by funext y; rfl
            rw [this, List.map_id]
            exact hsort
          · have : ∀ l : List Str, (∀ y ∈ l, y ∈ kvs.map (·.1)) → KvsR K H4 (l.map fun y => ((Sum.inr y : Key), (valV vs (.inr y)).getD .non)) (l.map fun y => (y, lk kvs y)) := by
              intro l
              induction l with
              | nil => intro _; exact trivial
              | cons z r ih =>
                intro hz
                obtain ⟨v, hv1, hv2⟩ := hkv.val z (hz z List.mem_cons_self)
                refine ⟨rfl, ?_, ih fun y hy => hz y (List.mem_cons_of_mem _ hy)⟩
                show Dp K H4 ((valV vs (.inr z)).getD .non) _
                rw [hv1]
                exact hv2.mono sall
            exact this ys fun y hy => hperm.mem_iff.mp hy
def spInputs (K : PySem.W.Frag) (CI : Addr) : Sp := fun vs H Q X => ∃ v d, vs = [v] ∧ Dp K H v d ∧ small d = true ∧ (areWords 3 d = true → Q v H) ∧ (areWords 3 d = false → ∀ H' dd, Same H H' → XProg K H' dd "inputs" [] → X (.ref CI) (some dd) H')
theorem sc_checked_inputs : FnScope ["value"] ["value"] (defScope s_checked_inputs) := ⟨rfl, rfl, rfl, by decide +kernel, rfl, by decide +kernel, by decide +kernel⟩
theorem ok_checked_inputs {f : Addr} {fd : FuncData} (F : Fun K "checked_inputs" "checked_inputs" s_checked_inputs f fd) (T : TxtC P w K mg pS CI) (c_are_words : Cal P w K mg base CX0 2 "are_words" ["value", "most"] (spAreWords K)) : FnOk P w K mg base (L2.CX P w) 3 f fd ["value"] (spInputs K CI) := by
  refine F.okX sc_checked_inputs (fun vs H Q E h => ?_) (fun cdv A outer s H vs Q E hr h => ?_)
  · obtain ⟨v, a, rfl, _⟩ := h
    rfl
  · obtain ⟨v, d, rfl, hd, hs, k1, k2⟩ := h
    refine ⟨_, (pss_cons (ps_if (pt_not (pt_val (pe_cal c_are_words (hr.mono (by omega)) rfl pass0 (pa_cons (pv 0) (pa_cons pe_int pa_nil))))) (pss_one (ps_raise rfl (takes_of rfl rfl rfl rfl) (pmk_x T.mk_InvalidProgram hr rfl T.g_InvalidProgram T.k_InvalidProgram T.r_InvalidProgram (pa_cons pe_str (pa_cons (pe_tup pa_nil) pa_nil))))) pss_nil)
      (pss_one (ps_ret (pv 0)))), ?_⟩
    refine ⟨_, rfl, v, d, 3, rfl, hd, hs, by decide, _, rfl, ?_⟩
    by_cases c : areWords 3 d = true
    · rw [c]
      exact ifF rfl ⟨_, rfl, k1 c⟩
    · have c := Bool.eq_false_iff.mpr c
      rw [c]
      refine ifT rfl ⟨sz_lit (by decide), fun p hp => ⟨rfl, fun dd hdd => ?_⟩⟩
      refine k2 c _ dd ((Same.new hp).trans (Same.new hdd)) ⟨p, upd_same, ?_⟩
      exact SqT.mono (.inl (.inl upd_same)) (Same.new hdd)
end
end Op
namespace Op
open PySem L2 PyProof.Rows
/-! ### rows that were checked: their form -/
def notList (d : PyData) : Bool := !isList d
mutual
/-- no list in it -/
def noL : PyData → Bool
  | .list _ => false
  | .tuple xs => noLs xs
  | _ => true
def noLs : List PyData → Bool
  | [] => true
  | x :: r => noL x && noLs r
end
theorem noLs_mem : ∀ {ds : List PyData}, noLs ds = true ↔ ∀ d ∈ ds, noL d = true
  | [] => by
    unfold noLs
    exact ⟨fun _ d h => (List.not_mem_nil h).elim, fun _ => rfl⟩
  | x :: r => by
    unfold noLs
    rw [Bool.and_eq_true_iff, noLs_mem (ds := r)]
    constructor
    · rintro ⟨h1, h2⟩ d hd
      rcases List.mem_cons.mp hd with rfl | hd
      · exact h1
      · exact h2 d hd
    · intro h
      exact ⟨h x List.mem_cons_self, fun d hd => h d (List.mem_cons_of_mem _ hd)⟩
theorem noL_word {d : PyData} (h : isWord d = true) : noL d = true := by
  cases d with
  | str _ => unfold noL; rfl
  | _ => cases h
theorem noL_words {m : Int} {d : PyData} (h : areWords m d = true) : noL d = true := by
  obtain ⟨zs, rfl, _⟩ := aw_tup h
  unfold noL
  refine noLs_mem.mpr fun d hd => ?_
  obtain ⟨z, _, rfl⟩ := List.mem_map.mp hd
  unfold noL
  rfl
def rowOk (rec : List PyData → Prop) : PyData → Prop
  | .tuple (.str kind :: parts) => parts.length ≤ 4 ∧ (kind = "both" → ∃ ds, parts = [.tuple ds] ∧ ds ≠ []) ∧ (kind ≠ "both" → parts = parts.filter notList ++ parts.filter isList ∧ ∀ d ∈ parts, isList d = false → noL d = true) ∧ (∀ d ∈ innerL kind parts, isList d = true ∧ rec (listOf d))
  | _ => False
def rowsOk : Nat → List PyData → Prop
  | 0, _ => False
  | n + 1, ds => ∀ d ∈ ds, rowOk (rowsOk n) d
/-- a text whose signs b stand at its end -/
def endB (l : List Nat) : Bool := decide (l = l.filter (fun c => !decide (c = 98)) ++ l.filter (fun c => decide (c = 98)))
theorem shapes_end : ∀ {kind sh : Str}, shapes.lookup kind = some sh → kind ≠ "both" → endB sh.cps.toList = true ∧ (116 ∉ sh.cps.toList) := by
  have key : ∀ (l : List (Str × Str)) (kind sh : Str), l.all (fun p => decide (p.1 = "both") || (endB p.2.cps.toList && decide (116 ∉ p.2.cps.toList))) = true → l.lookup kind = some sh → kind ≠ "both" → endB sh.cps.toList = true ∧ (116 ∉ sh.cps.toList) := by
    intro l
    induction l with
    | nil => intro kind sh _ h; cases h
    | cons p r ih =>
      intro kind sh ha h hk
      obtain ⟨a, b⟩ := p
      obtain ⟨h1, h2⟩ := Bool.and_eq_true_iff.mp ha
      rw [List.lookup_cons] at h
      cases q : kind == a with
      | true =>
        rw [q] at h
        obtain rfl := Option.some.inj h
        have e : kind = a := by simpa using q
        rcases Bool.or_eq_true_iff.mp h1 with h1 | h1
        · exact absurd (e.trans (of_decide_eq_true h1)) hk
        · obtain ⟨h3, h4⟩ := Bool.and_eq_true_iff.mp h1
          exact ⟨h3, of_decide_eq_true h4⟩
      | false =>
        rw [q] at h
        exact ih kind sh h2 h hk
  intro kind sh h hk
  exact key shapes kind sh (by decide +kernel) h hk
theorem pf_isList {E : Env0} {ch : Nat} {d : PyData} (h : partFits E ⟨#[ch]⟩ d = true) (n : ch ≠ 116) : isList d = decide (ch = 98) := by
  by_cases e : ch = 98
  · subst e
    rw [decide_eq_true rfl]
    exact h
  · rw [decide_eq_false e]
    have sb : ¬ (⟨#[ch]⟩ : Str) = "b" := fun z => e (by
      have z : (⟨#[ch]⟩ : Str) = ⟨#[98]⟩ := z
      simpa using z)
    have st : ¬ (⟨#[ch]⟩ : Str) = "t" := fun z => n (by
      have z : (⟨#[ch]⟩ : Str) = ⟨#[116]⟩ := z
      simpa using z)
    by_cases em : (⟨#[ch]⟩ : Str) = "m" ∨ (⟨#[ch]⟩ : Str) = "v"
    · unfold partFits at h
      rw [if_neg (by rcases em with e | e <;> (rw [e]; decide +kernel)), if_neg (by rcases em with e | e <;> (rw [e]; decide +kernel)), if_neg (by rcases em with e | e <;> (rw [e]; decide +kernel)), if_pos em] at h
      cases d with
      | tuple _ => rfl
      | _ => cases h
    · have := pf_word h ⟨em, sb, st⟩
      cases d with
      | str _ => rfl
      | _ => cases this
theorem pf_noL {E : Env0} {ch : Nat} {d : PyData} (h : partFits E ⟨#[ch]⟩ d = true) (n : ch ≠ 116) (hl : isList d = false) : noL d = true := by
  have n2 : ch ≠ 98 := fun e => by
    rw [pf_isList h n, decide_eq_true e] at hl
    cases hl
  have sb : ¬ (⟨#[ch]⟩ : Str) = "b" := fun z => n2 (by
    have z : (⟨#[ch]⟩ : Str) = ⟨#[98]⟩ := z
    simpa using z)
  have st : ¬ (⟨#[ch]⟩ : Str) = "t" := fun z => n (by
    have z : (⟨#[ch]⟩ : Str) = ⟨#[116]⟩ := z
    simpa using z)
  by_cases em : (⟨#[ch]⟩ : Str) = "m" ∨ (⟨#[ch]⟩ : Str) = "v"
  · unfold partFits at h
    rw [if_neg (by rcases em with e | e <;> (rw [e]; decide +kernel)), if_neg (by rcases em with e | e <;> (rw [e]; decide +kernel)), if_neg (by rcases em with e | e <;> (rw [e]; decide +kernel)), if_pos em] at h
    exact noL_words h
  · exact noL_word (pf_word h ⟨em, sb, st⟩)
theorem zip_end {α : Type} (f : Nat → Bool) (g : α → Bool) : ∀ (l : List Nat) (ps : List α), l.length = ps.length → (∀ (i c : Nat) (d : α), l[i]? = some c → ps[i]? = some d → g d = f c) → l = l.filter (fun c => !f c) ++ l.filter f → ps = ps.filter (fun d => !g d) ++ ps.filter g
  | [], [], _, _, _ => rfl
  | c :: l, d :: ps, hl, h, e => by
    have h0 := h 0 c d rfl rfl
    have hr : ∀ (i c' : Nat) (d' : α), l[i]? = some c' → ps[i]? = some d' → g d' = f c' := fun i c' d' h1 h2 => h (i + 1) c' d' h1 h2
    cases q : f c with
    | false =>
      have e' : l = l.filter (fun c => !f c) ++ l.filter f := by
        rw [List.filter_cons_of_pos (by rw [q]; rfl), List.filter_cons_of_neg (by rw [q]; exact Bool.false_ne_true), List.cons_append] at e
        exact (List.cons.inj e).2
      have ih := zip_end f g l ps (Nat.succ.inj hl) hr e'
      rw [List.filter_cons_of_pos (by rw [h0, q]; rfl), List.filter_cons_of_neg (by rw [h0, q]; exact Bool.false_ne_true), List.cons_append]
      exact congrArg (d :: ·) ih
    | true =>
      have all : ∀ c' ∈ l, f c' = true := by
        intro c' hc'
        cases q' : f c' with
        | true => rfl
        | false =>
          exfalso
          rw [List.filter_cons_of_neg (by rw [q]; exact Bool.false_ne_true), List.filter_cons_of_pos q] at e
          cases hn : l.filter (fun c => !f c) with
          | nil =>
            have := List.filter_eq_nil_iff.mp hn c' hc'
            rw [q'] at this
            exact this rfl
          | cons z r =>
            rw [hn, List.cons_append] at e
            have ez := (List.cons.inj e).1
            have hz : z ∈ l.filter (fun c => !f c) := by rw [hn]; exact List.mem_cons_self
            have := (List.mem_filter.mp hz).2
            rw [← ez, q] at this
            cases this
      have e' : l = l.filter (fun c => !f c) ++ l.filter f := by
        rw [List.filter_eq_self.mpr all, List.filter_eq_nil_iff.mpr fun c' hc' => by rw [all c' hc']; exact Bool.false_ne_true]
        rfl
      have ih := zip_end f g l ps (Nat.succ.inj hl) hr e'
      have gall : ∀ d' ∈ ps, g d' = true := by
        intro d' hd'
        obtain ⟨i, hi⟩ := List.getElem?_of_mem hd'
        have hi' := (List.getElem?_eq_some_iff.mp hi).1
        have hl' : l.length = ps.length := Nat.succ.inj hl
        have h1 : l[i]? = some (l[i]'(by omega)) := List.getElem?_eq_getElem _
        rw [hr i _ d' h1 hi]
        exact all _ (List.mem_of_getElem? h1)
      rw [List.filter_cons_of_neg (by rw [h0, q]; exact Bool.false_ne_true), List.filter_cons_of_pos (by rw [h0, q])]
      rw [List.filter_eq_self.mpr gall, List.filter_eq_nil_iff.mpr fun d' hd' => by rw [gall d' hd']; exact Bool.false_ne_true]
      rfl
theorem rowOk_of {rec : Bool → List PyData → List Int → Chk → Out} {R : List PyData → Prop} {E : Env0} {depth : Int} (hrec : depth < 5 → ∀ lp ds pre c c', rec lp ds pre c = .ok c' → R ds) {lp : Bool} {pre : List Int} {d : PyData} {i : Nat} {c c' : Chk} (h : chkRow rec E depth lp pre d i c = .ok c') : rowOk R d := by
  unfold chkRow at h
  split at h
  · rename_i kind parts
    split at h
    · rename_i hf
      obtain ⟨hs, ⟨hl, hF⟩, _⟩ := fits_shape hf
      have hsl := shapes_len hs
      refine ⟨by rw [← hl]; exact hsl, fun e => ?_, fun e => ?_, fun d hd => ⟨inner_lists_all hf d hd, ?_⟩⟩
      · subst e
        have hl1 : parts.length = 1 := hl.symm.trans (by decide +kernel)
        match parts, hl1, hF with
        | [d], _, hF =>
          have hf : isBranches d = true := hF 0 116 d (by decide +kernel) rfl
          cases d with
          | tuple ds =>
            refine ⟨ds, rfl, fun z => ?_⟩
            subst z
            cases hf
          | _ => cases hf
      · obtain ⟨h1, h2⟩ := shapes_end hs e
        refine And.intro (b := ∀ d ∈ parts, isList d = false → noL d = true) ?_ fun d hd hl' => ?_
        rotate_left
        · obtain ⟨i, hi⟩ := List.getElem?_of_mem hd
          have hi' := (List.getElem?_eq_some_iff.mp hi).1
          have h3 : (shapeOf kind).cps[i]? = some ((shapeOf kind).cps[i]'(by omega)) := Array.getElem?_eq_getElem _
          refine pf_noL (hF i _ d h3 hi) (fun z => h2 ?_) hl'
          rw [← z]
          exact List.mem_of_getElem? (i := i) (by rw [Array.getElem?_toList]; exact h3)
        refine zip_end (fun c => decide (c = 98)) isList (shapeOf kind).cps.toList parts (by rw [Array.length_toList]; exact hl) (fun i ch d h3 h4 => ?_) (of_decide_eq_true h1)
        refine pf_isList (hF i ch d (by rw [← Array.getElem?_toList]; exact h3) h4) fun z => h2 ?_
        rw [← z]
        exact List.mem_of_getElem? h3
      · have hdep : depth < 5 := Decidable.byContradiction fun z => by
          rw [inner_deep hf (by omega)] at hd
          cases hd
        have key : ∀ (l : List PyData) (j : Nat) (c : Chk), chkIn (rec (inside lp kind)) (pre ++ [(i : Int)]) l j c = .ok c' → ∀ d ∈ l, R (listOf d) := by
          intro l
          induction l with
          | nil => intro j c _ d hd; cases hd
          | cons x r ih =>
            intro j c h d hd
            rw [chkIn_cons] at h
            cases q : rec (inside lp kind) (listOf x) (pre ++ [(i : Int)] ++ [(j : Int)]) c with
            | error p => rw [q] at h; cases h
            | ok c1 =>
              rw [q] at h
              rcases List.mem_cons.mp hd with rfl | hd
              · exact hrec hdep _ _ _ _ _ q
              · exact ih _ _ h d hd
        exact key _ _ _ h d hd
    · cases h
  · cases h
theorem rowsOk_of (E : Env0) : ∀ (n : Nat) (lp : Bool) (ds : List PyData) (pre : List Int) (c c' : Chk), chkL E n lp ds pre c = .ok c' → 1 ≤ n → rowsOk n ds
  | 0, _, _, _, _, _, _, h => absurd h (by omega)
  | n + 1, lp, ds, pre, c, c', h, _ => by
    have key : ∀ (l : List PyData) (j : Nat) (c : Chk), chkRows (chkRow (chkL E n) E (5 - (n : Int)) lp pre) l j c = .ok c' → ∀ d ∈ l, rowOk (rowsOk n) d := by
      intro l
      induction l with
      | nil => intro j c _ d hd; cases hd
      | cons x r ih =>
        intro j c h d hd
        rw [chkRows_cons] at h
        cases q : chkRow (chkL E n) E (5 - (n : Int)) lp pre x j c with
        | error p => rw [q] at h; cases h
        | ok c1 =>
          rw [q] at h
          rcases List.mem_cons.mp hd with rfl | hd
          · exact rowOk_of (fun hdep lp ds pre c c' h => rowsOk_of E n lp ds pre c c' h (by omega)) q
          · exact ih _ _ h d hd
    exact key ds 0 c h
end Op
namespace L2
open PySem PySem.Spec PyProof.Rows
/-! ### a heap without some of its lists -/
def LstAt (H : Hp) (b : Addr) : Prop := ∃ xs, H b = some (.lst xs)
open Classical in
noncomputable def cutH (S : Addr → Prop) (H : Hp) : Hp := fun b => if S b then none else H b
section
variable {S S' : Addr → Prop} {H H' : Hp} {K : PySem.W.Frag}
theorem cut_not {b : Addr} (h : ¬ S b) : cutH S H b = H b := if_neg h
theorem cut_same (s : Same H H') : Same (cutH S H) (cutH S H') := fun b o h => by
  unfold cutH at h ⊢
  split at h
  · cases h
  · rename_i n
    rw [if_neg n]
    exact s b o h
theorem cut_sub (s : ∀ b, S b → S' b) : Same (cutH S' H) (cutH S H) := fun b o h => by
  unfold cutH at h ⊢
  split at h
  · cases h
  · rename_i n
    rw [if_neg fun z => n (s b z)]
    exact h
theorem cut_all : Same (cutH S H) H := fun b o h => by
  unfold cutH at h
  split at h
  · cases h
  · exact h
theorem cut_upd {D : Addr} {o : HO} (h : S D) : cutH S (upd H D o) = cutH S H := by
  funext b
  unfold cutH
  by_cases e : S b
  · rw [if_pos e, if_pos e]
  · rw [if_neg e, if_neg e, upd_ne (fun q => e (by rw [q]; exact h))]
theorem LstAt.mono {b : Addr} (h : LstAt H b) (s : Same H H') : LstAt H' b := let ⟨xs, e⟩ := h; ⟨xs, s _ _ e⟩
theorem SqT.cut {a : Addr} {xs : List V} (hs : ∀ b, S b → LstAt H b) (h : SqT K H a xs) : SqT K (cutH S H) a xs := by
  have n : ∀ o, H a = some o → (∀ ys, o ≠ .lst ys) → ¬ S a := fun o e ne z => by
    obtain ⟨ys, q⟩ := hs a z
    rw [e] at q
    exact ne ys (Option.some.inj q)
  rcases h with (h | ⟨o, h⟩) | h
  · exact .inl (.inl (by rw [cut_not (n _ h nofun)]; exact h))
  · exact .inl (.inr ⟨o, by rw [cut_not (n _ h nofun)]; exact h⟩)
  · exact .inr h
mutual
theorem noL_cut (hs : ∀ b, S b → LstAt H b) : ∀ {v : V} {d : PyData}, Dp K H v d → Op.noL d = true → Dp K (cutH S H) v d
  | _, _, .non, _ => .non
  | _, _, .bl b, _ => .bl b
  | _, _, .int i, _ => .int i
  | _, _, .str x, _ => .str x
  | _, _, .lst h a, n => by unfold Op.noL at n; cases n
  | _, _, .tup h a, n => .tup (h.cut hs) (noLs_cut hs a (by unfold Op.noL at n; exact n))
theorem noLs_cut (hs : ∀ b, S b → LstAt H b) : ∀ {vs : List V} {ds : List PyData}, DpAll K H vs ds → Op.noLs ds = true → DpAll K (cutH S H) vs ds
  | _, _, .nil, _ => .nil
  | _, _, .cons h a, n => .cons (noL_cut hs h (by unfold Op.noLs at n; exact (Bool.and_eq_true_iff.mp n).1)) (noLs_cut hs a (by unfold Op.noLs at n; exact (Bool.and_eq_true_iff.mp n).2))
end
end
end L2
namespace Op
open PySem L2 PyProof.Rows
section
variable {P : Program} {w : World} {K : PySem.W.Frag} {mg : Str → Option Value} {base : Heap}
def spWith (K : PySem.W.Frag) : Sp := fun vs H Q _ => ∃ (S : Addr → Prop) (t l : Addr) (ws : List V) (kind : Str) (parts : List PyData), vs = [.ref t, .ref l] ∧ Dp K H (.ref t) (.tuple (.str kind :: parts)) ∧ H l = some (.lst ws) ∧ (∀ b, S b → LstAt H b) ∧ DpAll K (cutH S H) ws (innerL kind parts) ∧ parts.length ≤ 4 ∧ (innerL kind parts).length ≤ 40000 ∧
  (kind = "both" → ∃ ds, parts = [.tuple ds] ∧ ds ≠ []) ∧ (kind ≠ "both" → parts = parts.filter notList ++ parts.filter isList ∧ ∀ d ∈ parts, isList d = false → noL d = true) ∧ ∀ v H', Same H H' → Dp K (cutH S H') v (.tuple (.str kind :: parts)) → Q v H'
theorem sc_with_lists : FnScope ["row", "lists", "parts", "part"] ["row", "lists"] (defScope s_with_lists) := ⟨rfl, rfl, rfl, by decide +kernel, rfl, by decide +kernel, by decide +kernel⟩
theorem ok_with_lists {f : Addr} {fd : FuncData} (F : Fun K "with_lists" "with_lists" s_with_lists f fd) (T : Txt mg) : FnOk P w K mg base CX0 1 f fd ["row", "lists"] (spWith K) := by
  refine F.ok sc_with_lists (fun vs H Q E h => ?_) (fun cdv A outer s H vs Q E hr h => ?_)
  · obtain ⟨S, t, l, ws, kind, parts, rfl, _⟩ := h
    rfl
  · obtain ⟨S, t, l, ws, kind, parts, rfl, hd, hl, hS, hw, hpl, hil, hb, hnb, k⟩ := h
    cases hd with
    | @tup _ xs _ hq ha =>
    cases ha with
    | @cons v0 vr d0 dr h0 hr0 =>
    cases h0 with
    | str kind =>
    have hvl := hr0.len
    have hwl := hw.len
    have nS : ∀ b, H b = none → ¬ S b := fun b hb z => by
      obtain ⟨ys, q⟩ := hS b z
      rw [hb] at q
      cases q
    refine ⟨_, (pss_cons (ps_if (pt_cmpR op_eq (pe_ix ix_tup (pv 0) pe_int (fun _ _ => rfl)) pe_str (nomark _)) (pss_one (ps_ret (pe_tup (pa_cons pe_str (pa_cons (pe_callTy call_tuple_of (by rfl) T.b_tuple (by decide +kernel) (pa_cons (pv 1) pa_nil)) pa_nil))))) pss_nil)
      (pss_cons (ps_setLc (i := 2) (own := [("part", 3)]) (g := gName 3)  rfl sc_with_lists.nd rfl rfl (sw_true rfl rfl rfl (by decide +kernel)) (pi_tup (pv 0)) (blkOk_by (own := [("part", 3)]) (N := ["row", "lists", "parts", "part"]) (sc := defScope s_with_lists) (by decide +kernel)) (fun _ _ _ _ _ => (pg_name (i := 3) sc_with_lists.nd rfl (.inl rfl))) (fun _ _ _ _ _ => (pts_one (pt_not (pt_val (pe_callB (id := "isinstance") (r := rIsi K) call_isi (by rfl) T.b_isinstance (by decide +kernel) (pa_cons (pv 3) (pa_cons (pe_bltn (v := .ty "list") (by rfl) T.b_list (by decide +kernel) rfl) pa_nil))))))) (fun _ _ _ _ _ => (pv 3)))
      (pss_one (ps_ret (pe_callTy call_tuple_of (by rfl) T.b_tuple (by decide +kernel) (pa_cons (pe_op op_cat (pv 2) (pv 1)) pa_nil)))))), ?_⟩
    refine ⟨_, rfl, t, _, 0, _, rfl, rfl, hq, atI_zero _ _, rfl, _, rfl, ?_⟩
    rw [dec_strV]
    by_cases e1 : kind = "both"
    · obtain ⟨ds, rfl, _⟩ := hb e1
      refine ifT (decide_eq_true e1) ?_
      have hin : innerL kind [.tuple ds] = ds := by unfold innerL; rw [if_pos e1]
      rw [hin] at hw
      refine ⟨_, rfl, l, ws, rfl, .inl ⟨.inl (.inl hl), fun p hp => ⟨sz2 _ _, fun q hq' => ?_⟩⟩⟩
      have s1 : Same H (upd H p (.tup ws)) := Same.new hp
      have s2 : Same (upd H p (.tup ws)) (upd (upd H p (.tup ws)) q (.tup [.str "both", .ref p])) := Same.new hq'
      have nq : ¬ S q := nS q (s1.free hq')
      refine k (.ref q) _ (s1.trans s2) (.tup (.inl (.inl (by rw [cut_not nq]; exact upd_same))) ?_)
      rw [e1]
      exact .cons (.str _) (.cons (.tup (.inl (.inl (by rw [cut_not (nS p hp)]; exact s2 _ _ upd_same))) (DpAll.mono (cut_same (s1.trans s2)) hw)) .nil)
    · refine ifF (decide_eq_false e1) ⟨_, rfl, t, rfl, ⟨_, hq⟩, fun D hD => ?_⟩
      have hDl : D ≠ l := fun e => by rw [e, hl] at hD; cases hD
      have hin : innerL kind parts = parts.filter isList := by unfold innerL; rw [if_neg e1]
      refine lc_it (walk_tup (xs := .str kind :: vr)) (fun i H' => ∃ acc, H' D = some (.lst acc) ∧ acc.length ≤ i ∧ DpAll K H acc (((.str kind :: parts).take i).filter notList) ∧ Same H H') ⟨[], upd_same, Nat.le_refl _, .nil, Same.new hD⟩ (fun i H' _ p => hq.mono (let ⟨_, _, _, _, s⟩ := p; s)) ?_ ?_
      · rintro i x H1 H2 hi ⟨acc, hacc, hal, hdp, sm⟩ ⟨rfl, hx⟩
        obtain ⟨d, hd1, hd2⟩ := DpAll.get (.cons (.str kind) hr0) hx
        refine ⟨rfl, _, rfl, x, _, _, _, _, rfl, .ty _, ty_dp (hd2.mono sm), kit_list d, _, rfl, ?_⟩
        have hi' : i < 2000 := by rw [List.length_cons] at hi; omega
        have e2 : ((.str kind :: parts).take (i + 1)).filter notList = ((.str kind :: parts).take i).filter notList ++ [d].filter notList := by
          rw [TS.take_one hd1, List.filter_append]
        by_cases q : isList d = true
        · rw [q]
          have q' : ¬ notList d = true := by unfold notList; rw [q]; exact Bool.false_ne_true
          refine ifF rfl ⟨acc, hacc, by omega, ?_, sm⟩
          rw [e2, List.filter_cons_of_neg q', List.filter_nil, List.append_nil]
          exact hdp
        · rw [Bool.eq_false_iff.mpr q]
          have q' : notList d = true := by unfold notList; rw [Bool.eq_false_iff.mpr q]; rfl
          refine ifT rfl ⟨_, rfl, acc, hacc, lt_sz (by omega), acc ++ [x], upd_same, by rw [List.length_append]; show acc.length + 1 ≤ _; omega, ?_, fun b o hb => ?_⟩
          · rw [e2, List.filter_cons_of_pos q', List.filter_nil]
            exact hdp.append (.cons hd2 .nil)
          · rw [upd_ne (ne_of_none hb hD)]
            exact sm b o hb
      · rintro H1 ⟨acc, hacc, hal, hdp, sm⟩
        rw [List.take_of_length_le (by rw [List.length_cons, List.length_cons]; omega)] at hdp
        rw [List.length_cons] at hal
        refine ⟨_, rfl, _, rfl, D, l, acc, ws, rfl, rfl, hacc, sm _ _ hl, sz_lit (by omega), fun p hp => ?_⟩
        refine ⟨p, _, rfl, .inl ⟨.inl (.inl upd_same), fun q hq' => ?_⟩⟩
        have s1 : Same H1 (upd H1 p (.lst (acc ++ ws))) := Same.new hp
        have s2 : Same (upd H1 p (.lst (acc ++ ws))) (upd (upd H1 p (.lst (acc ++ ws))) q (.tup (acc ++ ws))) := Same.new hq'
        have nq : ¬ S q := nS q ((sm.trans s1).free hq')
        refine k (.ref q) _ (sm.trans (s1.trans s2)) (.tup (.inl (.inl (by rw [cut_not nq]; exact upd_same))) ?_)
        have hcat : DpAll K (cutH S H) (acc ++ ws) (.str kind :: parts) := by
          have h1 : DpAll K (cutH S H) acc ((.str kind :: parts).filter notList) := noLs_cut hS hdp (noLs_mem.mpr fun d hd => by
            obtain ⟨m1, m2⟩ := List.mem_filter.mp hd
            rcases List.mem_cons.mp m1 with rfl | m1
            · unfold noL; rfl
            · exact (hnb e1).2 d m1 (by unfold notList at m2; cases q : isList d with | false => rfl | true => rw [q] at m2; cases m2))
          have := h1.append hw
          rw [hin, List.filter_cons_of_pos (by rfl : notList (.str kind) = true), List.cons_append, ← (hnb e1).1] at this
          exact this
        exact DpAll.mono (cut_same (sm.trans (s1.trans s2))) hcat
/-! ### copies -/
theorem wIn_mem {d : PyData} : ∀ {l : List PyData}, d ∈ l → wts (listOf d) ≤ wIn l
  | x :: r, h => by
    show _ ≤ wts (listOf x) + wIn r
    rcases List.mem_cons.mp h with rfl | h
    · omega
    · have := wIn_mem h
      omega
theorem inner_len (kind : Str) (parts : List PyData) : (innerL kind parts).length ≤ wts parts := by
  unfold innerL
  split
  · cases parts with
    | nil => exact Nat.zero_le _
    | cons d r =>
      rw [wts_cons]
      cases d with
      | tuple ds =>
        have := wts_len ds
        rw [wt_tuple]
        show ds.length ≤ _
        omega
      | _ => exact Nat.zero_le _
  · have h1 := List.length_filter_le isList parts
    have h2 := wts_len parts
    omega
def spCRow (K : PySem.W.Frag) (n : Nat) : Sp := fun vs H Q _ => ∃ (v : V) (d : PyData), vs = [v] ∧ Dp K H v d ∧ rowOk (rowsOk n) d ∧ wt d ≤ 30000 ∧ ∀ v' H', Same H H' → Dp K (cutH (LstAt H) H') v' d → Q v' H'
def spCRows (K : PySem.W.Frag) (n : Nat) : Sp := fun vs H Q _ => ∃ (v : V) (ds : List PyData), vs = [v] ∧ Dp K H v (.list ds) ∧ rowsOk n ds ∧ wts ds ≤ 30000 ∧ ∀ p xs H', Same H H' → H p = none → H' p = some (.lst xs) → DpAll K (cutH (fun b => LstAt H b ∨ b = p) H') xs ds → Q (.ref p) H'
theorem sc_copy_rows : FnScope ["rows", "row"] ["rows"] (defScope s_copy_rows) := ⟨rfl, rfl, rfl, by decide +kernel, rfl, by decide +kernel, by decide +kernel⟩
theorem ok_copy_rows {f : Addr} {fd : FuncData} {k : Nat} {n : Nat} (F : Fun K "copy_rows" "copy_rows" s_copy_rows f fd) (T : Txt mg) (c_copy_row : Cal P w K mg base CX0 (k + 1) "copy_row" ["row"] (spCRow K n)) : FnOk P w K mg base CX0 (k + 2) f fd ["rows"] (spCRows K (n + 1)) := by
  refine F.ok sc_copy_rows (fun vs H Q E h => ?_) (fun cdv A outer s H vs Q E hr h => ?_)
  · obtain ⟨v, ds, rfl, _⟩ := h
    rfl
  · obtain ⟨v, ds, rfl, hd, hok, hwt, kk⟩ := h
    cases hd with
    | @lst r xs _ hq ha =>
    have hxl := ha.len
    have hwl := wts_len ds
    refine ⟨_, (pss_one (ps_ret (pe_lc (own := [("row", 1)]) (g := gName 1) (tt := tYes) rfl sc_copy_rows.nd (pi_list (pv 0)) (blkOk_by (own := [("row", 1)]) (N := ["rows", "row"]) (sc := defScope s_copy_rows) (by decide +kernel)) (fun _ _ _ _ _ => (pg_name (i := 1) sc_copy_rows.nd rfl (.inl rfl))) (fun _ _ _ _ _ => pts_nil) (fun _ _ _ _ _ => (pe_cal c_copy_row (hr.mono (by omega)) rfl pass0 (pa_cons (pv 1) pa_nil)))))), ?_⟩
    refine ⟨_, rfl, r, rfl, ⟨_, hq⟩, fun D hD => ?_⟩
    refine lc_it (walk_list (xs := xs)) (fun i H' => ∃ acc, H' D = some (.lst acc) ∧ acc.length ≤ i ∧ DpAll K (cutH (fun b => LstAt H b ∨ b = D) H') acc (ds.take i) ∧ Same H H') ⟨[], upd_same, Nat.le_refl _, .nil, Same.new hD⟩ (fun i H' _ p => hq.mono (let ⟨_, _, _, _, s⟩ := p; s)) ?_ ?_
    · rintro i x H0' H1 hi ⟨acc, hacc, hal, hdp, sm⟩ ⟨rfl, hx⟩
      obtain ⟨d, hd1, hd2⟩ := ha.get hx
      have hm := List.mem_of_getElem? hd1
      have hwd := wts_mem hm
      refine ⟨rfl, ?_⟩
      refine ⟨_, rfl, x, d, rfl, hd2.mono sm, hok d hm, by omega, fun v' H2 s2 hv' => ?_⟩
      have sub : ∀ b, LstAt H b ∨ b = D → LstAt H1 b := fun b hb => by
        rcases hb with hb | rfl
        · exact hb.mono sm
        · exact ⟨acc, hacc⟩
      refine ⟨acc, s2 _ _ hacc, lt_sz (by omega), acc ++ [v'], upd_same, by rw [List.length_append]; show acc.length + 1 ≤ _; omega, ?_, fun b o hb => ?_⟩
      · rw [cut_upd (.inr rfl), TS.take_one hd1]
        exact (DpAll.mono (cut_same s2) hdp).append (.cons (hv'.mono (cut_sub sub)) .nil)
      · rw [upd_ne (ne_of_none hb hD)]
        exact s2 b o (sm b o hb)
    · rintro H1 ⟨acc, hacc, _, hdp, sm⟩
      rw [List.take_of_length_le (by omega)] at hdp
      exact kk D acc H1 sm hD hacc hdp
theorem sc_copy_row : FnScope ["row", "lists", "rows"] ["row"] (defScope s_copy_row) := ⟨rfl, rfl, rfl, by decide +kernel, rfl, by decide +kernel, by decide +kernel⟩
theorem ok_copy_row {f : Addr} {fd : FuncData} {k : Nat} {n : Nat} (F : Fun K "copy_row" "copy_row" s_copy_row f fd) (T : Txt mg) (c_inner_lists : Cal P w K mg base CX0 1 "inner_lists" ["row"] (spInner K)) (c_with_lists : Cal P w K mg base CX0 1 "with_lists" ["row", "lists"] (spWith K)) (c_copy_rows : Cal P w K mg base CX0 (k + 1) "copy_rows" ["rows"] (spCRows K n)) : FnOk P w K mg base CX0 (k + 2) f fd ["row"] (spCRow K n) := by
  refine F.ok sc_copy_row (fun vs H Q E h => ?_) (fun cdv A outer s H vs Q E hr h => ?_)
  · obtain ⟨v, d, rfl, _⟩ := h
    rfl
  · obtain ⟨v, d, rfl, hd, hok, hwt, kk⟩ := h
    obtain ⟨kind, parts, rfl⟩ : ∃ kind parts, d = .tuple (.str kind :: parts) := by
      unfold rowOk at hok
      split at hok
      · exact ⟨_, _, rfl⟩
      · exact hok.elim
    obtain ⟨hpl, hb, hnb, hin⟩ := hok
    have hwi := wIn_inner kind parts
    rw [wt_tuple, wts_cons] at hwt
    obtain ⟨t, rfl⟩ : ∃ t, v = .ref t := by cases hd with | tup _ _ => exact ⟨_, rfl⟩
    refine ⟨_, (pss_cons (ps_set (i := 1) sc_copy_row.nd rfl (.inl rfl) (pe_cal c_inner_lists (hr.mono (by omega)) rfl pass0 (pa_cons (pv 0) pa_nil)))
      (pss_cons (ps_if (pt_cmpR op_eq (pe_callB call_len_seq (by rfl) T.b_len (by decide +kernel) (pa_cons (pv 1) pa_nil)) pe_int (nomark _)) (pss_one (ps_ret (pv 0))) pss_nil)
      (pss_one (ps_ret (pe_cal c_with_lists (hr.mono (by omega)) rfl pass0 (pa_cons (pv 0) (pa_cons (pe_lc (own := [("rows", 2)]) (g := gName 2) (tt := tYes) rfl sc_copy_row.nd (pi_list (pv 1)) (blkOk_by (own := [("rows", 2)]) (N := ["row", "lists", "rows"]) (sc := defScope s_copy_row) (by decide +kernel)) (fun _ _ _ _ _ => (pg_name (i := 2) sc_copy_row.nd rfl (.inl rfl))) (fun _ _ _ _ _ => pts_nil) (fun _ _ _ _ _ => (pe_cal c_copy_rows (hr.mono (by omega)) rfl pass0 (pa_cons (pv 2) pa_nil)))) pa_nil))))))), ?_⟩
    refine ⟨_, rfl, t, kind, parts, rfl, hd, by omega, fun e => ?_, fun p xs H1 s1 hp hp1 hdp => ?_⟩
    · obtain ⟨ds, e', _⟩ := hb e
      exact ⟨ds, [], e'⟩
    have hxl := hdp.len
    refine ⟨_, rfl, p, xs, rfl, .inl (.inl (.inl hp1)), rfl, _, rfl, ?_⟩
    by_cases e0 : xs.length = 0
    · rw [e0]
      refine ifT rfl ⟨_, rfl, ?_⟩
      have hi0 : innerL kind parts = [] := List.length_eq_zero_iff.mp (by omega)
      have nL : noL (.tuple (.str kind :: parts)) = true := by
        unfold noL
        refine noLs_mem.mpr fun d hd' => ?_
        rcases List.mem_cons.mp hd' with rfl | hd'
        · unfold noL; rfl
        · by_cases e : kind = "both"
          · obtain ⟨ds, rfl, hne⟩ := hb e
            unfold innerL at hi0
            rw [if_pos e] at hi0
            exact absurd hi0 hne
          · refine (hnb e).2 d hd' ?_
            unfold innerL at hi0
            rw [if_neg e] at hi0
            exact Bool.eq_false_iff.mpr (List.filter_eq_nil_iff.mp hi0 d hd')
      exact kk (.ref t) H1 s1 ((noL_cut (S := LstAt H) (fun b h => h) hd nL).mono (cut_same s1))
    · refine ifF (decide_eq_false (by intro z; injection z with z; omega)) ?_
      have hil := inner_len kind parts
      refine ⟨_, rfl, _, rfl, p, rfl, ⟨_, .inl (.inl hp1)⟩, fun D hD => ?_⟩
      refine lc_it (walk_list (xs := xs)) (fun i H' => ∃ acc, H' D = some (.lst acc) ∧ acc.length ≤ i ∧ DpAll K (cutH (fun b => LstAt H b ∨ b = D) H') acc ((innerL kind parts).take i) ∧ Same H1 H') ⟨[], upd_same, Nat.le_refl _, .nil, Same.new hD⟩ (fun i H' _ q => .inl (.inl ((let ⟨_, _, _, _, s⟩ := q; s) _ _ hp1))) ?_ ?_
      · rintro i x H0' H2 hi ⟨acc, hacc, hal, hdpa, sm⟩ ⟨rfl, hx⟩
        obtain ⟨d, hd1, hd2⟩ := hdp.get hx
        have hm := List.mem_of_getElem? hd1
        obtain ⟨hisl, hrok⟩ := hin d hm
        obtain ⟨dl, rfl⟩ : ∃ dl, d = .list dl := by
          cases d with
          | list dl => exact ⟨dl, rfl⟩
          | _ => cases hisl
        have hwl : wts dl ≤ wIn (innerL kind parts) := wIn_mem hm
        refine ⟨rfl, ?_⟩
        refine ⟨_, rfl, x, dl, rfl, hd2.mono (s1.trans sm), hrok, by omega, fun p2 xs2 H3 s3 hp2 hx2 hdp2 => ?_⟩
        have sub : ∀ b, LstAt H b ∨ b = D → LstAt H2 b ∨ b = p2 := fun b hb => by
          rcases hb with hb | rfl
          · exact .inl (hb.mono (s1.trans sm))
          · exact .inl ⟨acc, hacc⟩
        have np2 : ¬ (LstAt H p2 ∨ p2 = D) := fun z => by
          rcases z with z | rfl
          · obtain ⟨ys, q⟩ := z.mono (s1.trans sm)
            rw [hp2] at q
            cases q
          · rw [hacc] at hp2
            cases hp2
        refine ⟨acc, s3 _ _ hacc, lt_sz (by omega), acc ++ [.ref p2], upd_same, by rw [List.length_append]; show acc.length + 1 ≤ _; omega, ?_, fun b o hb => ?_⟩
        · rw [cut_upd (.inr rfl), TS.take_one hd1]
          refine (DpAll.mono (cut_same s3) hdpa).append (.cons (.lst (.inl (.inl (by rw [cut_not np2]; exact hx2))) (DpAll.mono (cut_sub sub) hdp2)) .nil)
        · rw [upd_ne (ne_of_none hb hD)]
          exact s3 b o (sm b o hb)
      · rintro H2 ⟨acc, hacc, _, hdpa, sm⟩
        rw [List.take_of_length_le (by omega)] at hdpa
        exact ⟨LstAt H, t, D, acc, kind, parts, rfl, hd.mono (s1.trans sm), hacc, fun b hb => hb.mono (s1.trans sm), DpAll.mono (cut_sub fun b hb => .inl hb) hdpa, hpl, by omega, hb, hnb, fun v' H' s' hv' => kk v' H' ((s1.trans sm).trans s') hv'⟩
/-- copy_rows and copy_row, by depth -/
theorem ok_copies {f1 f2 : Addr} {fd1 fd2 : FuncData} (F1 : Fun K "copy_rows" "copy_rows" s_copy_rows f1 fd1) (F2 : Fun K "copy_row" "copy_row" s_copy_row f2 fd2) (T : Txt mg) (g1 : mg "copy_rows" = some (.ref f1)) (g2 : mg "copy_row" = some (.ref f2)) (k1 : PySem.W.keepIn K (.ref f1) = true) (k2 : PySem.W.keepIn K (.ref f2) = true)
    (b1 : Binds K fd1 ["rows"] []) (b2 : Binds K fd2 ["row"] []) (c_inner_lists : Cal P w K mg base CX0 1 "inner_lists" ["row"] (spInner K)) (c_with_lists : Cal P w K mg base CX0 1 "with_lists" ["row", "lists"] (spWith K)) : ∀ n : Nat, Cal P w K mg base CX0 (2 * n + 1) "copy_rows" ["rows"] (spCRows K n)
  | 0 => ⟨f1, fd1, g1, k1, b1, F1.ok sc_copy_rows (fun vs H Q E h => by obtain ⟨v, ds, rfl, _⟩ := h; rfl) (fun cdv A outer s H vs Q E hr h => by obtain ⟨v, ds, _, _, hk, _⟩ := h; exact hk.elim)⟩
  | n + 1 => ⟨f1, fd1, g1, k1, b1, ok_copy_rows (k := 2 * n + 1) F1 T ⟨f2, fd2, g2, k2, b2, ok_copy_row (k := 2 * n) F2 T c_inner_lists c_with_lists (ok_copies F1 F2 T g1 g2 k1 k2 b1 b2 c_inner_lists c_with_lists n)⟩⟩
end
end Op
namespace L2
open PySem PySem.Spec PyProof.Rows
/-! ### a class by its name, with the promise of its __init__ -/
def Kcal (P : Program) (w : World) (K : PySem.W.Frag) (mg : Str → Option Value) (base : Heap) (CX : CXT) (k : Nat) (x : Str) (C : Addr) (ps : List Str) (sp : Sp) : Prop :=
  ∃ (f : Addr) (fd : FuncData), Mk K C f ∧ mg x = some (.ref C) ∧ Binds K fd ps [] ∧ FnOk P w K mg base CX k f fd ps sp
theorem pe_kcal {X : Cx} {CX : CXT} {k : Nat} {x : Str} {C : Addr} {ps : List Str} {sp : Sp} {E : XK} {p pos : Pos} {e : Expr} {es : List Expr} {t : TA} (c : Kcal X.prog X.w X.K X.mg X.base CX k x C ps sp) (hr : Room (k + 1) X.A) (hg : Gl X x) (hx : Passes CX X E) (ha : PA X (e :: es) t)
    (hdb : (x == ("__debug__" : Str)) = false := by decide) (he : starEach (e :: es) X.env = (false, eval e X.env) :: starEach es X.env := by rfl) (hpl : (backTo pos (starEach es X.env)).any (·.1) = false := by rfl) :
    PE X (.Call (.Name x p) (e :: es) [] pos) (tMake C sp [] E t) := by
  obtain ⟨f, fd, h1, h2, h3, h4⟩ := c
  exact pe_make h1 h4 hr hg h2 h3 .nil hx ha hdb he hpl
end L2
namespace Op
open PySem L2 PyProof.Rows
/-! ### the mirror: a program's parts -/
def progCheck (we : Bool) (asks sigs : ArgD) (ins rows : PyData) : Except (Str × List Int) Chk :=
  match okTab (areWords 4) 6 asks with
  | none => .error ("asks", [])
  | some ka => match okTab isBox 3 sigs with
    | none => .error ("signals", [])
    | some ks => if areWords 3 ins = true then checkAll ⟨ka.map (·.1), ks.map (·.1), we⟩ rows else .error ("inputs", [])
section
variable {K : PySem.W.Frag} {H H' : Hp}
theorem KvsR.has (x : Str) : ∀ {vs : List (Key × V)} {kvs : List (Str × PyData)}, KvsR K H vs kvs → (valV vs (.inr x)).isSome = decide (x ∈ kvs.map (·.1))
  | [], [], _ => rfl
  | (k, v) :: r, (y, d) :: t, ⟨h1, h2, h3⟩ => by
    rw [h1, List.map_cons]
    by_cases e : y = x
    · rw [valV_pos (by rw [e])]
      simp [e]
    · rw [valV_neg (fun q => e (Sum.inr.inj q)), KvsR.has x h3]
      simp [Ne.symm e]
theorem KvsR.known {p : Addr} {ws : List (Key × V)} {kvs kvs' : List (Str × PyData)} (h : H p = some (.dK ws)) (r : KvsR K H' ws kvs') (pm : kvs'.Perm kvs) : Known H p (kvs.map (·.1)) := ⟨ws, h, fun x => by
  rw [r.has x]
  rw [Bool.eq_iff_iff, decide_eq_true_iff, decide_eq_true_iff]
  exact (pm.map (·.1)).mem_iff⟩
end
theorem KvsR.mono {K : PySem.W.Frag} {H H' : Hp} {vs : List (Key × V)} {kvs : List (Str × PyData)} (h : KvsR K H vs kvs) (s : Kp H H') : KvsR K H' vs kvs := KvsR.kp s h
/-- all but x stay -/
def But (x : Addr) (H H' : Hp) : Prop := ∀ b o, H b = some o → b ≠ x → H' b = some o
theorem checkAll_ok {E : Env0} {d : PyData} {c : Chk} (h : checkAll E d = .ok c) : ∃ ds, d = .list ds ∧ chkL E 5 false ds [] chk0 = .ok c ∧ sizes c = none := by
  unfold checkAll at h
  split at h
  · rename_i ds
    refine ⟨ds, rfl, ?_⟩
    split at h
    · cases h
    · rename_i c1 e1
      split at h
      · cases h
      · rename_i e2
        obtain rfl := Except.ok.inj h
        exact ⟨e1, e2⟩
  · cases h
theorem sizes_edits {c : Chk} (h : sizes c = none) : c.edits.length ≤ 4 := by
  unfold sizes at h
  split at h
  · cases h
  · split at h
    · cases h
    · split at h
      · cases h
      · split at h
        · cases h
        · split at h
          · cases h
          · omega
theorem keys_dkT (xs : List Str) : ((dkT xs).map fun kv => kV kv.1) = xs.map V.str := by
  unfold dkT
  rw [List.map_map]
  rfl
section
variable {K : PySem.W.Frag} {H H' H'' : Hp} {x C dx : Addr} {fs : List (Str × V)}
theorem But.kp (b : But x H H') (h : H x = some (.ins C dx fs)) : Kp H H' := fun c o hc ho => b c o hc fun e => by
  rw [e, h] at hc
  cases hc
  cases ho
theorem But.trans (a : But x H H') (b : But x H' H'') : But x H H'' := fun c o h n => b c o (a c o h n) n
theorem Same.but (s : Same H H') : But x H H' := fun c o h _ => s c o h
theorem But.upd {o : HO} (b : But x H H') : But x H (upd H' x o) := fun c u h n => by rw [L2.upd_ne n]; exact b c u h n
theorem ArgV.but {v : V} {a : ArgD} (h : ArgV K H v a) (b : But x H H') (hx : H x = some (.ins C dx fs)) : ArgV K H' v a := by
  cases a with
  | none => exact h
  | other d => exact ⟨h.1.kp (b.kp hx), h.2⟩
  | dict kvs =>
    obtain ⟨p, vs, e, hp, hk, hn⟩ := h
    refine ⟨p, vs, e, b p _ hp fun z => ?_, hk.mono (b.kp hx), hn⟩
    rw [z, hx] at hp
    cases hp
end
structure EdC (K : PySem.W.Frag) (C : Addr) : Prop where
  cls : Cls K C
  n1 : NoAttr K C "ask_table"
  n2 : NoAttr K C "signal_table"
  n3 : NoAttr K C "input_words"
  n4 : NoAttr K C "row_list"
  n5 : NoAttr K C "edit_ids"
section
variable {P : Program} {w : World} {K : PySem.W.Frag} {mg : Str → Option Value} {base : Heap} {pS CI C RC0 : Addr}
def spEdited (K : PySem.W.Frag) (C CI : Addr) (we : Bool) : Sp := fun vs H Q X => ∃ (x dx : Addr) (rv av sv iv : V) (asks sigs : ArgD) (ins rows : PyData), vs = [.ref x, rv, av, sv, iv] ∧ H x = some (.ins C dx []) ∧ ArgV K H av asks ∧ ArgV K H sv sigs ∧ argSmall asks ∧ argSmall sigs ∧ Dp K H iv ins ∧ Dp K H rv rows ∧ small ins = true ∧ wt rows ≤ 30000 ∧
  (∀ c, progCheck we asks sigs ins rows = .ok c → ∀ H', But x H H' → Q .non H') ∧ (∀ part path, progCheck we asks sigs ins rows = .error (part, path) → ∀ H' d, Fr (x :: (argL av ++ argL sv)) H H' → XProg K H' d part path → X (.ref CI) (some d) H')
theorem sc_Edited___init__ : FnScope ["self", "rows", "asks", "signals", "inputs", "found"] ["self", "rows", "asks", "signals", "inputs"] (defScope s_Edited___init__) := ⟨rfl, rfl, rfl, by decide +kernel, rfl, by decide +kernel, by decide +kernel⟩
theorem ok_edited {f : Addr} {fd : FuncData} (F : Fun K "__init__" "Edited.__init__" s_Edited___init__ f fd) (T : TxtC P w K mg pS CI) (ec : EdC K C) (rc : RcC K RC0)
    (c_checked_asks : Cal P w K mg base (L2.CX P w) 3 "checked_asks" ["value"] (spTab K CI "asks" (areWords 4) 6)) (c_checked_signals : Cal P w K mg base (L2.CX P w) 4 "checked_signals" ["value"] (spTab K CI "signals" isBox 3)) (c_checked_inputs : Cal P w K mg base (L2.CX P w) 3 "checked_inputs" ["value"] (spInputs K CI))
    (k_RowCheck : Kcal P w K mg base CX0 1 "RowCheck" RC0 ["self", "asks", "signals", "with_edits"] (spRcInit K RC0)) (m_check : Mcal P w K mg base (L2.CX P w) 12 RC0 "check" ["self", "rows"] (spCheck K RC0 CI)) (c_copy_rows : Cal P w K mg base CX0 11 "copy_rows" ["rows"] (spCRows K 5)) :
    FnOk P w K mg base (L2.CX P w) 13 f fd ["self", "rows", "asks", "signals", "inputs"] (spEdited K C CI true) := by
  refine F.okX sc_Edited___init__ (fun vs H Q E h => ?_) (fun cdv A outer s H vs Q E hr h => ?_)
  · obtain ⟨x, dx, rv, av, sv, iv, asks, sigs, ins, rows, rfl, _⟩ := h
    rfl
  · obtain ⟨x, dx, rv, av, sv, iv, asks, sigs, ins, rows, rfl, hx, hav, hsv, hsa, hss, hiv, hrv, hsi, hwr, k1, k2⟩ := h
    have c_RowCheck := rc.cls
    refine ⟨_, (pss_cons (ps_fld (pv 0) (pe_cal c_checked_asks (hr.mono (by omega)) rfl (passes_call (takes_of rfl rfl rfl rfl) (fun _ _ _ _ h => h)) (pa_cons (pv 2) pa_nil)) rfl)
      (pss_cons (ps_fld (pv 0) (pe_cal c_checked_signals (hr.mono (by omega)) rfl (passes_call (takes_of rfl rfl rfl rfl) (fun _ _ _ _ h => h)) (pa_cons (pv 3) pa_nil)) rfl)
      (pss_cons (ps_fld (pv 0) (pe_cal c_checked_inputs (hr.mono (by omega)) rfl (passes_call (takes_of rfl rfl rfl rfl) (fun _ _ _ _ h => h)) (pa_cons (pv 4) pa_nil)) rfl)
      (pss_cons (ps_set (i := 5) sc_Edited___init__.nd rfl (.inl rfl) (pe_kcal k_RowCheck (hr.mono (by omega)) rfl pass0 (pa_cons (pe_fld (pv 0) rfl) (pa_cons (pe_fld (pv 0) rfl) (pa_cons pe_bl pa_nil)))))
      (pss_cons (ps_expr (pe_mcal (pv 5) c_RowCheck m_check (hr.mono (by omega)) (passes_call (takes_of rfl rfl rfl rfl) (fun _ _ _ _ h => h)) (pa_cons (pv 1) pa_nil)))
      (pss_cons (ps_fld (pv 0) (pe_cal c_copy_rows (hr.mono (by omega)) rfl pass0 (pa_cons (pv 1) pa_nil)) rfl)
      (pss_one (ps_fld (pv 0) (pe_callTy call_tuple_of (by rfl) T.b_tuple (by decide +kernel) (pa_cons (pe_callB cr_sortedS (by rfl) T.b_sorted (by decide +kernel) (pa_cons (pe_callTy (call_listD rfl) (by rfl) T.b_list (by decide +kernel) (pa_cons (pe_fld (pv 5) rfl) pa_nil)) pa_nil)) pa_nil)) rfl)))))))), ?_⟩
    unfold progCheck at k1 k2
    refine ⟨_, rfl, av, asks, rfl, hav, hsa, fun ka hka pa H1 wsa kva s1 hpa hpa1 pma srta hra => ?_, fun hn H1 d f1 hxp => ?_⟩
    · rw [hka] at k1 k2
      have nxa : pa ≠ x := fun e => by rw [e, hx] at hpa; cases hpa
      refine ⟨_, rfl, x, C, dx, _, rfl, s1 _ _ hx, ec.cls, ec.n1, (by show 0 < 1000; decide), ?_⟩
      have b2 : But x H (upd H1 x (.ins C dx (putF "ask_table" (.ref pa) []))) := (Same.but s1).upd
      have x2 : upd H1 x (.ins C dx (putF "ask_table" (.ref pa) [])) x = some (.ins C dx [("ask_table", .ref pa)]) := upd_same
      have pa2 : upd H1 x (.ins C dx (putF "ask_table" (.ref pa) [])) pa = some (.dK wsa) := by rw [upd_ne nxa]; exact hpa1
      revert b2 x2 pa2
      generalize upd H1 x (.ins C dx (putF "ask_table" (.ref pa) [])) = H2
      intro b2 x2 pa2
      refine ⟨_, rfl, sv, sigs, rfl, hsv.but b2 hx, hss, fun ks hks ps H3 wss kvs s3 hps hps3 pms srts hrs => ?_, fun hn H3 d f3 hxp => ?_⟩
      · rw [hks] at k1 k2
        have nxs : ps ≠ x := fun e => by rw [e, x2] at hps; cases hps
        have nas : pa ≠ ps := fun e => by rw [← e, pa2] at hps; cases hps
        refine ⟨_, rfl, x, C, dx, _, rfl, s3 _ _ x2, ec.cls, ec.n2, (by show 1 < 1000; decide), ?_⟩
        have b4 : But x H (upd H3 x (.ins C dx (putF "signal_table" (.ref ps) [("ask_table", .ref pa)]))) := (b2.trans (Same.but s3)).upd
        have x4 : upd H3 x (.ins C dx (putF "signal_table" (.ref ps) [("ask_table", .ref pa)])) x = some (.ins C dx [("ask_table", .ref pa), ("signal_table", .ref ps)]) := upd_same
        have pa4 : upd H3 x (.ins C dx (putF "signal_table" (.ref ps) [("ask_table", .ref pa)])) pa = some (.dK wsa) := by rw [upd_ne nxa]; exact s3 _ _ pa2
        have ps4 : upd H3 x (.ins C dx (putF "signal_table" (.ref ps) [("ask_table", .ref pa)])) ps = some (.dK wss) := by rw [upd_ne nxs]; exact hps3
        revert b4 x4 pa4 ps4
        generalize upd H3 x (.ins C dx (putF "signal_table" (.ref ps) [("ask_table", .ref pa)])) = H4
        intro b4 x4 pa4 ps4
        refine ⟨_, rfl, iv, ins, rfl, hiv.kp (b4.kp hx), hsi, fun hi => ?_, fun hi H5 d s5 hxp => ?_⟩
        · simp only [hi, if_true] at k1 k2
          refine ⟨_, rfl, x, C, dx, _, rfl, x4, ec.cls, ec.n3, (by show 2 < 1000; decide), ?_⟩
          have b5 : But x H (upd H4 x (.ins C dx (putF "input_words" iv [("ask_table", .ref pa), ("signal_table", .ref ps)]))) := b4.upd
          have x5 : upd H4 x (.ins C dx (putF "input_words" iv [("ask_table", .ref pa), ("signal_table", .ref ps)])) x = some (.ins C dx [("ask_table", .ref pa), ("signal_table", .ref ps), ("input_words", iv)]) := upd_same
          have pa5 : upd H4 x (.ins C dx (putF "input_words" iv [("ask_table", .ref pa), ("signal_table", .ref ps)])) pa = some (.dK wsa) := by rw [upd_ne nxa]; exact pa4
          have ps5 : upd H4 x (.ins C dx (putF "input_words" iv [("ask_table", .ref pa), ("signal_table", .ref ps)])) ps = some (.dK wss) := by rw [upd_ne nxs]; exact ps4
          revert b5 x5 pa5 ps5
          generalize upd H4 x (.ins C dx (putF "input_words" iv [("ask_table", .ref pa), ("signal_table", .ref ps)])) = H5
          intro b5 x5 pa5 ps5
          refine ⟨_, rfl, x, C, dx, _, _, rfl, x5, ec.cls, ec.n1, rfl, _, rfl, x, C, dx, _, _, rfl, x5, ec.cls, ec.n2, rfl, fun y dy hy hdy hne => ?_⟩
          have s6 : Same H5 (upd (upd H5 dy (.own y)) y (.ins RC0 dy [])) := (Same.new hdy).trans (Same.new (by rw [upd_ne hne.symm]; exact hy))
          have y6 : upd (upd H5 dy (.own y)) y (.ins RC0 dy []) y = some (.ins RC0 dy []) := upd_same
          revert s6 y6
          generalize upd (upd H5 dy (.own y)) y (.ins RC0 dy []) = H6
          intro s6 y6
          refine ⟨y, dy, pa, ps, ⟨ka.map (·.1), ks.map (·.1), true⟩, rfl, y6, KvsR.known (s6 _ _ pa5) hra pma, KvsR.known (s6 _ _ ps5) hrs pms, fun H7 R eR1 eR2 hfree O7 but7 => ⟨rfl, ?_⟩⟩
          subst eR1
          have but57 : Same H5 H7 := fun b o hb => but7 b o (s6 b o hb) fun e => by rw [e, hy] at hb; cases hb
          have b7 : But x H H7 := b5.trans (Same.but but57)
          have outL : ∀ b o, H5 b = some o → b ∉ R.L := fun b o hb hm => by
            have hm : b = R.a ∨ b ∈ [R.l, R.s, R.g, R.e] := by simpa [RcA.L] using hm
            rcases hm with e | hm
            · rw [e, hy] at hb; cases hb
            · have := hfree b hm
              rw [s6 b o hb] at this
              cases this
          refine ⟨_, rfl, _, _, _, rfl, by rw [← eR2]; exact O7.ob, rfl, _, rfl, R, _, rv, rows, rfl, eR2, O7, hrv.kp (b7.kp hx), hwr, fun c hc H8 f8 O8 => ?_, fun part path he H8 d f8 hxp => ?_⟩
          · have s8 : Same H5 H8 := fun b o hb => f8 b o (but57 b o hb) (outL b o hb)
            have b8 : But x H H8 := b5.trans (Same.but s8)
            obtain ⟨ds, rfl, hchk, hsz⟩ := checkAll_ok hc
            have hwd : wts ds ≤ 30000 := by rw [wt_list] at hwr; omega
            refine ⟨_, rfl, rv, ds, rfl, hrv.kp (b8.kp hx), rowsOk_of _ 5 _ _ _ _ _ hchk (by decide), hwd, fun p xs H9 s9 hp hp9 hdp => ?_⟩
            refine ⟨_, rfl, x, C, dx, _, rfl, s9 _ _ (s8 _ _ x5), ec.cls, ec.n4, (by show 3 < 1000; decide), ?_⟩
            have O9 := O8.mono s9
            have x9 := s9 _ _ (s8 _ _ x5)
            have ob9 : H9 R.a = some (.ins R.C R.dx (rcF R ⟨ka.map (·.1), ks.map (·.1), true⟩ c)) := O9.ob
            have nRx : R.a ≠ x := fun e => by rw [e, x9] at ob9; simp [rcF] at ob9
            have nEx : R.e ≠ x := fun e => by
              have := O9.de
              rw [e, x9] at this
              cases this
            have b10 : But x H (upd H9 x (.ins C dx (putF "row_list" (.ref p) [("ask_table", .ref pa), ("signal_table", .ref ps), ("input_words", iv)]))) := (b8.trans (Same.but s9)).upd
            have x10 : upd H9 x (.ins C dx (putF "row_list" (.ref p) [("ask_table", .ref pa), ("signal_table", .ref ps), ("input_words", iv)])) x = some (.ins C dx [("ask_table", .ref pa), ("signal_table", .ref ps), ("input_words", iv), ("row_list", .ref p)]) := upd_same
            have ob10 : upd H9 x (.ins C dx (putF "row_list" (.ref p) [("ask_table", .ref pa), ("signal_table", .ref ps), ("input_words", iv)])) R.a = some (.ins R.C R.dx (rcF R ⟨ka.map (·.1), ks.map (·.1), true⟩ c)) := by rw [upd_ne nRx]; exact ob9
            have de10 : upd H9 x (.ins C dx (putF "row_list" (.ref p) [("ask_table", .ref pa), ("signal_table", .ref ps), ("input_words", iv)])) R.e = some (.dK (dkT c.edits)) := by rw [upd_ne nEx]; exact O9.de
            revert b10 x10 ob10 de10
            generalize upd H9 x (.ins C dx (putF "row_list" (.ref p) [("ask_table", .ref pa), ("signal_table", .ref ps), ("input_words", iv)])) = H10
            intro b10 x10 ob10 de10
            have hed : c.edits.length ≤ 4 := sizes_edits hsz
            refine ⟨_, rfl, R.a, R.C, R.dx, _, _, rfl, ob10, eR2 ▸ rc.cls, eR2 ▸ rc.n8, rfl, R.e, _, rfl, .inl de10, fun p2 hp2 => ?_⟩
            rw [keys_dkT]
            have s11 : Same H10 (upd H10 p2 (.lst (c.edits.map V.str))) := Same.new hp2
            refine ⟨p2, c.edits, rfl, .inl (.inl upd_same), by omega, fun ys q hperm hsrt hq => ?_⟩
            refine ⟨q, _, rfl, .inl ⟨.inl (.inl upd_same), fun l hl => ?_⟩⟩
            have s12 := s11.trans ((Same.new (o := .lst (ys.map V.str)) hq).trans (Same.new (o := .tup (ys.map V.str)) hl))
            refine ⟨_, rfl, x, C, dx, _, rfl, s12 _ _ x10, ec.cls, ec.n5, (by show 4 < 1000; decide), ?_⟩
            exact k1 c hc _ ((b10.trans (Same.but s12)).upd)
          · refine k2 part path he H8 d (fun b o hb hn => ?_) hxp
            have hbx : b ≠ x := fun e => hn (by rw [e]; exact List.mem_cons_self)
            have h5 := b5 b o hb hbx
            exact f8 b o (but57 b o h5) (outL b o h5)
        · simp only [hi, if_false, Bool.false_eq_true] at k2
          exact k2 _ _ rfl H5 d (fun b o hb hn => s5 b o (b4 b o hb fun e => hn (by rw [e]; exact List.mem_cons_self))) hxp
      · rw [hn] at k2
        exact k2 _ _ rfl H3 d (fun b o hb hn => f3 b o (b2 b o hb fun e => hn (by rw [e]; exact List.mem_cons_self)) fun m => hn (List.mem_cons_of_mem _ (List.mem_append_right _ m))) hxp
    · rw [hn] at k2
      exact k2 _ _ rfl H1 d (fun b o hb hn => f1 b o hb fun m => hn (List.mem_cons_of_mem _ (List.mem_append_left _ m))) hxp
end
end Op
namespace Op
open PySem L2 PyProof.Rows
structure PrC (K : PySem.W.Frag) (C : Addr) : Prop where
  cls : Cls K C
  n1 : NoAttr K C "ask_table"
  n2 : NoAttr K C "signal_table"
  n3 : NoAttr K C "input_words"
section
variable {P : Program} {w : World} {K : PySem.W.Frag} {mg : Str → Option Value} {base : Heap} {pS CI C RC0 : Addr}
/-- a program that is refused -/
def spProgBad (K : PySem.W.Frag) (C CI : Addr) : Sp := fun vs H Q X => ∃ (x dx : Addr) (rv av sv iv : V) (asks sigs : ArgD) (ins rows : PyData), vs = [.ref x, rv, av, sv, iv] ∧ H x = some (.ins C dx []) ∧ ArgV K H av asks ∧ ArgV K H sv sigs ∧ argSmall asks ∧ argSmall sigs ∧ Dp K H iv ins ∧ Dp K H rv rows ∧ small ins = true ∧ wt rows ≤ 30000 ∧
  (∃ part path, progCheck false asks sigs ins rows = .error (part, path)) ∧ (∀ part path, progCheck false asks sigs ins rows = .error (part, path) → ∀ H' d, Fr (x :: (argL av ++ argL sv)) H H' → XProg K H' d part path → X (.ref CI) (some d) H')
theorem sc_Program___init__ : FnScope ["self", "rows", "asks", "signals", "inputs", "found"] ["self", "rows", "asks", "signals", "inputs"] (defScope s_Program___init__) := ⟨rfl, rfl, rfl, by decide +kernel, rfl, by decide +kernel, by decide +kernel⟩
theorem ok_progBad {f : Addr} {fd : FuncData} (F : Fun K "__init__" "Program.__init__" s_Program___init__ f fd) (T : TxtC P w K mg pS CI) (ec : PrC K C) (rc : RcC K RC0)
    (c_checked_asks : Cal P w K mg base (L2.CX P w) 3 "checked_asks" ["value"] (spTab K CI "asks" (areWords 4) 6)) (c_checked_signals : Cal P w K mg base (L2.CX P w) 4 "checked_signals" ["value"] (spTab K CI "signals" isBox 3)) (c_checked_inputs : Cal P w K mg base (L2.CX P w) 3 "checked_inputs" ["value"] (spInputs K CI))
    (k_RowCheck : Kcal P w K mg base CX0 1 "RowCheck" RC0 ["self", "asks", "signals", "with_edits"] (spRcInit K RC0)) (m_check : Mcal P w K mg base (L2.CX P w) 12 RC0 "check" ["self", "rows"] (spCheck K RC0 CI)) :
    FnOk P w K mg base (L2.CX P w) 13 f fd ["self", "rows", "asks", "signals", "inputs"] (spProgBad K C CI) := by
  refine F.okX sc_Program___init__ (fun vs H Q E h => ?_) (fun cdv A outer s H vs Q E hr h => ?_)
  · obtain ⟨x, dx, rv, av, sv, iv, asks, sigs, ins, rows, rfl, _⟩ := h
    rfl
  · obtain ⟨x, dx, rv, av, sv, iv, asks, sigs, ins, rows, rfl, hx, hav, hsv, hsa, hss, hiv, hrv, hsi, hwr, hbad, k2⟩ := h
    have c_RowCheck := rc.cls
    refine ⟨_, (pss_cons (ps_fld (pv 0) (pe_cal c_checked_asks (hr.mono (by omega)) rfl (passes_call (takes_of rfl rfl rfl rfl) (fun _ _ _ _ h => h)) (pa_cons (pv 2) pa_nil)) rfl)
      (pss_cons (ps_fld (pv 0) (pe_cal c_checked_signals (hr.mono (by omega)) rfl (passes_call (takes_of rfl rfl rfl rfl) (fun _ _ _ _ h => h)) (pa_cons (pv 3) pa_nil)) rfl)
      (pss_cons (ps_fld (pv 0) (pe_cal c_checked_inputs (hr.mono (by omega)) rfl (passes_call (takes_of rfl rfl rfl rfl) (fun _ _ _ _ h => h)) (pa_cons (pv 4) pa_nil)) rfl)
      (pss_cons (ps_set (i := 5) sc_Program___init__.nd rfl (.inl rfl) (pe_kcal k_RowCheck (hr.mono (by omega)) rfl pass0 (pa_cons (pe_fld (pv 0) rfl) (pa_cons (pe_fld (pv 0) rfl) (pa_cons pe_bl pa_nil)))))
      (pss_cons (ps_expr (pe_mcal (pv 5) c_RowCheck m_check (hr.mono (by omega)) (passes_call (takes_of rfl rfl rfl rfl) (fun _ _ _ _ h => h)) (pa_cons (pv 1) pa_nil)))
      pss_never))))), ?_⟩
    unfold progCheck at hbad k2
    refine ⟨_, rfl, av, asks, rfl, hav, hsa, fun ka hka pa H1 wsa kva s1 hpa hpa1 pma srta hra => ?_, fun hn H1 d f1 hxp => ?_⟩
    · rw [hka] at hbad k2
      have nxa : pa ≠ x := fun e => by rw [e, hx] at hpa; cases hpa
      refine ⟨_, rfl, x, C, dx, _, rfl, s1 _ _ hx, ec.cls, ec.n1, (by show 0 < 1000; decide), ?_⟩
      have b2 : But x H (upd H1 x (.ins C dx (putF "ask_table" (.ref pa) []))) := (Same.but s1).upd
      have x2 : upd H1 x (.ins C dx (putF "ask_table" (.ref pa) [])) x = some (.ins C dx [("ask_table", .ref pa)]) := upd_same
      have pa2 : upd H1 x (.ins C dx (putF "ask_table" (.ref pa) [])) pa = some (.dK wsa) := by rw [upd_ne nxa]; exact hpa1
      revert b2 x2 pa2
      generalize upd H1 x (.ins C dx (putF "ask_table" (.ref pa) [])) = H2
      intro b2 x2 pa2
      refine ⟨_, rfl, sv, sigs, rfl, hsv.but b2 hx, hss, fun ks hks ps H3 wss kvs s3 hps hps3 pms srts hrs => ?_, fun hn H3 d f3 hxp => ?_⟩
      · rw [hks] at hbad k2
        have nxs : ps ≠ x := fun e => by rw [e, x2] at hps; cases hps
        have nas : pa ≠ ps := fun e => by rw [← e, pa2] at hps; cases hps
        refine ⟨_, rfl, x, C, dx, _, rfl, s3 _ _ x2, ec.cls, ec.n2, (by show 1 < 1000; decide), ?_⟩
        have b4 : But x H (upd H3 x (.ins C dx (putF "signal_table" (.ref ps) [("ask_table", .ref pa)]))) := (b2.trans (Same.but s3)).upd
        have x4 : upd H3 x (.ins C dx (putF "signal_table" (.ref ps) [("ask_table", .ref pa)])) x = some (.ins C dx [("ask_table", .ref pa), ("signal_table", .ref ps)]) := upd_same
        have pa4 : upd H3 x (.ins C dx (putF "signal_table" (.ref ps) [("ask_table", .ref pa)])) pa = some (.dK wsa) := by rw [upd_ne nxa]; exact s3 _ _ pa2
        have ps4 : upd H3 x (.ins C dx (putF "signal_table" (.ref ps) [("ask_table", .ref pa)])) ps = some (.dK wss) := by rw [upd_ne nxs]; exact hps3
        revert b4 x4 pa4 ps4
        generalize upd H3 x (.ins C dx (putF "signal_table" (.ref ps) [("ask_table", .ref pa)])) = H4
        intro b4 x4 pa4 ps4
        refine ⟨_, rfl, iv, ins, rfl, hiv.kp (b4.kp hx), hsi, fun hi => ?_, fun hi H5 d s5 hxp => ?_⟩
        · simp only [hi, if_true] at hbad k2
          refine ⟨_, rfl, x, C, dx, _, rfl, x4, ec.cls, ec.n3, (by show 2 < 1000; decide), ?_⟩
          have b5 : But x H (upd H4 x (.ins C dx (putF "input_words" iv [("ask_table", .ref pa), ("signal_table", .ref ps)]))) := b4.upd
          have x5 : upd H4 x (.ins C dx (putF "input_words" iv [("ask_table", .ref pa), ("signal_table", .ref ps)])) x = some (.ins C dx [("ask_table", .ref pa), ("signal_table", .ref ps), ("input_words", iv)]) := upd_same
          have pa5 : upd H4 x (.ins C dx (putF "input_words" iv [("ask_table", .ref pa), ("signal_table", .ref ps)])) pa = some (.dK wsa) := by rw [upd_ne nxa]; exact pa4
          have ps5 : upd H4 x (.ins C dx (putF "input_words" iv [("ask_table", .ref pa), ("signal_table", .ref ps)])) ps = some (.dK wss) := by rw [upd_ne nxs]; exact ps4
          revert b5 x5 pa5 ps5
          generalize upd H4 x (.ins C dx (putF "input_words" iv [("ask_table", .ref pa), ("signal_table", .ref ps)])) = H5
          intro b5 x5 pa5 ps5
          refine ⟨_, rfl, x, C, dx, _, _, rfl, x5, ec.cls, ec.n1, rfl, _, rfl, x, C, dx, _, _, rfl, x5, ec.cls, ec.n2, rfl, fun y dy hy hdy hne => ?_⟩
          have s6 : Same H5 (upd (upd H5 dy (.own y)) y (.ins RC0 dy [])) := (Same.new hdy).trans (Same.new (by rw [upd_ne hne.symm]; exact hy))
          have y6 : upd (upd H5 dy (.own y)) y (.ins RC0 dy []) y = some (.ins RC0 dy []) := upd_same
          revert s6 y6
          generalize upd (upd H5 dy (.own y)) y (.ins RC0 dy []) = H6
          intro s6 y6
          refine ⟨y, dy, pa, ps, ⟨ka.map (·.1), ks.map (·.1), false⟩, rfl, y6, KvsR.known (s6 _ _ pa5) hra pma, KvsR.known (s6 _ _ ps5) hrs pms, fun H7 R eR1 eR2 hfree O7 but7 => ⟨rfl, ?_⟩⟩
          subst eR1
          have but57 : Same H5 H7 := fun b o hb => but7 b o (s6 b o hb) fun e => by rw [e, hy] at hb; cases hb
          have b7 : But x H H7 := b5.trans (Same.but but57)
          have outL : ∀ b o, H5 b = some o → b ∉ R.L := fun b o hb hm => by
            have hm : b = R.a ∨ b ∈ [R.l, R.s, R.g, R.e] := by simpa [RcA.L] using hm
            rcases hm with e | hm
            · rw [e, hy] at hb; cases hb
            · have := hfree b hm
              rw [s6 b o hb] at this
              cases this
          refine ⟨_, rfl, _, _, _, rfl, by rw [← eR2]; exact O7.ob, rfl, _, rfl, R, _, rv, rows, rfl, eR2, O7, hrv.kp (b7.kp hx), hwr, fun c hc H8 f8 O8 => ?_, fun part path he H8 d f8 hxp => ?_⟩
          · rw [hc] at hbad
            obtain ⟨_, _, hbad⟩ := hbad
            cases hbad
          · refine k2 part path he H8 d (fun b o hb hn => ?_) hxp
            have hbx : b ≠ x := fun e => hn (by rw [e]; exact List.mem_cons_self)
            have h5 := b5 b o hb hbx
            exact f8 b o (but57 b o h5) (outL b o h5)
        · simp only [hi, if_false, Bool.false_eq_true] at k2
          exact k2 _ _ rfl H5 d (fun b o hb hn => s5 b o (b4 b o hb fun e => hn (by rw [e]; exact List.mem_cons_self))) hxp
      · rw [hn] at k2
        exact k2 _ _ rfl H3 d (fun b o hb hn => f3 b o (b2 b o hb fun e => hn (by rw [e]; exact List.mem_cons_self)) fun m => hn (List.mem_cons_of_mem _ (List.mem_append_right _ m))) hxp
    · rw [hn] at k2
      exact k2 _ _ rfl H1 d (fun b o hb hn => f1 b o hb fun m => hn (List.mem_cons_of_mem _ (List.mem_append_left _ m))) hxp
end
end Op
namespace Op
open PySem L2 PyProof.Rows
/-! ### great powers -/
theorem op_powW {X : Cx} : OpR X (binaryOp .Pow) (rI (fun i j => 0 ≤ j ∧ (Builtin.Int.intBits i : Int) * j ≤ 2 ^ 27) fun i j => .int (i ^ j.toNat)) := opI fun _ _ _ _ _ _ _ hc q => pow_int hc.1 hc.2 q
/-! ### the pool -/
def pool (b sd c : Int) : HO := .dK [((.inr "big" : Key), .int b), (.inr "seed", .int sd), (.inr "k", .int c)]
theorem mk_pool (b sd c : Int) : mergeK [] [((.inr "big" : Key), V.int b), (.inr "seed", .int sd), (.inr "k", .int c)] = [((.inr "big" : Key), .int b), (.inr "seed", .int sd), (.inr "k", .int c)] := by
  first | rfl | kernel_rfl
theorem put_count (b sd c c' : Int) : putK [((.inr "big" : Key), V.int b), (.inr "seed", .int sd), (.inr "k", .int c)] (.inr "k") (.int c') = [((.inr "big" : Key), .int b), (.inr "seed", .int sd), (.inr "k", .int c')] := by
  first | rfl | kernel_rfl
theorem put_big (b sd c b' : Int) : putK [((.inr "big" : Key), V.int b), (.inr "seed", .int sd), (.inr "k", .int c)] (.inr "big") (.int b') = [((.inr "big" : Key), .int b'), (.inr "seed", .int sd), (.inr "k", .int c)] := by
  first | rfl | kernel_rfl
section
variable {H : Hp} {p : Addr} {b sd c : Int}
theorem get_count (h : H p = some (pool b sd c)) : DGet H p (.str "k") (some (.int c)) := DGet.k (k := (.inr "k" : Key)) h
theorem get_big (h : H p = some (pool b sd c)) : DGet H p (.str "big") (some (.int b)) := DGet.k (k := (.inr "big" : Key)) h
theorem get_seed (h : H p = some (pool b sd c)) : DGet H p (.str "seed") (some (.int sd)) := DGet.k (k := (.inr "seed" : Key)) h
theorem dput_count (h : H p = some (pool b sd c)) (c' : Int) : DPut H p (.str "k") (.int c') (upd H p (pool b sd c')) := by
  have z := DPut.k (k := (.inr "k" : Key)) (v := .int c') h (by show 3 < sizeLine; rw [sizeLine_eq]; decide)
  rw [put_count] at z
  exact z
theorem dput_big (h : H p = some (pool b sd c)) (b' : Int) : DPut H p (.str "big") (.int b') (upd H p (pool b' sd c)) := by
  have z := DPut.k (k := (.inr "big" : Key)) (v := .int b') h (by show 3 < sizeLine; rw [sizeLine_eq]; decide)
  rw [put_big] at z
  exact z
end
theorem fmod_lt {a m : Int} (h : 0 < m) : 0 ≤ a.fmod m ∧ a.fmod m < m := ⟨Int.fmod_nonneg_of_pos _ h, Int.fmod_lt_of_pos _ h⟩
theorem lt64a {a : Int} : -(2 ^ 64) < a.fmod 2147483629 + 1 ∧ a.fmod 2147483629 + 1 < 2 ^ 64 := by
  have := fmod_lt (a := a) (m := 2147483629) (by decide)
  omega
theorem lt64b {a : Int} : -(2 ^ 64) < a.fmod 2147483647 ∧ a.fmod 2147483647 < 2 ^ 64 := by
  have := fmod_lt (a := a) (m := 2147483647) (by decide)
  omega
def spPool (K : PySem.W.Frag) : Sp := fun vs H Q _ => ∃ (a : Addr) (ns : List Int), vs = [.ref a, .int 0] ∧ SqL K H a (ns.map V.int) ∧ ns.length ≤ 63 ∧
  ∀ (p : Addr) (b sd c : Int), H p = none → 0 ≤ b → Q (.ref p) (upd H p (pool b sd c))
def spDraw : Sp := fun vs H Q _ => ∃ (p : Addr) (m b sd c : Int), vs = [.ref p, .int m] ∧ H p = some (pool b sd c) ∧ 0 ≤ b ∧ 1 ≤ m ∧ m < 1073741824 ∧
  ∀ (r b' c' : Int), 0 ≤ r → r < m → 0 ≤ b' → Q (.int r) (upd H p (pool b' sd c'))
section
variable {P : Program} {w : World} {K : PySem.W.Frag} {mg : Str → Option Value} {base : Heap}
theorem sc__law_pool : FnScope ["_law_script", "_law_k", "_law_cell", "_law_big"] ["_law_script", "_law_k"] (defScope s__law_pool) := ⟨rfl, rfl, rfl, by decide +kernel, rfl, by decide +kernel, by decide +kernel⟩
theorem ok_pool {f : Addr} {fd : FuncData} (F : Fun K "_law_pool" "_law_pool" s__law_pool f fd) (T : Txt mg) : FnOk P w K mg base CX0 1 f fd ["_law_script", "_law_k"] (spPool K) := by
  refine F.ok sc__law_pool (fun vs H Q E h => ?_) (fun cdv A outer s H vs Q E hr h => ?_)
  · obtain ⟨a, ns, rfl, _⟩ := h
    rfl
  · obtain ⟨a, ns, rfl, hS, hlen, k⟩ := h
    refine ⟨_, (pss_cons (ps_set (i := 2) sc__law_pool.nd rfl (.inl rfl) pe_int)
      (Evl.pss_cut (ps_if (pt_cmpR op_lt (pv 1) (pe_callB call_len_seq (by rfl) T.b_len (by decide +kernel) (pa_cons (pv 0) pa_nil)) (nomark _)) (pss_one (ps_set (i := 2) sc__law_pool.nd rfl (.inl rfl) (pe_callTy call_int1 (by rfl) T.b_int (by decide +kernel) (pa_cons (pe_ix ix_list (pv 0) (pv 1) (fun _ _ => rfl)) pa_nil)))) pss_nil)
      (pss_cons (ps_set (i := 3) sc__law_pool.nd rfl (.inl rfl) pe_int)
      (Evl.pss_cut (ps_if (pt_cmpR op_ge (pv 2) (pe_op op_pow pe_int pe_int) (nomark _)) (pss_one (ps_set (i := 3) sc__law_pool.nd rfl (.inl rfl) (pe_op op_modN (pe_callTy call_int1 (by rfl) T.b_int (by decide +kernel) (pa_cons (pv 2) pa_nil)) (pe_op op_powW (pe_op op_pow pe_int pe_int) pe_int)))) pss_nil)
      (pss_one (ps_ret (pe_disp (pps_cons pe_str (pv 3) (pps_cons pe_str (pe_op op_modN (pe_callTy call_int1 (by rfl) T.b_int (by decide +kernel) (pa_cons (pv 2) pa_nil)) pe_int) (pps_cons pe_str (pe_op op_mul pe_int (pv 1)) pps_nil))) (by rfl) (by rfl) (fun z => by cases z) (by decide)))))))), ?_⟩
    refine ⟨fun σ H' => H' = H ∧ ∃ c : Int, σ = [some (.ref a), some (.int 0), some (.int c), none], ?_, ?_⟩
    · refine ⟨_, rfl, _, rfl, a, _, rfl, .inl hS, _, _, rfl, rfl, _, rfl, ?_⟩
      by_cases c : (0 : Int) < ((ns.map V.int).length : Int)
      · refine ifT (decide_eq_true c) ?_
        cases ns with
        | nil => simp at c
        | cons n r =>
          exact ⟨_, rfl, _, rfl, a, _, _, _, rfl, rfl, hS, atI_nat (j := 0) rfl, .inl ⟨n, rfl, rfl, n, rfl⟩⟩
      · exact ifF (decide_eq_false c) ⟨rfl, 0, rfl⟩
    · rintro _ H1 ⟨e1, c, rfl⟩
      subst e1
      refine ⟨fun σ H' => H' = H1 ∧ ∃ b : Int, 0 ≤ b ∧ σ = [some (.ref a), some (.int 0), some (.int c), some (.int b)], ?_, ?_⟩
      · refine ⟨_, rfl, _, _, rfl, rfl, ⟨by decide, by decide, by decide⟩, _, _, rfl, rfl, _, rfl, ?_⟩
        by_cases e : (10 : Int) ^ (18 : Int).toNat ≤ c
        · refine ifT (decide_eq_true e) ?_
          refine ⟨_, rfl, .inl ⟨c, rfl, ?_⟩⟩
          refine ⟨_, _, rfl, rfl, ⟨by decide, by decide, by decide⟩, _, _, rfl, rfl, ⟨by decide, by decide +kernel⟩, _, _, rfl, rfl, (by show ((10 : Int) ^ (50 : Int).toNat) ^ (8 : Int).toNat ≠ 0; decide +kernel), rfl, _, ?_, rfl⟩
          exact Int.fmod_nonneg_of_pos _ (by decide +kernel)
        · exact ifF (decide_eq_false e) ⟨rfl, 0, by decide, rfl⟩
      · rintro _ H2 ⟨e2, b, hb, rfl⟩
        subst e2
        intro p hp
        refine ⟨_, rfl, _, rfl, .inl ⟨c, rfl, _, _, rfl, rfl, (by show (2147483647 : Int) ≠ 0; decide), _, rfl, _, _, rfl, rfl, .inl ⟨by decide, by decide⟩, upd_same, [((.inr "big" : Key), .int b), (.inr "seed", .int (c.fmod 2147483647)), (.inr "k", .int (7 * 0))], rfl, (by show 3 ≤ 15; decide), ?_⟩⟩
        refine (congrArg (fun l => Q (.ref p) l) ?_).mp (k p b (c.fmod 2147483647) (7 * 0) hp hb)
        rw [mk_pool]
        exact upd_upd.symm
theorem sc__law_draw : FnScope ["_law_pool_here", "_law_many_here", "_law_digit", "_law_one", "_law_two"] ["_law_pool_here", "_law_many_here"] (defScope s__law_draw) := ⟨rfl, rfl, rfl, by decide +kernel, rfl, by decide +kernel, by decide +kernel⟩
theorem ok_draw {f : Addr} {fd : FuncData} (F : Fun K "_law_draw" "_law_draw" s__law_draw f fd) (T : Txt mg) : FnOk P w K mg base CX0 1 f fd ["_law_pool_here", "_law_many_here"] spDraw := by
  refine F.ok sc__law_draw (fun vs H Q E h => ?_) (fun cdv A outer s H vs Q E hr h => ?_)
  · obtain ⟨p, m, b, sd, c, rfl, _⟩ := h
    rfl
  · obtain ⟨p, m, b, sd, c, rfl, hp, hb, h1, h2, k⟩ := h
    have hu := hu_of hr
    refine ⟨_, (pss_cons (ps_dput hu (pv 0) pe_str (pe_op op_add (pe_dget hu (pv 0) pe_str (fun _ _ => rfl)) pe_int) rfl)
      (pss_cons (ps_if (pt_cmpR op_gt (pe_dget hu (pv 0) pe_str (fun _ _ => rfl)) pe_int (nomark _)) (pss_cons (ps_set (i := 2) sc__law_draw.nd rfl (.inl rfl) (pe_op op_modN (pe_callTy call_int1 (by rfl) T.b_int (by decide +kernel) (pa_cons (pe_dget hu (pv 0) pe_str (fun _ _ => rfl)) pa_nil)) (pv 1)))
      (pss_cons (ps_dput hu (pv 0) pe_str (pe_op op_fdivN (pe_dget hu (pv 0) pe_str (fun _ _ => rfl)) (pv 1)) rfl)
      (pss_one (ps_ret (pv 2))))) pss_nil)
      (pss_cons (ps_set (i := 3) sc__law_draw.nd rfl (.inl rfl) (pe_op op_add (pe_op op_modN (pe_callTy call_int1 (by rfl) T.b_int (by decide +kernel) (pa_cons (pe_op op_add (pe_op op_add (pe_op op_mul (pe_dget hu (pv 0) pe_str (fun _ _ => rfl)) pe_int) (pe_op op_mul (pe_dget hu (pv 0) pe_str (fun _ _ => rfl)) pe_int)) pe_int) pa_nil)) pe_int) pe_int))
      (pss_cons (ps_set (i := 4) sc__law_draw.nd rfl (.inl rfl) (pe_op op_modN (pe_callTy call_int1 (by rfl) T.b_int (by decide +kernel) (pa_cons (pe_op op_mul (pv 3) (pe_op op_add (pe_op op_fdivN (pv 3) pe_int) pe_int)) pa_nil)) pe_int))
      (pss_cons (ps_set (i := 4) sc__law_draw.nd rfl (.inl rfl) (pe_op op_modN (pe_callTy call_int1 (by rfl) T.b_int (by decide +kernel) (pa_cons (pe_op op_mul (pv 4) (pe_op op_add (pe_op op_fdivN (pv 4) pe_int) pe_int)) pa_nil)) pe_int))
      (pss_one (ps_ret (pe_op op_modN (pe_callTy call_int1 (by rfl) T.b_int (by decide +kernel) (pa_cons (pe_op op_fdivN (pv 4) pe_int) pa_nil)) (pv 1))))))))), ?_⟩
    refine ⟨_, rfl, p, _, rfl, get_count hp, _, _, rfl, rfl, _, rfl, p, _, rfl, dput_count hp _, ?_⟩
    have hp1 : upd H p (pool b sd (c + 1)) p = some (pool b sd (c + 1)) := upd_same
    refine ⟨_, rfl, p, _, rfl, get_big hp1, _, _, rfl, rfl, _, rfl, ?_⟩
    by_cases e : (0 : Int) < b
    · refine ifT (decide_eq_true e) ?_
      refine ⟨_, rfl, p, _, rfl, get_big hp1, .inl ⟨b, rfl, _, rfl, _, _, rfl, rfl, (by show m ≠ 0; omega), ?_⟩⟩
      refine ⟨_, rfl, p, _, rfl, get_big hp1, _, rfl, _, _, rfl, rfl, ⟨(by omega), (by omega)⟩, _, rfl, p, _, rfl, dput_big hp1 _, _, rfl, ?_⟩
      rw [upd_upd]
      exact k _ _ _ (fmod_lt (by omega)).1 (fmod_lt (by omega)).2 (Int.fdiv_nonneg (by omega) (by omega))
    · refine ifF (decide_eq_false e) ?_
      refine ⟨_, rfl, p, _, rfl, get_seed hp1, _, _, rfl, rfl, .inr ⟨by decide, by decide⟩, _, rfl, p, _, rfl, get_count hp1, _, _, rfl, rfl, .inr ⟨by decide, by decide⟩, _, _, rfl, rfl, _, _, rfl, rfl, .inl ⟨_, rfl, _, _, rfl, rfl, (by show (2147483629 : Int) ≠ 0; decide), _, _, rfl, rfl, ?_⟩⟩
      refine ⟨_, rfl, _, rfl, _, _, rfl, rfl, ⟨by decide, by decide⟩, _, _, rfl, rfl, _, _, rfl, rfl, .inl lt64a, .inl ⟨_, rfl, _, _, rfl, rfl, (by show (2147483647 : Int) ≠ 0; decide), ?_⟩⟩
      refine ⟨_, rfl, _, rfl, _, _, rfl, rfl, ⟨by decide, by decide⟩, _, _, rfl, rfl, _, _, rfl, rfl, .inl lt64b, .inl ⟨_, rfl, _, _, rfl, rfl, (by show (2147483399 : Int) ≠ 0; decide), ?_⟩⟩
      refine ⟨_, rfl, _, _, rfl, rfl, ⟨by decide, by decide⟩, .inl ⟨_, rfl, _, rfl, _, _, rfl, rfl, (by show m ≠ 0; omega), ?_⟩⟩
      exact k _ _ _ (fmod_lt (by omega)).1 (fmod_lt (by omega)).2 hb
end
end Op
namespace Op
open PySem L2 PyProof.Rows
/-- the pool stands at p -/
def Pl (H : Hp) (p : Addr) : Prop := ∃ b sd c, H p = some (pool b sd c) ∧ 0 ≤ b
section
variable {K : PySem.W.Frag} {H H' : Hp} {p : Addr}
theorem Pl.kp (h : Pl H p) (b : But p H H') : Kp H H' := fun c o hc ho => b c o hc fun e => by
  obtain ⟨_, _, _, h, _⟩ := h
  rw [e, h] at hc
  cases hc
  cases ho
theorem Pl.mono (h : Pl H p) (s : Same H H') : Pl H' p := let ⟨b, sd, c, e, z⟩ := h; ⟨b, sd, c, s _ _ e, z⟩
theorem Pl.ne {a : Addr} {xs : List V} (h : Pl H p) (e : H a = some (.lst xs)) : a ≠ p := fun q => by
  obtain ⟨_, _, _, h, _⟩ := h
  rw [q, h] at e
  cases e
theorem Pl.put {a : Addr} {xs : List V} {o : HO} (h : Pl H p) (e : H a = some (.lst xs)) : Pl (upd H a o) p := by
  have n := h.ne e
  obtain ⟨b, sd, c, h, z⟩ := h
  exact ⟨b, sd, c, by rw [upd_ne n.symm]; exact h, z⟩
end
def spD : Sp := fun vs H Q _ => ∃ (p : Addr) (m : Int), vs = [.ref p, .int m] ∧ Pl H p ∧ 1 ≤ m ∧ m < 1073741824 ∧ ∀ (r : Int) H', 0 ≤ r → r < m → But p H H' → Pl H' p → Q (.int r) H'
def nameOk (z : Str) : Prop := isWordS z = true ∧ z.length ≠ 2
instance (z : Str) : Decidable (nameOk z) := inferInstanceAs (Decidable (_ ∧ _))
theorem names_ok : ∀ c : Nat, c ∈ letters.cps.toList → nameOk ⟨#[c]⟩ ∧ nameOk ("same" ++ ⟨#[c]⟩ ++ "end") ∧ nameOk (⟨#[c]⟩ ++ "word") := by decide +kernel
theorem names_sz (c : Nat) : (("same" ++ ⟨#[c]⟩ : Str)).length + (("end" : Str)).length ≤ 100000 := by
  show (("same" : Str).cps ++ #[c]).size + 3 ≤ 100000
  rw [Array.size_append]
  show 4 + 1 + 3 ≤ 100000
  decide
section
variable {P : Program} {w : World} {K : PySem.W.Frag} {mg : Str → Option Value} {base : Heap}
theorem ok_draw2 {f : Addr} {fd : FuncData} (h : FnOk P w K mg base CX0 1 f fd ["_law_pool_here", "_law_many_here"] spDraw) : FnOk P w K mg base CX0 1 f fd ["_law_pool_here", "_law_many_here"] spD := by
  refine h.imp fun vs H Q E hq => ?_
  obtain ⟨p, m, rfl, ⟨b, sd, c, hp, hb⟩, h1, h2, k⟩ := hq
  refine ⟨p, m, b, sd, c, rfl, hp, hb, h1, h2, fun r b' c' r1 r2 hb' => k r _ r1 r2 (fun a o ha n => by rw [L2.upd_ne n]; exact ha) ⟨b', sd, c', upd_same, hb'⟩⟩
def spItem (K : PySem.W.Frag) : Sp := fun vs H Q _ => ∃ (p l : Addr) (zs : List Str), vs = [.ref p, .ref l] ∧ Pl H p ∧ SqL K H l (zs.map V.str) ∧ 1 ≤ zs.length ∧ zs.length ≤ 1000 ∧ ∀ z H', z ∈ zs → But p H H' → Pl H' p → Q (.str z) H'
theorem sc__law_item : FnScope ["_law_pool_here", "_law_items"] ["_law_pool_here", "_law_items"] (defScope s__law_item) := ⟨rfl, rfl, rfl, by decide +kernel, rfl, by decide +kernel, by decide +kernel⟩
theorem ok_item {f : Addr} {fd : FuncData} (F : Fun K "_law_item" "_law_item" s__law_item f fd) (T : Txt mg) (c__law_draw : Cal P w K mg base CX0 1 "_law_draw" ["_law_pool_here", "_law_many_here"] spD) : FnOk P w K mg base CX0 2 f fd ["_law_pool_here", "_law_items"] (spItem K) := by
  refine F.ok sc__law_item (fun vs H Q E h => ?_) (fun cdv A outer s H vs Q E hr h => ?_)
  · obtain ⟨p, l, zs, rfl, _⟩ := h
    rfl
  · obtain ⟨p, l, zs, rfl, hp, hl, h1, h2, k⟩ := h
    refine ⟨_, (pss_one (ps_ret (pe_ix ix_list (pv 1) (pe_cal c__law_draw (hr.mono (by omega)) rfl pass0 (pa_cons (pv 0) (pa_cons (pe_callB call_len_seq (by rfl) T.b_len (by decide +kernel) (pa_cons (pv 1) pa_nil)) pa_nil))) (fun _ _ => rfl)))), ?_⟩
    refine ⟨_, rfl, _, rfl, _, rfl, l, _, rfl, .inl hl, p, _, rfl, hp, ?_, ?_, fun r H' r1 r2 but pl => ?_⟩
    · rw [List.length_map]; omega
    · rw [List.length_map]; omega
    · rw [List.length_map] at r2
      obtain ⟨n, rfl⟩ := Int.eq_ofNat_of_zero_le r1
      have hn : n < zs.length := by omega
      have hz : zs[n]? = some zs[n] := List.getElem?_eq_getElem hn
      refine ⟨l, _, _, .str zs[n], rfl, rfl, hl.kp (hp.kp but), atI_nat (j := n) (by rw [List.getElem?_map, hz]; rfl), k _ H' (List.mem_of_getElem? hz) but pl⟩
def spNames : Sp := fun vs H Q _ => ∃ (p : Addr) (n : Nat), vs = [.ref p, .int n] ∧ Pl H p ∧ n ≤ 100 ∧ ∀ (l : Addr) (ys : List Str) H', ys.length = n → (∀ y ∈ ys, nameOk y) → But p H H' → Pl H' p → H' l = some (.lst (ys.map V.str)) → Q (.ref l) H'
theorem sc__law_names : FnScope ["_law_pool_here", "_law_many_here", "_law_style", "_law_start", "_law_names_here", "_law_k", "_law_sign"] ["_law_pool_here", "_law_many_here"] (defScope s__law_names) := ⟨rfl, rfl, rfl, by decide +kernel, rfl, by decide +kernel, by decide +kernel⟩
theorem ok_names {f : Addr} {fd : FuncData} (F : Fun K "_law_names" "_law_names" s__law_names f fd) (T : Txt mg) (c__law_draw : Cal P w K mg base CX0 1 "_law_draw" ["_law_pool_here", "_law_many_here"] spD) : FnOk P w K mg base CX0 2 f fd ["_law_pool_here", "_law_many_here"] spNames := by
  refine F.ok sc__law_names (fun vs H Q E h => ?_) (fun cdv A outer s H vs Q E hr h => ?_)
  · obtain ⟨p, n, rfl, _⟩ := h
    rfl
  · obtain ⟨p, n, rfl, hp, hn, k⟩ := h
    refine ⟨_, (pss_cons (ps_set (i := 2) sc__law_names.nd rfl (.inl rfl) (pe_cal c__law_draw (hr.mono (by omega)) rfl pass0 (pa_cons (pv 0) (pa_cons pe_int pa_nil))))
      (pss_cons (ps_set (i := 3) sc__law_names.nd rfl (.inl rfl) (pe_cal c__law_draw (hr.mono (by omega)) rfl pass0 (pa_cons (pv 0) (pa_cons pe_int pa_nil))))
      (pss_cons (ps_set (i := 4) sc__law_names.nd rfl (.inl rfl) (pe_lst pa_nil))
      (pss_cons (ps_for PassesOwn.never rfl (pi_range1 (by rfl) T.b_range (pa_cons (pv 1) pa_nil)) (pg_name (i := 5) sc__law_names.nd rfl (.inl rfl)) (pss_cons (ps_set (i := 6) sc__law_names.nd rfl (.inl rfl) (pe_ix ix_str pe_str (pe_op op_modN (pe_op op_add (pv 3) (pv 5)) pe_int) (fun _ _ => rfl)))
      (pss_one (ps_expr (pe_bm PySem.F.plainAttrs_list PySem.F.slot_list_append PySem.F.type_list_append mt_append (pv 4) (pa_cons (pe_ix ix_list (pe_lst (pa_cons (pv 6) (pa_cons (pe_op op_add_str (pe_op op_add_str pe_str (pv 6)) pe_str) (pa_cons (pe_op op_add_str (pv 6) pe_str) pa_nil)))) (pv 2) (fun _ _ => rfl)) pa_nil))))))
      (pss_one (ps_ret (pv 4))))))), ?_⟩
    refine ⟨_, rfl, p, 3, rfl, hp, by decide, by decide, fun st H1 st1 st2 but1 pl1 => ?_⟩
    refine ⟨_, rfl, p, 26, rfl, pl1, by decide, by decide, fun sa H2 sa1 sa2 but2 pl2 => ?_⟩
    refine ⟨sz_lit (by decide), fun l hl => ?_⟩
    have but3 : But p H (upd H2 l (.lst [])) := fun b o hb hbp => by
      have := but2 b o (but1 b o hb hbp) hbp
      rw [L2.upd_ne (ne_of_none this hl)]
      exact this
    have pl3 : Pl (upd H2 l (.lst [])) p := pl2.mono (Same.new hl)
    have hl3 : upd H2 l (.lst []) l = some (.lst (([] : List Str).map V.str)) := upd_same
    have hlH : H l = none := by
      cases q : H l with
      | none => rfl
      | some o =>
        by_cases e : l = p
        · obtain ⟨_, _, _, hh, _⟩ := pl2
          rw [e, hh] at hl
          cases hl
        · rw [but2 _ _ (but1 _ _ q e) e] at hl
          cases hl
    revert but3 pl3 hl3
    generalize upd H2 l (.lst []) = H3
    intro but3 pl3 hl3
    refine ⟨_, rfl, n, rfl, by omega, by omega, ?_⟩
    rw [Int.toNat_natCast]
    refine for_it walk_range (fun i σ H' => (∃ y5 y6 : Option V, σ = [some (.ref p), some (.int n), some (.int st), some (.int sa), some (.ref l), y5, y6]) ∧ ∃ ys : List Str, ys.length = i ∧ (∀ y ∈ ys, nameOk y) ∧ H' l = some (.lst (ys.map V.str)) ∧ But p H H' ∧ Pl H' p) ⟨⟨_, _, rfl⟩, [], rfl, (fun y hy => (List.not_mem_nil hy).elim), hl3, but3, pl3⟩ (fun _ _ _ _ _ => trivial) ?_ ?_
    · rintro i v σ H5 H4 hi ⟨⟨y5, y6, rfl⟩, ys, hyl, hyo, hl4, but4, pl4⟩ ⟨rfl, rfl⟩
      obtain ⟨j, hj⟩ : ∃ j : Nat, (sa + (0 + (i : Int))).fmod 26 = j := ⟨_, (Int.toNat_of_nonneg (Int.fmod_nonneg_of_pos _ (by decide))).symm⟩
      have hj26 : j < 26 := by
        have := Int.fmod_lt_of_pos (sa + (0 + (i : Int))) (b := 26) (by decide)
        omega
      have hl26 : letters.cps.toList.length = 26 := by decide +kernel
      have hc : letters.cps.toList[j]? = some (letters.cps.toList[j]'(by omega)) := List.getElem?_eq_getElem _
      have hcm := List.mem_of_getElem? hc
      revert hc hcm
      generalize (letters.cps.toList[j]'(by omega)) = c
      intro hc hcm
      refine ⟨_, rfl, _, rfl, _, _, rfl, rfl, _, _, rfl, rfl, (by show (26 : Int) ≠ 0; decide), letters, j, c, rfl, (congrArg V.int hj), sz_lit (by decide +kernel), atI_nat (j := j) hc, ?_⟩
      have key := names_ok c hcm
      have hst : st = 0 ∨ st = 1 ∨ st = 2 := by omega
      have sq4 : SqL K H4 l (ys.map V.str) := .inl (.inl hl4)
      refine ⟨_, rfl, .inl ⟨rfl, _, sq4⟩, _, rfl, _, rfl, _, _, rfl, rfl, sz_lit (by show 4 + 1 ≤ 100000; decide), _, _, rfl, rfl, sz_lit (names_sz c), _, rfl, _, _, rfl, rfl, sz_lit (by show 1 + 4 ≤ 100000; decide), sz_lit (by show 3 ≤ 100000; decide), fun q hq => ?_⟩
      have nql : l ≠ q := fun e => by rw [← e, hl4] at hq; cases hq
      have s5 : Same H4 (upd H4 q (.lst [.str ⟨#[c]⟩, .str ("same" ++ ⟨#[c]⟩ ++ "end"), .str (⟨#[c]⟩ ++ "word")])) := Same.new hq
      have fin : ∀ z : Str, nameOk z → But p H (upd (upd H4 q (.lst [.str ⟨#[c]⟩, .str ("same" ++ ⟨#[c]⟩ ++ "end"), .str (⟨#[c]⟩ ++ "word")])) l (.lst (ys.map V.str ++ [.str z]))) ∧ Pl (upd (upd H4 q (.lst [.str ⟨#[c]⟩, .str ("same" ++ ⟨#[c]⟩ ++ "end"), .str (⟨#[c]⟩ ++ "word")])) l (.lst (ys.map V.str ++ [.str z]))) p := fun z _ => by
        refine ⟨fun b o hb hbp => ?_, (pl4.mono s5).put (s5 _ _ hl4)⟩
        rw [L2.upd_ne (ne_of_none hb hlH)]
        exact s5 b o (but4 b o hb hbp)
      have done : ∀ z : Str, nameOk z → (∃ y5 y6 : Option V, ([some (.ref p), some (.int n), some (.int st), some (.int sa), some (.ref l), some (.int (0 + (i : Int))), some (.str ⟨#[c]⟩)] : L2.St) = [some (.ref p), some (.int n), some (.int st), some (.int sa), some (.ref l), y5, y6]) ∧ ∃ ys' : List Str, ys'.length = i + 1 ∧ (∀ y ∈ ys', nameOk y) ∧ upd (upd H4 q (.lst [.str ⟨#[c]⟩, .str ("same" ++ ⟨#[c]⟩ ++ "end"), .str (⟨#[c]⟩ ++ "word")])) l (.lst (ys.map V.str ++ [.str z])) l = some (.lst (ys'.map V.str)) ∧ But p H (upd (upd H4 q (.lst [.str ⟨#[c]⟩, .str ("same" ++ ⟨#[c]⟩ ++ "end"), .str (⟨#[c]⟩ ++ "word")])) l (.lst (ys.map V.str ++ [.str z]))) ∧ Pl (upd (upd H4 q (.lst [.str ⟨#[c]⟩, .str ("same" ++ ⟨#[c]⟩ ++ "end"), .str (⟨#[c]⟩ ++ "word")])) l (.lst (ys.map V.str ++ [.str z]))) p := fun z hz => by
        refine ⟨⟨_, _, rfl⟩, ys ++ [z], by rw [List.length_append, hyl]; rfl, fun y hy => ?_, by rw [upd_same, List.map_append]; rfl, (fin z hz).1, (fin z hz).2⟩
        rcases List.mem_append.mp hy with hy | hy
        · exact hyo y hy
        · rw [List.mem_singleton.mp hy]
          exact hz
      have hys : (ys.map V.str).length < sizeLine := lt_sz (by rw [List.length_map]; omega)
      rcases hst with rfl | rfl | rfl
      · exact ⟨_, rfl, q, _, 0, _, rfl, rfl, .inl (.inl upd_same), rfl, l, _, _, rfl, rfl, s5 _ _ hl4, hys, done _ key.1⟩
      · exact ⟨_, rfl, q, _, 1, _, rfl, rfl, .inl (.inl upd_same), rfl, l, _, _, rfl, rfl, s5 _ _ hl4, hys, done _ key.2.1⟩
      · exact ⟨_, rfl, q, _, 2, _, rfl, rfl, .inl (.inl upd_same), rfl, l, _, _, rfl, rfl, s5 _ _ hl4, hys, done _ key.2.2⟩
    · rintro σ H4 ⟨⟨y5, y6, rfl⟩, ys, hyl, hyo, hl4, but4, pl4⟩
      exact ⟨_, rfl, k l ys H4 hyl hyo but4 pl4 hl4⟩
end
end Op
namespace L2
theorem cut_ne {H : Hp} {b l : PySem.Addr} (h : b ≠ l) : cutH (· = l) H b = H b := cut_not (S := (· = l)) h
theorem cut_kp {S : PySem.Addr → Prop} {H H' : Hp} (s : Kp H H') : Kp (cutH S H) (cutH S H') := fun b o h ho => by
  unfold cutH at h ⊢
  split at h
  · cases h
  · rename_i n
    rw [if_neg n]
    exact s b o h ho
end L2
namespace Op
open PySem L2 PyProof.Rows
/-! ### the rows of the law, as data -/
def dPut (s v : Str) : PyData := .tuple [.str "put", .str s, .str v]
def dEdit (w : Str) : PyData := .tuple [.str "edit", .str w, .list [], .list [dPut "x" "a"]]
def fillRow (zs : List Str) (d : PyData) : Prop := ∃ s v, s ∈ zs ∧ nameOk s ∧ nameOk v ∧ (d = dPut s v ∨ d = .tuple [.str "part", .list [dPut s v]])
/-- the dict of names -/
def Nm (H : Hp) (nd : Addr) (zs : List Str) : Prop := ∃ (ls lw : Addr) (ws : List Str), H nd = some (.dK [(.inr "slots", .ref ls), (.inr "words", .ref lw)]) ∧ H ls = some (.lst (zs.map V.str)) ∧ H lw = some (.lst (ws.map V.str)) ∧ zs.length = 2 ∧ ws.length = 3 ∧ (∀ z ∈ zs, nameOk z) ∧ ∀ z ∈ ws, nameOk z
section
variable {H H' : Hp} {p nd : Addr} {zs : List Str}
theorem Nm.but (h : Nm H nd zs) (pl : Pl H p) (b : But p H H') : Nm H' nd zs := by
  obtain ⟨ls, lw, ws, h1, h2, h3, r⟩ := h
  obtain ⟨_, _, _, hp, _⟩ := pl
  exact ⟨ls, lw, ws, b _ _ h1 (fun e => by rw [e, hp] at h1; cases h1), b _ _ h2 (fun e => by rw [e, hp] at h2; cases h2), b _ _ h3 (fun e => by rw [e, hp] at h3; cases h3), r⟩
theorem Nm.mono (h : Nm H nd zs) (s : Same H H') : Nm H' nd zs := by
  obtain ⟨ls, lw, ws, h1, h2, h3, r⟩ := h
  exact ⟨ls, lw, ws, s _ _ h1, s _ _ h2, s _ _ h3, r⟩
end
section
variable {P : Program} {w : World} {K : PySem.W.Frag} {mg : Str → Option Value} {base : Heap}
def spEdit (K : PySem.W.Frag) : Sp := fun vs H Q _ => ∃ w : Str, vs = [.str w] ∧ ∀ v H', Same H H' → Dp K (cutH (LstAt H) H') v (dEdit w) → Q v H'
theorem sc__law_edit : FnScope ["_law_word"] ["_law_word"] (defScope s__law_edit) := ⟨rfl, rfl, rfl, by decide +kernel, rfl, by decide +kernel, by decide +kernel⟩
theorem ok_edit {f : Addr} {fd : FuncData} (F : Fun K "_law_edit" "_law_edit" s__law_edit f fd) : FnOk P w K mg base CX0 1 f fd ["_law_word"] (spEdit K) := by
  refine F.ok sc__law_edit (fun vs H Q E h => ?_) (fun cdv A outer s H vs Q E hr h => ?_)
  · obtain ⟨w, rfl, _⟩ := h
    rfl
  · obtain ⟨w, rfl, k⟩ := h
    have nl : ∀ b, H b = none → ¬ LstAt H b := fun b hb z => by
      obtain ⟨xs, e⟩ := z
      rw [hb] at e
      cases e
    refine ⟨_, (pss_one (ps_ret (pe_tup (pa_cons pe_str (pa_cons (pv 0) (pa_cons (pe_lst pa_nil) (pa_cons (pe_lst (pa_cons (pe_tup (pa_cons pe_str (pa_cons pe_str (pa_cons pe_str pa_nil)))) pa_nil)) pa_nil))))))), ?_⟩
    refine ⟨_, rfl, sz_lit (by show 0 ≤ 100000; decide), fun l1 h1 => ⟨sz_lit (by show 3 ≤ 100000; decide), fun t ht => ⟨sz1 _, fun l2 h2 => ⟨sz_lit (by show 4 ≤ 100000; decide), fun q hq => ?_⟩⟩⟩⟩
    have s1 : Same H (upd H l1 (.lst [])) := Same.new h1
    have s2 := Same.new (o := .tup [.str "put", .str "x", .str "a"]) ht
    have s3 := Same.new (o := .lst [.ref t]) h2
    have s4 := Same.new (o := .tup [.str "edit", .str w, .ref l1, .ref l2]) hq
    have f2 := s1.free ht
    have f3 := s1.free (s2.free h2)
    have f4 := s1.free (s2.free (s3.free hq))
    refine k (.ref q) _ (s1.trans (s2.trans (s3.trans s4))) (.tup (.inl (.inl (by rw [cut_not (nl _ f4)]; exact upd_same))) (.cons (.str _) (.cons (.str _) (.cons (.lst (xs := []) (.inl (.inl ?_)) .nil) (.cons (.lst (xs := [.ref t]) (.inl (.inl ?_)) (.cons (.tup (.inl (.inl ?_)) (.cons (.str _) (.cons (.str _) (.cons (.str _) .nil)))) .nil)) .nil)))))
    · rw [cut_not (nl _ h1)]
      exact s4 _ _ (s3 _ _ (s2 _ _ upd_same))
    · rw [cut_not (nl _ f3)]
      exact s4 _ _ upd_same
    · rw [cut_not (nl _ f2)]
      exact s4 _ _ (s3 _ _ upd_same)
def spFiller (K : PySem.W.Frag) : Sp := fun vs H Q _ => ∃ (p nd : Addr) (n : Nat) (zs : List Str), vs = [.ref p, .ref nd, .int n] ∧ Pl H p ∧ Nm H nd zs ∧ n ≤ 10 ∧ ∀ (l : Addr) (xs : List V) (ds : List PyData) H', ds.length = n → (∀ d ∈ ds, fillRow zs d) → But p H H' → Pl H' p → H' l = some (.lst xs) → DpAll K H' xs ds → Q (.ref l) H'
theorem sc__law_filler : FnScope ["_law_pool_here", "_law_names_here", "_law_many_here", "_law_rows", "_law_k", "_law_row"] ["_law_pool_here", "_law_names_here", "_law_many_here"] (defScope s__law_filler) := ⟨rfl, rfl, rfl, by decide +kernel, rfl, by decide +kernel, by decide +kernel⟩
theorem ok_filler {f : Addr} {fd : FuncData} (F : Fun K "_law_filler" "_law_filler" s__law_filler f fd) (T : Txt mg) (c__law_draw : Cal P w K mg base CX0 1 "_law_draw" ["_law_pool_here", "_law_many_here"] spD) (c__law_item : Cal P w K mg base CX0 2 "_law_item" ["_law_pool_here", "_law_items"] (spItem K)) :
    FnOk P w K mg base CX0 3 f fd ["_law_pool_here", "_law_names_here", "_law_many_here"] (spFiller K) := by
  refine F.ok sc__law_filler (fun vs H Q E h => ?_) (fun cdv A outer s H vs Q E hr h => ?_)
  · obtain ⟨p, nd, n, zs, rfl, _⟩ := h
    rfl
  · obtain ⟨p, nd, n, zs, rfl, hp, hn, hn10, k⟩ := h
    have hu := hu_of hr
    refine ⟨_, (pss_cons (ps_set (i := 3) sc__law_filler.nd rfl (.inl rfl) (pe_lst pa_nil))
      (pss_cons (ps_for PassesOwn.never rfl (pi_range1 (by rfl) T.b_range (pa_cons (pv 2) pa_nil)) (pg_name (i := 4) sc__law_filler.nd rfl (.inl rfl)) (pss_cons (ps_set (i := 5) sc__law_filler.nd rfl (.inl rfl) (pe_tup (pa_cons pe_str (pa_cons (pe_ix ix_list (pe_dget hu (pv 1) pe_str (fun _ _ => rfl)) (pe_cal c__law_draw (hr.mono (by omega)) rfl pass0 (pa_cons (pv 0) (pa_cons pe_int pa_nil))) (fun _ _ => rfl)) (pa_cons (pe_cal c__law_item (hr.mono (by omega)) rfl pass0 (pa_cons (pv 0) (pa_cons (pe_dget hu (pv 1) pe_str (fun _ _ => rfl)) pa_nil))) pa_nil)))))
      (Evl.pss_cut (ps_if (pt_cmpR op_eq (pe_cal c__law_draw (hr.mono (by omega)) rfl pass0 (pa_cons (pv 0) (pa_cons pe_int pa_nil))) pe_int (nomark _)) (pss_one (ps_set (i := 5) sc__law_filler.nd rfl (.inl rfl) (pe_tup (pa_cons pe_str (pa_cons (pe_lst (pa_cons (pv 5) pa_nil)) pa_nil))))) pss_nil)
      (pss_one (ps_expr (pe_bm PySem.F.plainAttrs_list PySem.F.slot_list_append PySem.F.type_list_append mt_append (pv 3) (pa_cons (pv 5) pa_nil)))))))
      (pss_one (ps_ret (pv 3))))), ?_⟩
    refine ⟨sz_lit (by show 0 ≤ 100000; decide), fun l hl => ?_⟩
    have but3 : But p H (upd H l (.lst [])) := Same.but (Same.new hl)
    have pl3 : Pl (upd H l (.lst [])) p := hp.mono (Same.new hl)
    have hl3 : upd H l (.lst []) l = some (.lst []) := upd_same
    revert but3 pl3 hl3
    generalize upd H l (.lst []) = H3
    intro but3 pl3 hl3
    refine ⟨_, rfl, n, rfl, by omega, by omega, ?_⟩
    rw [Int.toNat_natCast]
    refine for_it walk_range (fun i σ H' => (∃ y4 y5 : Option V, σ = [some (.ref p), some (.ref nd), some (.int n), some (.ref l), y4, y5]) ∧ ∃ (xs : List V) (ds : List PyData), ds.length = i ∧ (∀ d ∈ ds, fillRow zs d) ∧ H' l = some (.lst xs) ∧ DpAll K (cutH (· = l) H') xs ds ∧ But p H H' ∧ Pl H' p) ⟨⟨_, _, rfl⟩, [], [], rfl, (fun y hy => (List.not_mem_nil hy).elim), hl3, .nil, but3, pl3⟩ (fun _ _ _ _ _ => trivial) ?_ ?_
    · rintro i v σ H5 H4 hi ⟨⟨y4, y5, rfl⟩, xs, ds, hdl, hdo, hl4, hdp, but4, pl4⟩ ⟨rfl, rfl⟩
      have hxl := hdp.len
      obtain ⟨ls, lw, ws, n1, n2, n3, z2, w3, hz, hw⟩ := hn.but hp but4
      refine ⟨_, rfl, nd, _, rfl, DGet.k (k := .inr "slots") n1, _, rfl, p, 2, rfl, pl4, by decide, by decide, fun r H6 r1 r2 but6 pl6 => ?_⟩
      have kp6 := pl4.kp but6
      have n26 : H6 ls = some (.lst (zs.map V.str)) := kp6 _ _ n2 rfl
      have n36 : H6 lw = some (.lst (ws.map V.str)) := kp6 _ _ n3 rfl
      have l6 : H6 l = some (.lst xs) := kp6 _ _ hl4 rfl
      have n16 : H6 nd = some (.dK [(.inr "slots", .ref ls), (.inr "words", .ref lw)]) := but6 _ _ n1 fun e => by
        obtain ⟨_, _, _, hh, _⟩ := pl4
        rw [e, hh] at n1
        cases n1
      obtain ⟨j, rfl⟩ := Int.eq_ofNat_of_zero_le r1
      have hj : j < zs.length := by omega
      have hzj : zs[j]? = some zs[j] := List.getElem?_eq_getElem hj
      refine ⟨ls, _, _, .str zs[j], rfl, rfl, .inl (.inl n26), atI_nat (j := j) (by rw [List.getElem?_map, hzj]; rfl), ?_⟩
      refine ⟨_, rfl, _, rfl, nd, _, rfl, DGet.k (k := .inr "words") n16, p, lw, ws, rfl, pl6, .inl (.inl n36), by omega, by omega, fun z H7 hz7 but7 pl7 => ?_⟩
      have kp7 := pl6.kp but7
      refine ⟨sz_lit (by show 3 ≤ 100000; decide), fun t ht => ?_⟩
      have s8 : Same H7 (upd H7 t (.tup [.str "put", .str zs[j], .str z])) := Same.new ht
      have l8 : upd H7 t (.tup [.str "put", .str zs[j], .str z]) l = some (.lst xs) := s8 _ _ (kp7 _ _ l6 rfl)
      have t8 : upd H7 t (.tup [.str "put", .str zs[j], .str z]) t = some (.tup [.str "put", .str zs[j], .str z]) := upd_same
      have b8 : But p H (upd H7 t (.tup [.str "put", .str zs[j], .str z])) := (but4.trans (but6.trans but7)).trans (Same.but s8)
      have pl8 := pl7.mono s8
      have k8 : Kp H4 (upd H7 t (.tup [.str "put", .str zs[j], .str z])) := kp6.trans (kp7.trans s8.kp)
      revert l8 t8 b8 pl8 k8
      generalize upd H7 t (.tup [.str "put", .str zs[j], .str z]) = H8
      intro l8 t8 b8 pl8 k8
      have hdp8 : DpAll K (cutH (· = l) H8) xs ds := DpAll.kp (cut_kp k8) hdp
      have ntl : t ≠ l := fun e => by rw [e, l8] at t8; cases t8
      have dt8 : Dp K (cutH (· = l) H8) (.ref t) (dPut zs[j] z) := .tup (.inl (.inl (by rw [cut_ne ntl]; exact t8))) (.cons (.str _) (.cons (.str _) (.cons (.str _) .nil)))
      have hzn := hz _ (List.mem_of_getElem? hzj)
      have hwn := hw _ hz7
      refine ⟨fun σ H' => (∃ (y4 : Option V) (v : V) (d : PyData), σ = [some (.ref p), some (.ref nd), some (.int n), some (.ref l), y4, some v] ∧ fillRow zs d ∧ Dp K (cutH (· = l) H') v d) ∧ H' l = some (.lst xs) ∧ DpAll K (cutH (· = l) H') xs ds ∧ But p H H' ∧ Pl H' p, ?_, ?_⟩
      · refine ⟨_, rfl, p, 3, rfl, pl8, by decide, by decide, fun r' H9 r1' r2' but9 pl9 => ⟨rfl, _, rfl, ?_⟩⟩
        have kp9 := pl8.kp but9
        have l9 := kp9 _ _ l8 rfl
        have t9 := kp9 _ _ t8 rfl
        have hdp9 : DpAll K (cutH (· = l) H9) xs ds := DpAll.kp (cut_kp kp9) hdp8
        have dt9 := dt8.kp (cut_kp kp9)
        by_cases e : r' = 0
        · refine ifT (decide_eq_true (congrArg V.int e)) ⟨_, rfl, sz1 _, fun q hq => ⟨sz2 _ _, fun q2 hq2 => ?_⟩⟩
          have s10 := Same.new (o := .lst [.ref t]) hq
          have s11 := Same.new (o := .tup [.str "part", .ref q]) hq2
          have nq : q ≠ l := fun e => by rw [e, l9] at hq; cases hq
          have nq2 : q2 ≠ l := fun e => by rw [e, s10 _ _ l9] at hq2; cases hq2
          have sA := s10.trans s11
          refine ⟨⟨_, _, _, rfl, ⟨zs[j], z, List.mem_of_getElem? hzj, hzn, hwn, .inr rfl⟩, .tup (.inl (.inl (by rw [cut_ne nq2]; exact upd_same))) (.cons (.str _) (.cons (.lst (a := q) (xs := [.ref t]) (.inl (.inl (by rw [cut_ne nq]; exact s11 _ _ upd_same))) (.cons (dt9.mono (cut_same sA)) .nil)) .nil))⟩, sA _ _ l9, DpAll.mono (cut_same sA) hdp9, (b8.trans but9).trans (Same.but sA), pl9.mono sA⟩
        · exact ifF (decide_eq_false fun z => e (V.int.inj z)) ⟨⟨_, _, _, rfl, ⟨zs[j], z, List.mem_of_getElem? hzj, hzn, hwn, .inl rfl⟩, dt9⟩, l9, hdp9, b8.trans but9, pl9⟩
      · rintro σ H9 ⟨⟨y4', v, d, rfl, hfd, hdv⟩, l9, hdp9, b9, pl9⟩
        refine ⟨_, rfl, .inl ⟨rfl, _, .inl (.inl l9)⟩, _, rfl, l, xs, v, rfl, rfl, l9, lt_sz (by omega), ⟨_, _, rfl⟩, xs ++ [v], ds ++ [d], by rw [List.length_append, hdl]; rfl, fun d' hd' => ?_, upd_same, ?_, fun b o hb hbp => ?_, pl9.put l9⟩
        · rcases List.mem_append.mp hd' with h | h
          · exact hdo d' h
          · rw [List.mem_singleton.mp h]
            exact hfd
        · rw [cut_upd (S := (· = l)) rfl]
          exact hdp9.append (.cons hdv .nil)
        · rw [L2.upd_ne (ne_of_none hb hl)]
          exact b9 b o hb hbp
    · rintro σ H4 ⟨⟨y4, y5, rfl⟩, xs, ds, hdl, hdo, hl4, hdp, but4, pl4⟩
      exact ⟨_, rfl, k l xs ds H4 hdl hdo but4 pl4 hl4 (DpAll.mono cut_all hdp)⟩
end
end Op
namespace Op
open PySem L2 PyProof.Rows
def dGate (w : Str) : PyData := .tuple [.str "gate", .str w, .list [], .list []]
def dPast (w : Str) : PyData := .tuple [.str "past", .str w, .list []]
def badPair (w : Str) : Nat → PyData × PyData
  | 0 => (dEdit w, dEdit w)
  | 1 => (dGate w, dEdit w)
  | 2 => (dPast w, dEdit w)
  | 3 => (dEdit w, dGate w)
  | 4 => (dEdit w, dPast w)
  | 5 => (.none, .tuple [.str "edit", .str w, .list []])
  | 6 => (.none, .tuple [.str "edit", .str w, .tuple [], .list []])
  | 7 => (.none, .tuple [.str "edit", .str "Word", .list [], .list []])
  | 8 => (.none, .tuple [.str "leave", .str w])
  | _ => (.none, .tuple [.str "await", .str w, .str "in"])
theorem at_new {H : Hp} {a : Addr} {o : HO} (_ : H a = none) : upd H a o a = some o := upd_same
theorem cases10 {r : Int} (h1 : 0 ≤ r) (h2 : r < 10) : r = 0 ∨ r = 1 ∨ r = 2 ∨ r = 3 ∨ r = 4 ∨ r = 5 ∨ r = 6 ∨ r = 7 ∨ r = 8 ∨ r = 9 := by omega
section
variable {P : Program} {w : World} {K : PySem.W.Frag} {mg : Str → Option Value} {base : Heap}
def spBad (K : PySem.W.Frag) : Sp := fun vs H Q _ => ∃ (p : Addr) (w : Str), vs = [.ref p, .str w] ∧ Pl H p ∧ ∀ (j : Nat) (v : V) H', j < 10 → But p H H' → Pl H' p → Dp K H' v (.tuple [(badPair w j).1, (badPair w j).2]) → Q v H'
theorem sc__law_bad_rows : FnScope ["_law_pool_here", "_law_word", "_law_pick", "_law_gate", "_law_past", "_law_edit_here", "_law_pairs"] ["_law_pool_here", "_law_word"] (defScope s__law_bad_rows) := ⟨rfl, rfl, rfl, by decide +kernel, rfl, by decide +kernel, by decide +kernel⟩
theorem ok_bad {f : Addr} {fd : FuncData} (F : Fun K "_law_bad_rows" "_law_bad_rows" s__law_bad_rows f fd) (c__law_draw : Cal P w K mg base CX0 1 "_law_draw" ["_law_pool_here", "_law_many_here"] spD) (c__law_edit : Cal P w K mg base CX0 1 "_law_edit" ["_law_word"] (spEdit K)) : FnOk P w K mg base CX0 2 f fd ["_law_pool_here", "_law_word"] (spBad K) := by
  refine F.ok sc__law_bad_rows (fun vs H Q E h => ?_) (fun cdv A outer s H vs Q E hr h => ?_)
  · obtain ⟨p, w0, rfl, _⟩ := h
    rfl
  · obtain ⟨p, w0, rfl, hp, k⟩ := h
    refine ⟨_, (pss_cons (ps_set (i := 2) sc__law_bad_rows.nd rfl (.inl rfl) (pe_cal c__law_draw (hr.mono (by omega)) rfl pass0 (pa_cons (pv 0) (pa_cons pe_int pa_nil))))
      (pss_cons (ps_set (i := 3) sc__law_bad_rows.nd rfl (.inl rfl) (pe_tup (pa_cons pe_str (pa_cons (pv 1) (pa_cons (pe_lst pa_nil) (pa_cons (pe_lst pa_nil) pa_nil))))))
      (pss_cons (ps_set (i := 4) sc__law_bad_rows.nd rfl (.inl rfl) (pe_tup (pa_cons pe_str (pa_cons (pv 1) (pa_cons (pe_lst pa_nil) pa_nil)))))
      (pss_cons (ps_set (i := 5) sc__law_bad_rows.nd rfl (.inl rfl) (pe_cal c__law_edit (hr.mono (by omega)) rfl pass0 (pa_cons (pv 1) pa_nil)))
      (pss_cons (ps_set (i := 6) sc__law_bad_rows.nd rfl (.inl rfl) (pe_lst (pa_cons (pe_tup (pa_cons (pv 5) (pa_cons (pv 5) pa_nil))) (pa_cons (pe_tup (pa_cons (pv 3) (pa_cons (pv 5) pa_nil))) (pa_cons (pe_tup (pa_cons (pv 4) (pa_cons (pv 5) pa_nil))) (pa_cons (pe_tup (pa_cons (pv 5) (pa_cons (pv 3) pa_nil))) (pa_cons (pe_tup (pa_cons (pv 5) (pa_cons (pv 4) pa_nil))) (pa_cons (pe_tup (pa_cons pe_non (pa_cons (pe_tup (pa_cons pe_str (pa_cons (pv 1) (pa_cons (pe_lst pa_nil) pa_nil)))) pa_nil))) (pa_cons (pe_tup (pa_cons pe_non (pa_cons (pe_tup (pa_cons pe_str (pa_cons (pv 1) (pa_cons (pe_tup pa_nil) (pa_cons (pe_lst pa_nil) pa_nil))))) pa_nil))) (pa_cons (pe_tup (pa_cons pe_non (pa_cons (pe_tup (pa_cons pe_str (pa_cons pe_str (pa_cons (pe_lst pa_nil) (pa_cons (pe_lst pa_nil) pa_nil))))) pa_nil))) (pa_cons (pe_tup (pa_cons pe_non (pa_cons (pe_tup (pa_cons pe_str (pa_cons (pv 1) pa_nil))) pa_nil))) (pa_cons (pe_tup (pa_cons pe_non (pa_cons (pe_tup (pa_cons pe_str (pa_cons (pv 1) (pa_cons pe_str pa_nil)))) pa_nil))) pa_nil))))))))))))
      (pss_one (ps_ret (pe_ix ix_list (pv 6) (pv 2) (fun _ _ => rfl))))))))), ?_⟩
    refine ⟨_, rfl, p, 10, rfl, hp, by decide, by decide, fun r H1 lo0 hi0 but1 pl1 => ?_⟩
    refine ⟨_, rfl, sz_lit (by show 0 ≤ 100000; decide), fun g1 hg1 => ⟨sz_lit (by show 0 ≤ 100000; decide), fun g2 hg2 => ⟨sz_lit (by show 4 ≤ 100000; decide), fun g3 hg3 => ?_⟩⟩⟩
    have ncg1 := Same.new (o := .lst []) hg1
    have ncg2 := Same.new (o := .lst []) hg2
    have ncg3 := Same.new (o := .tup [.str "gate", .str w0, .ref g1, .ref g2]) hg3
    have cg2 := ncg3
    have cg1 := ncg2.trans cg2
    have cg0 := ncg1.trans cg1
    have dg0 : Dp K _ (.ref g3) (dGate w0) := .tup (a := g3) (xs := [.str "gate", .str w0, .ref g1, .ref g2]) (.inl (.inl upd_same)) (.cons (.str _) (.cons (.str _) (.cons (.lst (a := g1) (xs := []) (.inl (.inl (cg1 _ _ upd_same))) (.nil)) (.cons (.lst (a := g2) (xs := []) (.inl (.inl (cg2 _ _ upd_same))) (.nil)) (.nil)))))
    revert cg0 dg0
    generalize upd (upd (upd H1 g1 _) g2 _) g3 _ = H2
    intro cg0 dg0
    refine ⟨_, rfl, sz_lit (by show 0 ≤ 100000; decide), fun r1 hr1 => ⟨sz_lit (by show 3 ≤ 100000; decide), fun r2 hr2 => ?_⟩⟩
    have ncr1 := Same.new (o := .lst []) hr1
    have ncr2 := Same.new (o := .tup [.str "past", .str w0, .ref r1]) hr2
    have cr1 := ncr2
    have cr0 := ncr1.trans cr1
    have dp0 : Dp K _ (.ref r2) (dPast w0) := .tup (a := r2) (xs := [.str "past", .str w0, .ref r1]) (.inl (.inl upd_same)) (.cons (.str _) (.cons (.str _) (.cons (.lst (a := r1) (xs := []) (.inl (.inl (cr1 _ _ upd_same))) (.nil)) (.nil))))
    revert cr0 dp0
    generalize upd (upd H2 r1 _) r2 _ = H3
    intro cr0 dp0
    refine ⟨_, rfl, w0, rfl, fun ve H4 se de0 => ?_⟩
    have de : Dp K H4 ve (dEdit w0) := de0.mono cut_all
    have dg := dg0.mono (cr0.trans se)
    have dp := dp0.mono se
    refine ⟨_, rfl, _, rfl, sz_lit (by show 2 ≤ 100000; decide), fun p1 hp1 => ⟨_, rfl, _, rfl, sz_lit (by show 2 ≤ 100000; decide), fun p2 hp2 => ⟨_, rfl, _, rfl, sz_lit (by show 2 ≤ 100000; decide), fun p3 hp3 => ⟨_, rfl, _, rfl, sz_lit (by show 2 ≤ 100000; decide), fun p4 hp4 => ⟨_, rfl, _, rfl, sz_lit (by show 2 ≤ 100000; decide), fun p5 hp5 => ⟨_, rfl, sz_lit (by show 0 ≤ 100000; decide), fun p6 hp6 => ⟨sz_lit (by show 3 ≤ 100000; decide), fun p7 hp7 => ⟨sz_lit (by show 2 ≤ 100000; decide), fun p8 hp8 => ⟨_, rfl, sz_lit (by show 0 ≤ 100000; decide), fun p9 hp9 => ⟨sz_lit (by show 0 ≤ 100000; decide), fun p10 hp10 => ⟨sz_lit (by show 4 ≤ 100000; decide), fun p11 hp11 => ⟨sz_lit (by show 2 ≤ 100000; decide), fun p12 hp12 => ⟨sz_lit (by show 0 ≤ 100000; decide), fun p13 hp13 => ⟨sz_lit (by show 0 ≤ 100000; decide), fun p14 hp14 => ⟨sz_lit (by show 4 ≤ 100000; decide), fun p15 hp15 => ⟨sz_lit (by show 2 ≤ 100000; decide), fun p16 hp16 => ⟨_, rfl, sz_lit (by show 2 ≤ 100000; decide), fun p17 hp17 => ⟨sz_lit (by show 2 ≤ 100000; decide), fun p18 hp18 => ⟨_, rfl, sz_lit (by show 3 ≤ 100000; decide), fun p19 hp19 => ⟨sz_lit (by show 2 ≤ 100000; decide), fun p20 hp20 => ⟨sz_lit (by show 10 ≤ 100000; decide), fun p21 hp21 => ?_⟩⟩⟩⟩⟩⟩⟩⟩⟩⟩⟩⟩⟩⟩⟩⟩⟩⟩⟩⟩⟩
    have nc1 := Same.new (o := .tup [ve, ve]) hp1
    have nc2 := Same.new (o := .tup [.ref g3, ve]) hp2
    have nc3 := Same.new (o := .tup [.ref r2, ve]) hp3
    have nc4 := Same.new (o := .tup [ve, .ref g3]) hp4
    have nc5 := Same.new (o := .tup [ve, .ref r2]) hp5
    have nc6 := Same.new (o := .lst []) hp6
    have nc7 := Same.new (o := .tup [.str "edit", .str w0, .ref p6]) hp7
    have nc8 := Same.new (o := .tup [.non, .ref p7]) hp8
    have nc9 := Same.new (o := .tup []) hp9
    have nc10 := Same.new (o := .lst []) hp10
    have nc11 := Same.new (o := .tup [.str "edit", .str w0, .ref p9, .ref p10]) hp11
    have nc12 := Same.new (o := .tup [.non, .ref p11]) hp12
    have nc13 := Same.new (o := .lst []) hp13
    have nc14 := Same.new (o := .lst []) hp14
    have nc15 := Same.new (o := .tup [.str "edit", .str "Word", .ref p13, .ref p14]) hp15
    have nc16 := Same.new (o := .tup [.non, .ref p15]) hp16
    have nc17 := Same.new (o := .tup [.str "leave", .str w0]) hp17
    have nc18 := Same.new (o := .tup [.non, .ref p17]) hp18
    have nc19 := Same.new (o := .tup [.str "await", .str w0, .str "in"]) hp19
    have nc20 := Same.new (o := .tup [.non, .ref p19]) hp20
    have nc21 := Same.new (o := .lst [.ref p1, .ref p2, .ref p3, .ref p4, .ref p5, .ref p8, .ref p12, .ref p16, .ref p18, .ref p20]) hp21
    have c20 := nc21
    have c19 := nc20.trans c20
    have c18 := nc19.trans c19
    have c17 := nc18.trans c18
    have c16 := nc17.trans c17
    have c15 := nc16.trans c16
    have c14 := nc15.trans c15
    have c13 := nc14.trans c14
    have c12 := nc13.trans c13
    have c11 := nc12.trans c12
    have c10 := nc11.trans c11
    have c9 := nc10.trans c10
    have c8 := nc9.trans c9
    have c7 := nc8.trans c8
    have c6 := nc7.trans c7
    have c5 := nc6.trans c6
    have c4 := nc5.trans c5
    have c3 := nc4.trans c4
    have c2 := nc3.trans c3
    have c1 := nc2.trans c2
    have c0 := nc1.trans c1
    have f1 := c1 p1 (.tup [ve, ve]) upd_same
    have f2 := c2 p2 (.tup [.ref g3, ve]) upd_same
    have f3 := c3 p3 (.tup [.ref r2, ve]) upd_same
    have f4 := c4 p4 (.tup [ve, .ref g3]) upd_same
    have f5 := c5 p5 (.tup [ve, .ref r2]) upd_same
    have f6 := c6 p6 (.lst []) upd_same
    have f7 := c7 p7 (.tup [.str "edit", .str w0, .ref p6]) upd_same
    have f8 := c8 p8 (.tup [.non, .ref p7]) upd_same
    have f9 := c9 p9 (.tup []) upd_same
    have f10 := c10 p10 (.lst []) upd_same
    have f11 := c11 p11 (.tup [.str "edit", .str w0, .ref p9, .ref p10]) upd_same
    have f12 := c12 p12 (.tup [.non, .ref p11]) upd_same
    have f13 := c13 p13 (.lst []) upd_same
    have f14 := c14 p14 (.lst []) upd_same
    have f15 := c15 p15 (.tup [.str "edit", .str "Word", .ref p13, .ref p14]) upd_same
    have f16 := c16 p16 (.tup [.non, .ref p15]) upd_same
    have f17 := c17 p17 (.tup [.str "leave", .str w0]) upd_same
    have f18 := c18 p18 (.tup [.non, .ref p17]) upd_same
    have f19 := c19 p19 (.tup [.str "await", .str w0, .str "in"]) upd_same
    have f20 := c20 p20 (.tup [.non, .ref p19]) upd_same
    have f21 := at_new (o := .lst [.ref p1, .ref p2, .ref p3, .ref p4, .ref p5, .ref p8, .ref p12, .ref p16, .ref p18, .ref p20]) hp21
    clear nc1 nc2 nc3 nc4 nc5 nc6 nc7 nc8 nc9 nc10 nc11 nc12 nc13 nc14 nc15 nc16 nc17 nc18 nc19 nc20 nc21
    clear c1 c2 c3 c4 c5 c6 c7 c8 c9 c10 c11 c12 c13 c14 c15 c16 c17 c18 c19 c20
    revert c0 f1 f2 f3 f4 f5 f6 f7 f8 f9 f10 f11 f12 f13 f14 f15 f16 f17 f18 f19 f20 f21
    generalize upd (upd _ p20 _) p21 _ = H5
    intro c0 f1 f2 f3 f4 f5 f6 f7 f8 f9 f10 f11 f12 f13 f14 f15 f16 f17 f18 f19 f20 f21
    clear hp21 hp20 hp19 hp18 hp17 hp16 hp15 hp14 hp13 hp12 hp11 hp10 hp9 hp8 hp7 hp6 hp5 hp4 hp3 hp2 hp1
    have bt := but1.trans (Same.but (cg0.trans (cr0.trans (se.trans c0))))
    have pl5 := pl1.mono (cg0.trans (cr0.trans (se.trans c0)))
    rcases cases10 lo0 hi0 with rfl | rfl | rfl | rfl | rfl | rfl | rfl | rfl | rfl | rfl
    · exact ⟨_, rfl, _, rfl, p21, _, 0, _, rfl, rfl, .inl (.inl f21), rfl, k 0 _ _ (by decide) bt pl5 (.tup (a := p1) (xs := [ve, ve]) (.inl (.inl f1)) (.cons (de.mono c0) (.cons (de.mono c0) (.nil))))⟩
    · exact ⟨_, rfl, _, rfl, p21, _, 1, _, rfl, rfl, .inl (.inl f21), rfl, k 1 _ _ (by decide) bt pl5 (.tup (a := p2) (xs := [.ref g3, ve]) (.inl (.inl f2)) (.cons (dg.mono c0) (.cons (de.mono c0) (.nil))))⟩
    · exact ⟨_, rfl, _, rfl, p21, _, 2, _, rfl, rfl, .inl (.inl f21), rfl, k 2 _ _ (by decide) bt pl5 (.tup (a := p3) (xs := [.ref r2, ve]) (.inl (.inl f3)) (.cons (dp.mono c0) (.cons (de.mono c0) (.nil))))⟩
    · exact ⟨_, rfl, _, rfl, p21, _, 3, _, rfl, rfl, .inl (.inl f21), rfl, k 3 _ _ (by decide) bt pl5 (.tup (a := p4) (xs := [ve, .ref g3]) (.inl (.inl f4)) (.cons (de.mono c0) (.cons (dg.mono c0) (.nil))))⟩
    · exact ⟨_, rfl, _, rfl, p21, _, 4, _, rfl, rfl, .inl (.inl f21), rfl, k 4 _ _ (by decide) bt pl5 (.tup (a := p5) (xs := [ve, .ref r2]) (.inl (.inl f5)) (.cons (de.mono c0) (.cons (dp.mono c0) (.nil))))⟩
    · exact ⟨_, rfl, _, rfl, p21, _, 5, _, rfl, rfl, .inl (.inl f21), rfl, k 5 _ _ (by decide) bt pl5 (.tup (a := p8) (xs := [.non, .ref p7]) (.inl (.inl f8)) (.cons (.non) (.cons (.tup (a := p7) (xs := [.str "edit", .str w0, .ref p6]) (.inl (.inl f7)) (.cons (.str _) (.cons (.str _) (.cons (.lst (a := p6) (xs := []) (.inl (.inl f6)) (.nil)) (.nil))))) (.nil))))⟩
    · exact ⟨_, rfl, _, rfl, p21, _, 6, _, rfl, rfl, .inl (.inl f21), rfl, k 6 _ _ (by decide) bt pl5 (.tup (a := p12) (xs := [.non, .ref p11]) (.inl (.inl f12)) (.cons (.non) (.cons (.tup (a := p11) (xs := [.str "edit", .str w0, .ref p9, .ref p10]) (.inl (.inl f11)) (.cons (.str _) (.cons (.str _) (.cons (.tup (a := p9) (xs := []) (.inl (.inl f9)) (.nil)) (.cons (.lst (a := p10) (xs := []) (.inl (.inl f10)) (.nil)) (.nil)))))) (.nil))))⟩
    · exact ⟨_, rfl, _, rfl, p21, _, 7, _, rfl, rfl, .inl (.inl f21), rfl, k 7 _ _ (by decide) bt pl5 (.tup (a := p16) (xs := [.non, .ref p15]) (.inl (.inl f16)) (.cons (.non) (.cons (.tup (a := p15) (xs := [.str "edit", .str "Word", .ref p13, .ref p14]) (.inl (.inl f15)) (.cons (.str _) (.cons (.str _) (.cons (.lst (a := p13) (xs := []) (.inl (.inl f13)) (.nil)) (.cons (.lst (a := p14) (xs := []) (.inl (.inl f14)) (.nil)) (.nil)))))) (.nil))))⟩
    · exact ⟨_, rfl, _, rfl, p21, _, 8, _, rfl, rfl, .inl (.inl f21), rfl, k 8 _ _ (by decide) bt pl5 (.tup (a := p18) (xs := [.non, .ref p17]) (.inl (.inl f18)) (.cons (.non) (.cons (.tup (a := p17) (xs := [.str "leave", .str w0]) (.inl (.inl f17)) (.cons (.str _) (.cons (.str _) (.nil)))) (.nil))))⟩
    · exact ⟨_, rfl, _, rfl, p21, _, 9, _, rfl, rfl, .inl (.inl f21), rfl, k 9 _ _ (by decide) bt pl5 (.tup (a := p20) (xs := [.non, .ref p19]) (.inl (.inl f20)) (.cons (.non) (.cons (.tup (a := p19) (xs := [.str "await", .str w0, .str "in"]) (.inl (.inl f19)) (.cons (.str _) (.cons (.str _) (.cons (.str _) (.nil))))) (.nil))))⟩
end
end Op
namespace Op
open PySem L2 PyProof.Rows
def outerD (ds : List PyData) : Nat → PyData
  | 0 => .tuple [.str "part", .list ds]
  | 1 => .tuple [.str "loop", .list ds]
  | 2 => .tuple [.str "gate", .str "outer", .list [], .list ds]
  | _ => .tuple [.str "both", .tuple [.list [], .list ds]]
def outerP : Nat → Int
  | 0 => 0
  | 1 => 0
  | _ => 1
inductive Wrap (bs : List PyData) (r : PyData) (as : List PyData) : Nat → List PyData → List Int → Prop
  | base : Wrap bs r as 0 (bs ++ [r] ++ as) [(bs.length : Int)]
  | step {n : Nat} {ds : List PyData} {path : List Int} (j : Nat) : j < 4 → Wrap bs r as n ds path → Wrap bs r as (n + 1) [dPut "x" "a", outerD ds j] (1 :: outerP j :: path)
theorem cases4 {r : Int} (h1 : 0 ≤ r) (h2 : r < 4) : r = 0 ∨ r = 1 ∨ r = 2 ∨ r = 3 := by omega
theorem atI_o : ∀ {j : Nat}, j < 4 → atI [V.int 0, V.int 0, V.int 1, V.int 1] (j : Int) = some (V.int (outerP j))
  | 0, _ => rfl
  | 1, _ => rfl
  | 2, _ => rfl
  | 3, _ => rfl
  | j + 4, h => absurd h (by omega)
theorem dp_ints {K : PySem.W.Frag} {H : Hp} : ∀ ns : List Int, DpAll K H (ns.map V.int) (ns.map PyData.int)
  | [] => .nil
  | n :: r => .cons (.int n) (dp_ints r)
theorem ints_dp {K : PySem.W.Frag} {H : Hp} : ∀ {ns : List Int} {xs : List V}, DpAll K H xs (ns.map PyData.int) → xs = ns.map V.int
  | [], _, h => by cases h; rfl
  | n :: r, _, h => by
    cases h with
    | cons a b =>
      cases a
      rw [ints_dp b]
      rfl
section
variable {P : Program} {w : World} {K : PySem.W.Frag} {mg : Str → Option Value} {base : Heap}
def spWrap (K : PySem.W.Frag) : Sp := fun vs H Q _ => ∃ (p b a : Addr) (v : V) (xb xa : List V) (bs as : List PyData) (r : PyData), vs = [.ref p, .ref b, v, .ref a] ∧ Pl H p ∧ H b = some (.lst xb) ∧ DpAll K H xb bs ∧ Dp K H v r ∧ H a = some (.lst xa) ∧ DpAll K H xa as ∧ bs.length ≤ 100 ∧ as.length ≤ 100 ∧
  ∀ (v' : V) H' (n : Nat) (ds : List PyData) (path : List Int), n ≤ 2 → Wrap bs r as n ds path → But p H H' → Pl H' p → Dp K H' v' (.tuple [.list ds, .tuple (path.map .int)]) → Q v' H'
theorem sc__law_wrapped : FnScope ["_law_pool_here", "_law_before", "_law_row", "_law_after", "_law_depth", "_law_rows", "_law_path", "_law_k", "_law_pick", "_law_outer"] ["_law_pool_here", "_law_before", "_law_row", "_law_after"] (defScope s__law_wrapped) := ⟨rfl, rfl, rfl, by decide +kernel, rfl, by decide +kernel, by decide +kernel⟩
theorem ok_wrapped {f : Addr} {fd : FuncData} (F : Fun K "_law_wrapped" "_law_wrapped" s__law_wrapped f fd) (T : Txt mg) (c__law_draw : Cal P w K mg base CX0 1 "_law_draw" ["_law_pool_here", "_law_many_here"] spD) : FnOk P w K mg base CX0 2 f fd ["_law_pool_here", "_law_before", "_law_row", "_law_after"] (spWrap K) := by
  refine F.ok sc__law_wrapped (fun vs H Q E h => ?_) (fun cdv A outer s H vs Q E hr h => ?_)
  · obtain ⟨p, b, a, v, xb, xa, bs, as, r, rfl, _⟩ := h
    rfl
  · obtain ⟨p, b, a, v, xb, xa, bs, as, r, rfl, hp, hb, hdb, hdr, ha, hda, hbl, hal, k⟩ := h
    have lb := hdb.len
    have la := hda.len
    refine ⟨_, (pss_cons (ps_set (i := 4) sc__law_wrapped.nd rfl (.inl rfl) (pe_cal c__law_draw (hr.mono (by omega)) rfl pass0 (pa_cons (pv 0) (pa_cons pe_int pa_nil))))
      (pss_cons (ps_set (i := 5) sc__law_wrapped.nd rfl (.inl rfl) (pe_op op_cat (pe_op op_cat (pv 1) (pe_lst (pa_cons (pv 2) pa_nil))) (pv 3)))
      (pss_cons (ps_set (i := 6) sc__law_wrapped.nd rfl (.inl rfl) (pe_tup (pa_cons (pe_callB call_len_seq (by rfl) T.b_len (by decide +kernel) (pa_cons (pv 1) pa_nil)) pa_nil)))
      (pss_cons (ps_for PassesOwn.never rfl (pi_range1 (by rfl) T.b_range (pa_cons (pv 4) pa_nil)) (pg_name (i := 7) sc__law_wrapped.nd rfl (.inl rfl)) (pss_cons (ps_set (i := 8) sc__law_wrapped.nd rfl (.inl rfl) (pe_cal c__law_draw (hr.mono (by omega)) rfl pass0 (pa_cons (pv 0) (pa_cons pe_int pa_nil))))
      (Evl.pss_cut (ps_set (i := 9) sc__law_wrapped.nd rfl (.inl rfl) (pe_ix ix_list (pe_lst (pa_cons (pe_tup (pa_cons pe_str (pa_cons (pv 5) pa_nil))) (pa_cons (pe_tup (pa_cons pe_str (pa_cons (pv 5) pa_nil))) (pa_cons (pe_tup (pa_cons pe_str (pa_cons pe_str (pa_cons (pe_lst pa_nil) (pa_cons (pv 5) pa_nil))))) (pa_cons (pe_tup (pa_cons pe_str (pa_cons (pe_tup (pa_cons (pe_lst pa_nil) (pa_cons (pv 5) pa_nil))) pa_nil))) pa_nil))))) (pv 8) (fun _ _ => rfl)))
      (pss_cons (ps_set (i := 6) sc__law_wrapped.nd rfl (.inl rfl) (pe_op op_catA (pe_tup (pa_cons pe_int (pa_cons (pe_ix ix_list (pe_lst (pa_cons pe_int (pa_cons pe_int (pa_cons pe_int (pa_cons pe_int pa_nil))))) (pv 8) (fun _ _ => rfl)) pa_nil))) (pv 6)))
      (pss_one (ps_set (i := 5) sc__law_wrapped.nd rfl (.inl rfl) (pe_lst (pa_cons (pe_tup (pa_cons pe_str (pa_cons pe_str (pa_cons pe_str pa_nil)))) (pa_cons (pv 9) pa_nil)))))))))
      (pss_one (ps_ret (pe_tup (pa_cons (pv 5) (pa_cons (pv 6) pa_nil))))))))), ?_⟩
    refine ⟨_, rfl, p, 3, rfl, hp, by decide, by decide, fun dep H1 lo0 hi0 but1 pl1 => ?_⟩
    have kp1 := hp.kp but1
    have hb1 := kp1 _ _ hb rfl
    have ha1 := kp1 _ _ ha rfl
    refine ⟨_, rfl, _, rfl, sz1 _, fun q1 hq1 => ⟨b, q1, xb, [v], rfl, rfl, Same.new hq1 _ _ hb1, upd_same, sz_lit (by show xb.length + 1 ≤ _; omega), fun q2 hq2 => ⟨_, rfl, q2, a, xb ++ [v], xa, rfl, rfl, upd_same, Same.new hq2 _ _ (Same.new hq1 _ _ ha1), sz_lit (by rw [List.length_append]; show xb.length + 1 + xa.length ≤ _; omega), fun q3 hq3 => ?_⟩⟩⟩
    have s4 := (Same.new (o := .lst [v]) hq1).trans ((Same.new (o := .lst (xb ++ [v])) hq2).trans (Same.new (o := .lst (xb ++ [v] ++ xa)) hq3))
    have l4 := at_new (o := .lst (xb ++ [v] ++ xa)) hq3
    revert s4 l4
    generalize upd (upd _ q2 _) q3 _ = H4
    intro s4 l4
    have dr4 : Dp K H4 (.ref q3) (.list (bs ++ [r] ++ as)) := .lst (.inl (.inl l4)) (DpAll.mono s4 (DpAll.kp kp1 ((hdb.append (.cons hdr .nil)).append hda)))
    refine ⟨_, rfl, b, xb, rfl, .inl (.inl (.inl (s4 _ _ hb1))), sz1 _, fun q4 hq4 => ?_⟩
    have s5 := Same.new (o := .tup [.int (xb.length : Nat)]) hq4
    have l5 := at_new (o := .tup [.int (xb.length : Nat)]) hq4
    revert s5 l5
    generalize upd _ q4 _ = H5
    intro s5 l5
    refine ⟨_, rfl, dep, rfl, by omega, by omega, ?_⟩
    refine for_it walk_range (fun i σ H' => (∃ (vr vq : V) (ds : List PyData) (path : List Int) (y7 y8 y9 : Option V), σ = [some (.ref p), some (.ref b), some v, some (.ref a), some (.int dep), some vr, some vq, y7, y8, y9] ∧ Wrap bs r as i ds path ∧ path.length ≤ 1 + 2 * i ∧ Dp K H' vr (.list ds) ∧ Dp K H' vq (.tuple (path.map .int))) ∧ But p H H' ∧ Pl H' p) ⟨⟨_, _, _, _, _, _, _, rfl, .base, Nat.le_refl _, dr4.mono s5, by rw [← lb]; exact .tup (.inl (.inl l5)) (.cons (.int _) .nil)⟩, (but1.trans (Same.but s4)).trans (Same.but s5), (pl1.mono s4).mono s5⟩ (fun _ _ _ _ _ => trivial) ?_ ?_
    · rintro i v0 σ H5' H5 hi ⟨⟨vr, vq, ds, path, y7, y8, y9, rfl, hw, hpl, dr, dq⟩, but5, pl5⟩ ⟨rfl, rfl⟩
      refine ⟨_, rfl, p, 4, rfl, pl5, by decide, by decide, fun pick H6 lo6 hi6 but6 pl6 => ?_⟩
      have kp6 := pl5.kp but6
      replace dr := dr.kp kp6
      replace dq := dq.kp kp6
      refine ⟨fun σ H' => (∃ (y7 : Option V) (j : Nat) (vo vr' vq' : V), σ = [some (.ref p), some (.ref b), some v, some (.ref a), some (.int dep), some vr', some vq', y7, some (.int j), some vo] ∧ j < 4 ∧ Dp K H' vo (outerD ds j) ∧ Dp K H' vr' (.list ds) ∧ Dp K H' vq' (.tuple (path.map .int))) ∧ But p H H' ∧ Pl H' p, ?_, ?_⟩
      ·
        refine ⟨_, rfl, sz_lit (by show 2 ≤ 100000; decide), fun p1 hp1 => ⟨_, rfl, sz_lit (by show 2 ≤ 100000; decide), fun p2 hp2 => ⟨sz_lit (by show 0 ≤ 100000; decide), fun p3 hp3 => ⟨_, rfl, sz_lit (by show 4 ≤ 100000; decide), fun p4 hp4 => ⟨sz_lit (by show 0 ≤ 100000; decide), fun p5 hp5 => ⟨_, rfl, sz_lit (by show 2 ≤ 100000; decide), fun p6 hp6 => ⟨sz_lit (by show 2 ≤ 100000; decide), fun p7 hp7 => ⟨sz_lit (by show 4 ≤ 100000; decide), fun p8 hp8 => ?_⟩⟩⟩⟩⟩⟩⟩⟩
        have nc1 := Same.new (o := .tup [.str "part", vr]) hp1
        have nc2 := Same.new (o := .tup [.str "loop", vr]) hp2
        have nc3 := Same.new (o := .lst []) hp3
        have nc4 := Same.new (o := .tup [.str "gate", .str "outer", .ref p3, vr]) hp4
        have nc5 := Same.new (o := .lst []) hp5
        have nc6 := Same.new (o := .tup [.ref p5, vr]) hp6
        have nc7 := Same.new (o := .tup [.str "both", .ref p6]) hp7
        have nc8 := Same.new (o := .lst [.ref p1, .ref p2, .ref p4, .ref p7]) hp8
        have c7 := nc8
        have c6 := nc7.trans c7
        have c5 := nc6.trans c6
        have c4 := nc5.trans c5
        have c3 := nc4.trans c4
        have c2 := nc3.trans c3
        have c1 := nc2.trans c2
        have c0 := nc1.trans c1
        have fp1 := c1 p1 (.tup [.str "part", vr]) upd_same
        have fp2 := c2 p2 (.tup [.str "loop", vr]) upd_same
        have fp3 := c3 p3 (.lst []) upd_same
        have fp4 := c4 p4 (.tup [.str "gate", .str "outer", .ref p3, vr]) upd_same
        have fp5 := c5 p5 (.lst []) upd_same
        have fp6 := c6 p6 (.tup [.ref p5, vr]) upd_same
        have fp7 := c7 p7 (.tup [.str "both", .ref p6]) upd_same
        have fp8 := at_new (o := .lst [.ref p1, .ref p2, .ref p4, .ref p7]) hp8
        clear nc1 nc2 nc3 nc4 nc5 nc6 nc7 nc8
        clear c1 c2 c3 c4 c5 c6 c7
        revert c0 fp1 fp2 fp3 fp4 fp5 fp6 fp7 fp8
        generalize upd (upd _ p7 _) p8 _ = H7
        intro c0 fp1 fp2 fp3 fp4 fp5 fp6 fp7 fp8
        clear hp8 hp7 hp6 hp5 hp4 hp3 hp2 hp1
        have bt := (but5.trans but6).trans (Same.but c0)
        have pl7 := pl6.mono c0
        rcases cases4 lo6 hi6 with rfl | rfl | rfl | rfl
        · exact ⟨_, rfl, p8, _, 0, _, rfl, rfl, .inl (.inl fp8), rfl, ⟨_, 0, _, _, _, rfl, by decide, .tup (a := p1) (xs := [.str "part", vr]) (.inl (.inl fp1)) (.cons (.str _) (.cons (dr.mono c0) (.nil))), dr.mono c0, dq.mono c0⟩, bt, pl7⟩
        · exact ⟨_, rfl, p8, _, 1, _, rfl, rfl, .inl (.inl fp8), rfl, ⟨_, 1, _, _, _, rfl, by decide, .tup (a := p2) (xs := [.str "loop", vr]) (.inl (.inl fp2)) (.cons (.str _) (.cons (dr.mono c0) (.nil))), dr.mono c0, dq.mono c0⟩, bt, pl7⟩
        · exact ⟨_, rfl, p8, _, 2, _, rfl, rfl, .inl (.inl fp8), rfl, ⟨_, 2, _, _, _, rfl, by decide, .tup (a := p4) (xs := [.str "gate", .str "outer", .ref p3, vr]) (.inl (.inl fp4)) (.cons (.str _) (.cons (.str _) (.cons (.lst (a := p3) (xs := []) (.inl (.inl fp3)) (.nil)) (.cons (dr.mono c0) (.nil))))), dr.mono c0, dq.mono c0⟩, bt, pl7⟩
        · exact ⟨_, rfl, p8, _, 3, _, rfl, rfl, .inl (.inl fp8), rfl, ⟨_, 3, _, _, _, rfl, by decide, .tup (a := p7) (xs := [.str "both", .ref p6]) (.inl (.inl fp7)) (.cons (.str _) (.cons (.tup (a := p6) (xs := [.ref p5, vr]) (.inl (.inl fp6)) (.cons (.lst (a := p5) (xs := []) (.inl (.inl fp5)) (.nil)) (.cons (dr.mono c0) (.nil)))) (.nil))), dr.mono c0, dq.mono c0⟩, bt, pl7⟩
      · rintro σ H7 ⟨⟨y7', j, vo, vr', vq', rfl, hj, dvo, dvr, dvq⟩, but7, pl7⟩
        cases dvq with
        | @tup q xq _ hq hxq =>
        obtain rfl := ints_dp hxq
        refine ⟨sz_lit (by show 4 ≤ 100000; decide), fun l1 h1 => ⟨_, rfl, l1, _, j, .int (outerP j), rfl, rfl, .inl (.inl upd_same), atI_o hj, sz2 _ _, fun t1 g1 => ⟨_, rfl, ?_⟩⟩⟩
        have s8 := Same.new (o := .lst [.int 0, .int 0, .int 1, .int 1]) h1
        have s9 := Same.new (o := .tup [.int 1, .int (outerP j)]) g1
        have l9 := at_new (o := .tup [.int 1, .int (outerP j)]) g1
        refine cat_any (.inl (.inl l9)) ((hq.mono s8).mono s9) (sz_lit (by rw [List.length_map]; show 2 + path.length ≤ 100000; omega)) fun t2 H10 s10 ht2 => ?_
        have sA := s8.trans (s9.trans s10)
        refine ⟨sz_lit (by show 3 ≤ 100000; decide), fun t3 g3 => ⟨_, rfl, sz2 _ _, fun l4 g4 => ?_⟩⟩
        have s11 := Same.new (o := .tup [.str "put", .str "x", .str "a"]) g3
        have s12 := Same.new (o := .lst [.ref t3, vo]) g4
        have l11 := at_new (o := .tup [.str "put", .str "x", .str "a"]) g3
        have l12 := at_new (o := .lst [.ref t3, vo]) g4
        have sB := sA.trans (s11.trans s12)
        refine ⟨⟨.ref l4, .ref t2, [dPut "x" "a", outerD ds j], 1 :: outerP j :: path, _, _, _, rfl, .step j hj hw, by rw [List.length_cons, List.length_cons]; omega, ?_, ?_⟩, but7.trans (Same.but sB), pl7.mono sB⟩
        · exact .lst (.inl (.inl l12)) (.cons (.tup (.inl (.inl (s12 _ _ l11))) (.cons (.str _) (.cons (.str _) (.cons (.str _) .nil)))) (.cons (dvo.mono sB) .nil))
        · exact .tup ((ht2.mono s11).mono s12) (dp_ints (1 :: outerP j :: path))
    · rintro σ H4' ⟨⟨vr, vq, ds, path, y7, y8, y9, rfl, hw, _, dr, dq⟩, but5, pl5⟩
      refine ⟨_, rfl, _, rfl, sz2 _ _, fun q5 hq5 => ?_⟩
      have s6 := Same.new (o := .tup [vr, vq]) hq5
      exact k _ _ dep.toNat ds path (by omega) hw (but5.trans (Same.but s6)) (pl5.mono s6) (.tup (.inl (.inl upd_same)) (.cons (dr.mono s6) (.cons (dq.mono s6) .nil)))
end
end Op
namespace Op
open PySem L2 PyProof.Rows
def nine : Str := "abcdefghi"
def idw (w : Str) (k : Nat) : Str := w ++ ⟨#[97 + k]⟩
theorem nine_at : ∀ {k : Nat}, k < 9 → atI nine.cps.toList (k : Int) = some (97 + k)
  | 0, _ => by decide +kernel
  | 1, _ => by decide +kernel
  | 2, _ => by decide +kernel
  | 3, _ => by decide +kernel
  | 4, _ => by decide +kernel
  | 5, _ => by decide +kernel
  | 6, _ => by decide +kernel
  | 7, _ => by decide +kernel
  | 8, _ => by decide +kernel
  | k + 9, h => absurd h (by omega)
def edits (w : Str) (n : Nat) : List PyData := (List.range n).map fun k => dEdit (idw w k)
theorem edits_succ (w : Str) (n : Nat) : edits w (n + 1) = edits w n ++ [dEdit (idw w n)] := by
  unfold edits
  rw [List.range_succ, List.map_append]
  rfl
/-- gate or past rows with the ids from e on -/
def Gates (w : Str) (e : Nat) : Nat → List PyData → Prop
  | 0, ds => ds = []
  | n + 1, ds => ∃ ds' d, ds = ds' ++ [d] ∧ Gates w e n ds' ∧ (d = dPast (idw w (e + n)) ∨ d = dGate (idw w (e + n)))
section
variable {P : Program} {w : World} {K : PySem.W.Frag} {mg : Str → Option Value} {base : Heap}
def spMany (K : PySem.W.Frag) : Sp := fun vs H Q _ => ∃ (p : Addr) (w : Str), vs = [.ref p, .str w] ∧ Pl H p ∧ w.length ≤ 100 ∧
  (∀ (v : V) H', But p H H' → Pl H' p → (∃ t l xs u, v = .ref t ∧ SqT K H' t [.ref l, u] ∧ H' l = some (.lst xs) ∧ DpAll K H' xs (edits w 5) ∧ Dp K H' u (.tuple [.str "edits", .tuple []])) → Q v H') ∧
  (∀ (v : V) H' (e : Nat) (ds : List PyData), But p H H' → Pl H' p → 1 ≤ e → e ≤ 4 → Gates w e (9 - e) ds → (∃ t l xs u, v = .ref t ∧ SqT K H' t [.ref l, u] ∧ H' l = some (.lst xs) ∧ DpAll K H' xs (edits w e ++ ds) ∧ Dp K H' u (.tuple [.str "gates", .tuple []])) → Q v H')
theorem sc__law_many : FnScope ["_law_pool_here", "_law_word", "_law_letters", "_law_k", "_law_edits", "_law_rows"] ["_law_pool_here", "_law_word"] (defScope s__law_many) := ⟨rfl, rfl, rfl, by decide +kernel, rfl, by decide +kernel, by decide +kernel⟩
theorem ok_many {f : Addr} {fd : FuncData} (F : Fun K "_law_many" "_law_many" s__law_many f fd) (T : Txt mg) (c__law_draw : Cal P w K mg base CX0 1 "_law_draw" ["_law_pool_here", "_law_many_here"] spD) (c__law_edit : Cal P w K mg base CX0 1 "_law_edit" ["_law_word"] (spEdit K)) : FnOk P w K mg base CX0 2 f fd ["_law_pool_here", "_law_word"] (spMany K) := by
  refine F.ok sc__law_many (fun vs H Q E h => ?_) (fun cdv A outer s H vs Q E hr h => ?_)
  · obtain ⟨p, w0, rfl, _⟩ := h
    rfl
  · obtain ⟨p, w0, rfl, hp, hwl, k1, k2⟩ := h
    refine ⟨_, (pss_cons (ps_set (i := 2) sc__law_many.nd rfl (.inr rfl) pe_str)
      (pss_cons (ps_if (pt_cmpR op_eq (pe_cal c__law_draw (hr.mono (by omega)) rfl pass0 (pa_cons (pv 0) (pa_cons pe_int pa_nil))) pe_int (nomark _)) (pss_one (ps_ret (pe_tup (pa_cons (pe_lc (own := [("_law_k", 3)]) (g := gName 3) (tt := tYes) rfl sc__law_many.nd (pi_range1 (by rfl) T.b_range (pa_cons pe_int pa_nil)) (blkOk_by (own := [("_law_k", 3)]) (N := ["_law_pool_here", "_law_word", "_law_letters", "_law_k", "_law_edits", "_law_rows"]) (sc := defScope s__law_many) (by decide +kernel)) (fun _ _ _ _ _ => (pg_name (i := 3) sc__law_many.nd rfl (.inl rfl))) (fun _ _ _ _ _ => pts_nil) (fun _ _ _ _ _ => (pe_cal c__law_edit (hr.mono (by omega)) rfl pass0 (pa_cons (pe_op op_add_str (pv 1) (pe_ix ix_str (pv 2) (pv 3) (fun _ _ => rfl))) pa_nil)))) (pa_cons (pe_tup (pa_cons pe_str (pa_cons (pe_tup pa_nil) pa_nil))) pa_nil))))) pss_nil)
      (pss_cons (ps_set (i := 4) sc__law_many.nd rfl (.inl rfl) (pe_op op_add pe_int (pe_cal c__law_draw (hr.mono (by omega)) rfl pass0 (pa_cons (pv 0) (pa_cons pe_int pa_nil)))))
      (pss_cons (ps_setLc (i := 5) (own := [("_law_k", 3)]) (g := gName 3) (tt := tYes) rfl sc__law_many.nd rfl rfl (sw_true rfl rfl rfl (by decide +kernel)) (pi_range1 (by rfl) T.b_range (pa_cons (pv 4) pa_nil)) (blkOk_by (own := [("_law_k", 3)]) (N := ["_law_pool_here", "_law_word", "_law_letters", "_law_k", "_law_edits", "_law_rows"]) (sc := defScope s__law_many) (by decide +kernel)) (fun _ _ _ _ _ => (pg_name (i := 3) sc__law_many.nd rfl (.inl rfl))) (fun _ _ _ _ _ => pts_nil) (fun _ _ _ _ _ => (pe_cal c__law_edit (hr.mono (by omega)) rfl pass0 (pa_cons (pe_op op_add_str (pv 1) (pe_ix ix_str (pv 2) (pv 3) (fun _ _ => rfl))) pa_nil))))
      (pss_cons (ps_for PassesOwn.never rfl (pi_range2 (by rfl) T.b_range (pa_cons (pv 4) (pa_cons pe_int pa_nil))) (pg_name (i := 3) sc__law_many.nd rfl (.inl rfl)) (pss_one (ps_expr (pe_bm PySem.F.plainAttrs_list PySem.F.slot_list_append PySem.F.type_list_append mt_append (pv 5) (pa_cons (pe_ix ix_list (pe_lst (pa_cons (pe_tup (pa_cons pe_str (pa_cons (pe_op op_add_str (pv 1) (pe_ix ix_str (pv 2) (pv 3) (fun _ _ => rfl))) (pa_cons (pe_lst pa_nil) pa_nil)))) (pa_cons (pe_tup (pa_cons pe_str (pa_cons (pe_op op_add_str (pv 1) (pe_ix ix_str (pv 2) (pv 3) (fun _ _ => rfl))) (pa_cons (pe_lst pa_nil) (pa_cons (pe_lst pa_nil) pa_nil))))) pa_nil))) (pe_cal c__law_draw (hr.mono (by omega)) rfl pass0 (pa_cons (pv 0) (pa_cons pe_int pa_nil))) (fun _ _ => rfl)) pa_nil)))))
      (pss_one (ps_ret (pe_tup (pa_cons (pv 5) (pa_cons (pe_tup (pa_cons pe_str (pa_cons (pe_tup pa_nil) pa_nil))) pa_nil)))))))))), ?_⟩
    refine ⟨_, rfl, p, 2, rfl, hp, by decide, by decide, fun r H1 lo0 hi0 but1 pl1 => ⟨rfl, _, rfl, ?_⟩⟩
    by_cases e0 : r = 0
    · refine ifT (decide_eq_true (congrArg V.int e0)) ⟨5, rfl, by decide, by decide, fun D hD => ?_⟩
      refine lc_it (walk_range (lo := 0) (n := 5)) (fun i H' => ∃ acc, H' D = some (.lst acc) ∧ acc.length ≤ i ∧ DpAll K (cutH (· = D) H') acc (edits w0 i) ∧ Same H1 H') ⟨[], upd_same, Nat.le_refl _, .nil, Same.new hD⟩ (fun _ _ _ _ => trivial) ?_ ?_
      · rintro i x H3 H2 hi ⟨acc, hacc, hal, hdp, sm⟩ ⟨rfl, rfl⟩
        refine ⟨rfl, ?_⟩
        refine ⟨_, rfl, _, rfl, _, rfl, nine, 0 + (i : Int), 97 + i, rfl, rfl, sz_lit (by decide +kernel), (by rw [Int.zero_add]; exact nine_at (by omega)), _, _, rfl, rfl, sz_lit (by show w0.length + 1 ≤ _; omega), idw w0 i, rfl, fun v' H4 s4 hv => ?_⟩
        refine ⟨acc, s4 _ _ hacc, lt_sz (by omega), acc ++ [v'], upd_same, by rw [List.length_append]; show acc.length + 1 ≤ _; omega, ?_, fun b o hb => ?_⟩
        · rw [cut_upd (S := (· = D)) rfl, edits_succ]
          refine (DpAll.mono (cut_same s4) hdp).append (.cons (hv.mono (cut_sub fun b (hb : b = D) => ?_)) .nil)
          rw [hb]
          exact ⟨acc, hacc⟩
        · rw [L2.upd_ne (ne_of_none hb hD)]
          exact s4 b o (sm b o hb)
      · rintro H2 ⟨acc, hacc, _, hdp, sm⟩
        refine ⟨sz_lit (by show 0 ≤ 100000; decide), fun q1 h1 => ⟨sz2 _ _, fun q2 h2 => ⟨sz2 _ _, fun q3 h3 => ?_⟩⟩⟩
        have s1 := Same.new (o := .tup []) h1
        have s2 := Same.new (o := .tup [.str "edits", .ref q1]) h2
        have s3 := Same.new (o := .tup [.ref D, .ref q2]) h3
        have l1 := at_new (o := .tup []) h1
        have l2 := at_new (o := .tup [.str "edits", .ref q1]) h2
        have l3 := at_new (o := .tup [.ref D, .ref q2]) h3
        have sA := s1.trans (s2.trans s3)
        exact k1 _ _ (but1.trans ((Same.but sm).trans (Same.but sA))) ((pl1.mono sm).mono sA) ⟨q3, D, acc, .ref q2, rfl, .inl (.inl l3), sA _ _ hacc, DpAll.mono (cut_all.trans sA) hdp, .tup (.inl (.inl (s3 _ _ l2))) (.cons (.str _) (.cons (.tup (xs := []) (.inl (.inl (s3 _ _ (s2 _ _ l1)))) .nil) .nil))⟩
    · refine ifF (decide_eq_false fun z => e0 (V.int.inj z)) ?_
      refine ⟨_, rfl, p, 4, rfl, pl1, by decide, by decide, fun r2 H2 lo2 hi2 but2 pl2 => ⟨_, _, rfl, rfl, ?_⟩⟩
      obtain ⟨e, he⟩ : ∃ e : Nat, (1 : Int) + r2 = e := ⟨(1 + r2).toNat, (Int.toNat_of_nonneg (by omega)).symm⟩
      have he1 : 1 ≤ e := by omega
      have he4 : e ≤ 4 := by omega
      show tSeq _ _ _ (List.set _ 4 (some (V.int (1 + r2)))) H2
      rw [he]
      refine ⟨_, rfl, e, rfl, by omega, by omega, fun D hD => ?_⟩
      rw [Int.toNat_natCast]
      refine lc_it (walk_range (lo := 0) (n := e)) (fun i H' => ∃ acc, H' D = some (.lst acc) ∧ acc.length ≤ i ∧ DpAll K (cutH (· = D) H') acc (edits w0 i) ∧ Same H2 H') ⟨[], upd_same, Nat.le_refl _, .nil, Same.new hD⟩ (fun _ _ _ _ => trivial) ?_ ?_
      · rintro i x H3 H4' hi ⟨acc, hacc, hal, hdp, sm⟩ ⟨rfl, rfl⟩
        refine ⟨rfl, ?_⟩
        refine ⟨_, rfl, _, rfl, _, rfl, nine, 0 + (i : Int), 97 + i, rfl, rfl, sz_lit (by decide +kernel), (by rw [Int.zero_add]; exact nine_at (by omega)), _, _, rfl, rfl, sz_lit (by show w0.length + 1 ≤ _; omega), idw w0 i, rfl, fun v' H4 s4 hv => ?_⟩
        refine ⟨acc, s4 _ _ hacc, lt_sz (by omega), acc ++ [v'], upd_same, by rw [List.length_append]; show acc.length + 1 ≤ _; omega, ?_, fun b o hb => ?_⟩
        · rw [cut_upd (S := (· = D)) rfl, edits_succ]
          refine (DpAll.mono (cut_same s4) hdp).append (.cons (hv.mono (cut_sub fun b (hb : b = D) => ?_)) .nil)
          rw [hb]
          exact ⟨acc, hacc⟩
        · rw [L2.upd_ne (ne_of_none hb hD)]
          exact s4 b o (sm b o hb)
      · rintro H3 ⟨acc, hacc, hal, hdp, sm⟩
        have but3 : But p H H3 := (but1.trans but2).trans (Same.but sm)
        have pl3 := pl2.mono sm
        refine ⟨_, rfl, e, 9, rfl, ⟨by omega, by omega, by omega, by omega⟩, ?_⟩
        have hDH : H D = none := by
          cases q : H D with
          | none => rfl
          | some o =>
            by_cases z : D = p
            · obtain ⟨_, _, _, hh, _⟩ := pl2
              rw [z, hh] at hD
              cases hD
            · rw [but2 _ _ (but1 _ _ q z) z] at hD
              cases hD
        obtain ⟨m, hm⟩ : ∃ m : Nat, ((9 : Int) - (e : Int)).toNat = m := ⟨_, rfl⟩
        rw [hm]
        have hm9 : e + m = 9 := by omega
        refine for_it (walk_range (lo := e) (n := m)) (fun i σ H' => (∃ y3 : Option V, σ = [some (.ref p), some (.str w0), some (.str nine), y3, some (.int e), some (.ref D)]) ∧ ∃ (acc : List V) (ds : List PyData), H' D = some (.lst acc) ∧ acc.length ≤ e + i ∧ Gates w0 e i ds ∧ DpAll K (cutH (· = D) H') acc (edits w0 e ++ ds) ∧ But p H H' ∧ Pl H' p) ⟨⟨_, rfl⟩, acc, [], hacc, by omega, rfl, by rw [List.append_nil]; exact hdp, but3, pl3⟩ (fun _ _ _ _ _ => trivial) ?_ ?_
        · rintro i x σ H5 H4 hi ⟨⟨y3, rfl⟩, acc, ds, hacc, hal, hg, hdp, but4, pl4⟩ ⟨rfl, rfl⟩
          have hat : atI nine.cps.toList ((e : Int) + (i : Int)) = some (97 + (e + i)) := by
            have := nine_at (k := e + i) (by omega)
            rw [Int.natCast_add] at this
            exact this
          refine ⟨_, rfl, .inl ⟨rfl, _, .inl (.inl hacc)⟩, _, rfl, _, rfl, _, rfl, nine, _, _, rfl, rfl, sz_lit (by decide +kernel), hat, _, _, rfl, rfl, sz_lit (by show w0.length + 1 ≤ _; omega), sz_lit (by show 0 ≤ 100000; decide), fun l1 h1 => ⟨sz_lit (by show 3 ≤ 100000; decide), fun t1 g1 => ?_⟩⟩
          refine ⟨_, rfl, _, rfl, _, rfl, nine, _, _, rfl, rfl, sz_lit (by decide +kernel), hat, _, _, rfl, rfl, sz_lit (by show w0.length + 1 ≤ _; omega), sz_lit (by show 0 ≤ 100000; decide), fun l2 h2 => ⟨sz_lit (by show 0 ≤ 100000; decide), fun l3 h3 => ⟨sz_lit (by show 4 ≤ 100000; decide), fun t2 g2 => ⟨sz2 _ _, fun l4 h4 => ?_⟩⟩⟩⟩
          have a1 := Same.new (o := .lst []) h1
          have a2 := Same.new (o := .tup [.str "past", .str (idw w0 (e + i)), .ref l1]) g1
          have a3 := Same.new (o := .lst []) h2
          have a4 := Same.new (o := .lst []) h3
          have a5 := Same.new (o := .tup [.str "gate", .str (idw w0 (e + i)), .ref l2, .ref l3]) g2
          have a6 := Same.new (o := .lst [.ref t1, .ref t2]) h4
          have b5 := a6
          have b4 := a5.trans a6
          have b3 := a4.trans b4
          have b2 := a3.trans b3
          have b1 := a2.trans b2
          have b0 := a1.trans b1
          have f1 := b1 l1 _ (at_new (o := .lst []) h1)
          have f2 := b2 t1 _ (at_new (o := .tup [.str "past", .str (idw w0 (e + i)), .ref l1]) g1)
          have f3 := b3 l2 _ (at_new (o := .lst []) h2)
          have f4 := b4 l3 _ (at_new (o := .lst []) h3)
          have f5 := b5 t2 _ (at_new (o := .tup [.str "gate", .str (idw w0 (e + i)), .ref l2, .ref l3]) g2)
          have f6 := at_new (o := .lst [.ref t1, .ref t2]) h4
          have nD : ∀ {H' : Hp} {b : Addr}, Same H4 H' → H' b = none → b ≠ D := fun s hb z => by
            rw [z, s _ _ hacc] at hb
            cases hb
          have n1 := nD (Same.refl _) h1
          have n2 := nD a1 g1
          have n3 := nD (a1.trans a2) h2
          have n4 := nD (a1.trans (a2.trans a3)) h3
          have n5 := nD (a1.trans (a2.trans (a3.trans a4))) g2
          clear a1 a2 a3 a4 a5 a6 b1 b2 b3 b4 b5 h4 g2 h3 h2 g1 h1
          revert b0 f1 f2 f3 f4 f5 f6
          generalize upd (upd _ t2 _) l4 _ = H6
          intro b0 f1 f2 f3 f4 f5 f6
          refine ⟨_, rfl, p, 2, rfl, pl4.mono b0, by decide, by decide, fun rr H7 lo7 hi7 but7 pl7 => ?_⟩
          have kp7 := (pl4.mono b0).kp but7
          have hacc7 := kp7 _ _ (b0 _ _ hacc) rfl
          have hdp7 : DpAll K (cutH (· = D) H7) acc (edits w0 e ++ ds) := DpAll.kp (cut_kp kp7) (DpAll.mono (cut_same b0) hdp)
          have dP : Dp K (cutH (· = D) H7) (.ref t1) (dPast (idw w0 (e + i))) := Dp.kp (cut_kp kp7) (.tup (.inl (.inl (by rw [cut_ne n2]; exact f2))) (.cons (.str _) (.cons (.str _) (.cons (.lst (a := l1) (xs := []) (.inl (.inl (by rw [cut_ne n1]; exact f1))) .nil) .nil))))
          have dG : Dp K (cutH (· = D) H7) (.ref t2) (dGate (idw w0 (e + i))) := Dp.kp (cut_kp kp7) (.tup (.inl (.inl (by rw [cut_ne n5]; exact f5))) (.cons (.str _) (.cons (.str _) (.cons (.lst (a := l2) (xs := []) (.inl (.inl (by rw [cut_ne n3]; exact f3))) .nil) (.cons (.lst (a := l3) (xs := []) (.inl (.inl (by rw [cut_ne n4]; exact f4))) .nil) .nil)))))
          have l47 := kp7 _ _ f6 rfl
          have done : ∀ (v : V) (d : PyData), (d = dPast (idw w0 (e + i)) ∨ d = dGate (idw w0 (e + i))) → Dp K (cutH (· = D) H7) v d → (∃ y3 : Option V, ([some (.ref p), some (.str w0), some (.str nine), some (.int ((e : Int) + (i : Int))), some (.int e), some (.ref D)] : L2.St) = [some (.ref p), some (.str w0), some (.str nine), y3, some (.int e), some (.ref D)]) ∧ ∃ (acc' : List V) (ds' : List PyData), upd H7 D (.lst (acc ++ [v])) D = some (.lst acc') ∧ acc'.length ≤ e + (i + 1) ∧ Gates w0 e (i + 1) ds' ∧ DpAll K (cutH (· = D) (upd H7 D (.lst (acc ++ [v])))) acc' (edits w0 e ++ ds') ∧ But p H (upd H7 D (.lst (acc ++ [v]))) ∧ Pl (upd H7 D (.lst (acc ++ [v]))) p := fun v d hd hv => by
            refine ⟨⟨_, rfl⟩, acc ++ [v], ds ++ [d], upd_same, by rw [List.length_append]; show acc.length + 1 ≤ _; omega, ⟨ds, d, rfl, hg, hd⟩, ?_, fun b o hb hbp => ?_, pl7.put hacc7⟩
            · rw [cut_upd (S := (· = D)) rfl, ← List.append_assoc]
              exact hdp7.append (.cons hv .nil)
            · rw [L2.upd_ne (ne_of_none hb hDH)]
              exact but7 b o (b0 b o (but4 b o hb hbp)) hbp
          have hr2 : rr = 0 ∨ rr = 1 := by omega
          rcases hr2 with rfl | rfl
          · exact ⟨l4, _, 0, _, rfl, rfl, .inl (.inl l47), rfl, D, acc, _, rfl, rfl, hacc7, lt_sz (by omega), done _ _ (.inl rfl) dP⟩
          · exact ⟨l4, _, 1, _, rfl, rfl, .inl (.inl l47), rfl, D, acc, _, rfl, rfl, hacc7, lt_sz (by omega), done _ _ (.inr rfl) dG⟩
        · rintro σ H4 ⟨⟨y3, rfl⟩, acc, ds, hacc, _, hg, hdp, but4, pl4⟩
          refine ⟨_, rfl, sz_lit (by show 0 ≤ 100000; decide), fun q1 h1 => ⟨sz2 _ _, fun q2 h2 => ⟨sz2 _ _, fun q3 h3 => ?_⟩⟩⟩
          have s1 := Same.new (o := .tup []) h1
          have s2 := Same.new (o := .tup [.str "gates", .ref q1]) h2
          have s3 := Same.new (o := .tup [.ref D, .ref q2]) h3
          have l1 := at_new (o := .tup []) h1
          have l2 := at_new (o := .tup [.str "gates", .ref q1]) h2
          have l3 := at_new (o := .tup [.ref D, .ref q2]) h3
          have sA := s1.trans (s2.trans s3)
          exact k2 _ _ e ds (but4.trans (Same.but sA)) (pl4.mono sA) he1 he4 (by rw [show 9 - e = m by omega]; exact hg) ⟨q3, D, acc, .ref q2, rfl, .inl (.inl l3), sA _ _ hacc, DpAll.mono (cut_all.trans sA) hdp, .tup (.inl (.inl (s3 _ _ l2))) (.cons (.str _) (.cons (.tup (xs := []) (.inl (.inl (s3 _ _ (s2 _ _ l1)))) .nil) .nil))⟩
end
end Op
namespace Op
open PySem L2 PyProof.Rows
def pbA : Nat → ArgD
  | 4 => .dict []
  | 5 => .dict [("p", .tuple [.str "a", .str "a"])]
  | 6 => .dict [("p", .list [.str "a"])]
  | 7 => .other (.int 5)
  | _ => .none
def pbS : Nat → ArgD
  | 3 => .dict [("s", .tuple [.int 0, .tuple [.str "a"]])]
  | 6 => .dict [("s", .tuple [.int 0, .tuple [.str "a"]])]
  | 4 => .dict [("s", .tuple [.bool true, .tuple [.str "a"]])]
  | _ => .none
def pbI : Nat → PyData
  | 2 => .tuple []
  | 5 => .tuple []
  | 4 => .list [.str "go"]
  | _ => .tuple [.str "go"]
def pbD : Nat → PyData
  | 0 => .none
  | 1 => .none
  | 2 => .str "inputs"
  | 3 => .str "signals"
  | 4 => .str "signals"
  | _ => .str "asks"
theorem cases8 {r : Int} (h1 : 0 ≤ r) (h2 : r < 8) : r = 0 ∨ r = 1 ∨ r = 2 ∨ r = 3 ∨ r = 4 ∨ r = 5 ∨ r = 6 ∨ r = 7 := by omega
section
variable {P : Program} {w : World} {K : PySem.W.Frag} {mg : Str → Option Value} {base : Heap}
def spPB (K : PySem.W.Frag) : Sp := fun vs H Q _ => ∃ (p : Addr), vs = [.ref p] ∧ Pl H p ∧ ∀ (j : Nat) (v : V) H', j < 8 → But p H H' → Pl H' p →
  (∃ t av sv iv dv, v = .ref t ∧ SqT K H' t [av, sv, iv, dv] ∧ ArgV K H' av (pbA j) ∧ ArgV K H' sv (pbS j) ∧ Dp K H' iv (pbI j) ∧ Dp K H' dv (pbD j)) → Q v H'
theorem ArgV.mono {H H' : Hp} {v : V} {a : ArgD} (h : ArgV K H v a) (s : Same H H') : ArgV K H' v a := by
  cases a with
  | none => exact h
  | other d => exact ⟨h.1.mono s, h.2⟩
  | dict kvs =>
    obtain ⟨p, vs, e, hp, hk, hn⟩ := h
    exact ⟨p, vs, e, s _ _ hp, hk.mono s.kp, hn⟩
theorem pbD_at (K : PySem.W.Frag) : ∀ {j : Nat}, j < 8 → ∃ dv, atI [V.non, V.non, V.str "inputs", V.str "signals", V.str "signals", V.str "asks", V.str "asks", V.str "asks"] (j : Int) = some dv ∧ ∀ H, Dp K H dv (pbD j)
  | 0, _ => ⟨_, rfl, fun _ => .non⟩
  | 1, _ => ⟨_, rfl, fun _ => .non⟩
  | 2, _ => ⟨_, rfl, fun _ => .str _⟩
  | 3, _ => ⟨_, rfl, fun _ => .str _⟩
  | 4, _ => ⟨_, rfl, fun _ => .str _⟩
  | 5, _ => ⟨_, rfl, fun _ => .str _⟩
  | 6, _ => ⟨_, rfl, fun _ => .str _⟩
  | 7, _ => ⟨_, rfl, fun _ => .str _⟩
  | j + 8, h => absurd h (by omega)
theorem pbI_at {H : Hp} {a b c : V} (h1 : Dp K H a (.tuple [.str "go"])) (h2 : Dp K H b (.tuple [])) (h3 : Dp K H c (.list [.str "go"])) : ∀ {j : Nat}, j < 8 → ∃ i v, atI [V.int 0, V.int 0, V.int 1, V.int 0, V.int 2, V.int 1, V.int 0, V.int 0] (j : Int) = some (.int i) ∧ atI [a, b, c] i = some v ∧ Dp K H v (pbI j)
  | 0, _ => ⟨0, _, rfl, rfl, h1⟩
  | 1, _ => ⟨0, _, rfl, rfl, h1⟩
  | 2, _ => ⟨1, _, rfl, rfl, h2⟩
  | 3, _ => ⟨0, _, rfl, rfl, h1⟩
  | 4, _ => ⟨2, _, rfl, rfl, h3⟩
  | 5, _ => ⟨1, _, rfl, rfl, h2⟩
  | 6, _ => ⟨0, _, rfl, rfl, h1⟩
  | 7, _ => ⟨0, _, rfl, rfl, h1⟩
  | j + 8, h => absurd h (by omega)
theorem disp_same {H Hm : Hp} {d : Addr} {kvs : List (Key × V)} (e : H d = none) (s : Same (upd H d (.dK [])) Hm) : Same H (upd Hm d (.dK kvs)) := fun b o hb => by
  rw [upd_ne (ne_of_none hb e)]
  exact s b o (by rw [upd_ne (ne_of_none hb e)]; exact hb)
theorem disp_keep {H Hm : Hp} {d t : Addr} {o : HO} {kvs : List (Key × V)} (g : upd H d (.dK []) t = none) (h : Hm t = some o) : upd Hm d (.dK kvs) t = some o := by
  have : t ≠ d := fun z => by rw [z, upd_same] at g; cases g
  rw [upd_ne this]
  exact h
theorem pbA_at {H : Hp} {a b c : V} (h1 : ArgV K H a (.dict [])) (h2 : ArgV K H b (.dict [("p", .tuple [.str "a", .str "a"])])) (h3 : ArgV K H c (.dict [("p", .list [.str "a"])])) : ∀ {j : Nat}, j < 8 → ∃ i v, atI [V.int 0, V.int 0, V.int 0, V.int 0, V.int 1, V.int 2, V.int 3, V.int 4] (j : Int) = some (.int i) ∧ atI [.non, a, b, c, .int 5] i = some v ∧ ArgV K H v (pbA j)
  | 0, _ => ⟨0, _, rfl, rfl, rfl⟩
  | 1, _ => ⟨0, _, rfl, rfl, rfl⟩
  | 2, _ => ⟨0, _, rfl, rfl, rfl⟩
  | 3, _ => ⟨0, _, rfl, rfl, rfl⟩
  | 4, _ => ⟨1, _, rfl, rfl, h1⟩
  | 5, _ => ⟨2, _, rfl, rfl, h2⟩
  | 6, _ => ⟨3, _, rfl, rfl, h3⟩
  | 7, _ => ⟨4, _, rfl, rfl, ⟨.int 5, nofun⟩⟩
  | j + 8, h => absurd h (by omega)
theorem pbS_at {H : Hp} {a b : V} (h1 : ArgV K H a (.dict [("s", .tuple [.int 0, .tuple [.str "a"]])])) (h2 : ArgV K H b (.dict [("s", .tuple [.bool true, .tuple [.str "a"]])])) : ∀ {j : Nat}, j < 8 → ∃ i v, atI [V.int 0, V.int 0, V.int 0, V.int 1, V.int 2, V.int 0, V.int 1, V.int 0] (j : Int) = some (.int i) ∧ atI [.non, a, b] i = some v ∧ ArgV K H v (pbS j)
  | 0, _ => ⟨0, _, rfl, rfl, rfl⟩
  | 1, _ => ⟨0, _, rfl, rfl, rfl⟩
  | 2, _ => ⟨0, _, rfl, rfl, rfl⟩
  | 3, _ => ⟨1, _, rfl, rfl, h1⟩
  | 4, _ => ⟨2, _, rfl, rfl, h2⟩
  | 5, _ => ⟨0, _, rfl, rfl, rfl⟩
  | 6, _ => ⟨1, _, rfl, rfl, h1⟩
  | 7, _ => ⟨0, _, rfl, rfl, rfl⟩
  | j + 8, h => absurd h (by omega)
theorem sc__law_parts_bad : FnScope ["_law_pool_here", "_law_pick", "_law_asked", "_law_boxes", "_law_starts", "_law_due"] ["_law_pool_here"] (defScope s__law_parts_bad) := ⟨rfl, rfl, rfl, by decide +kernel, rfl, by decide +kernel, by decide +kernel⟩
theorem ok_pb {f : Addr} {fd : FuncData} (F : Fun K "_law_parts_bad" "_law_parts_bad" s__law_parts_bad f fd) (c__law_draw : Cal P w K mg base CX0 1 "_law_draw" ["_law_pool_here", "_law_many_here"] spD) : FnOk P w K mg base CX0 2 f fd ["_law_pool_here"] (spPB K) := by
  refine F.ok sc__law_parts_bad (fun vs H Q E h => ?_) (fun cdv A outer s H vs Q E hr h => ?_)
  · obtain ⟨p, rfl, _⟩ := h
    rfl
  · obtain ⟨p, rfl, hp, k⟩ := h
    refine ⟨_, (pss_cons (ps_set (i := 1) sc__law_parts_bad.nd rfl (.inl rfl) (pe_cal c__law_draw (hr.mono (by omega)) rfl pass0 (pa_cons (pv 0) (pa_cons pe_int pa_nil))))
      (Evl.pss_cut (ps_set (i := 2) sc__law_parts_bad.nd rfl (.inl rfl) (pe_ix ix_list (pe_lst (pa_cons pe_non (pa_cons pe_dnewK (pa_cons (pe_disp (pps_cons pe_str (pe_tup (pa_cons pe_str (pa_cons pe_str pa_nil))) pps_nil) (by rfl) (by rfl) (fun z => by cases z) (by decide)) (pa_cons (pe_disp (pps_cons pe_str (pe_lst (pa_cons pe_str pa_nil)) pps_nil) (by rfl) (by rfl) (fun z => by cases z) (by decide)) (pa_cons pe_int pa_nil)))))) (pe_ix ix_list (pe_lst (pa_cons pe_int (pa_cons pe_int (pa_cons pe_int (pa_cons pe_int (pa_cons pe_int (pa_cons pe_int (pa_cons pe_int (pa_cons pe_int pa_nil))))))))) (pv 1) (fun _ _ => rfl)) (fun _ _ => rfl)))
      (Evl.pss_cut (ps_set (i := 3) sc__law_parts_bad.nd rfl (.inl rfl) (pe_ix ix_list (pe_lst (pa_cons pe_non (pa_cons (pe_disp (pps_cons pe_str (pe_tup (pa_cons pe_int (pa_cons (pe_tup (pa_cons pe_str pa_nil)) pa_nil))) pps_nil) (by rfl) (by rfl) (fun z => by cases z) (by decide)) (pa_cons (pe_disp (pps_cons pe_str (pe_tup (pa_cons pe_bl (pa_cons (pe_tup (pa_cons pe_str pa_nil)) pa_nil))) pps_nil) (by rfl) (by rfl) (fun z => by cases z) (by decide)) pa_nil)))) (pe_ix ix_list (pe_lst (pa_cons pe_int (pa_cons pe_int (pa_cons pe_int (pa_cons pe_int (pa_cons pe_int (pa_cons pe_int (pa_cons pe_int (pa_cons pe_int pa_nil))))))))) (pv 1) (fun _ _ => rfl)) (fun _ _ => rfl)))
      (Evl.pss_cut (ps_set (i := 4) sc__law_parts_bad.nd rfl (.inl rfl) (pe_ix ix_list (pe_lst (pa_cons (pe_tup (pa_cons pe_str pa_nil)) (pa_cons (pe_tup pa_nil) (pa_cons (pe_lst (pa_cons pe_str pa_nil)) pa_nil)))) (pe_ix ix_list (pe_lst (pa_cons pe_int (pa_cons pe_int (pa_cons pe_int (pa_cons pe_int (pa_cons pe_int (pa_cons pe_int (pa_cons pe_int (pa_cons pe_int pa_nil))))))))) (pv 1) (fun _ _ => rfl)) (fun _ _ => rfl)))
      (Evl.pss_cut (ps_set (i := 5) sc__law_parts_bad.nd rfl (.inl rfl) (pe_ix ix_list (pe_lst (pa_cons pe_non (pa_cons pe_non (pa_cons pe_str (pa_cons pe_str (pa_cons pe_str (pa_cons pe_str (pa_cons pe_str (pa_cons pe_str pa_nil))))))))) (pv 1) (fun _ _ => rfl)))
      (pss_one (ps_ret (pe_tup (pa_cons (pv 2) (pa_cons (pv 3) (pa_cons (pv 4) (pa_cons (pv 5) pa_nil)))))))))))), ?_⟩
    refine ⟨_, rfl, p, 8, rfl, hp, by decide, by decide, fun pick H1 lo hi but1 pl1 => ?_⟩
    obtain ⟨j, rfl⟩ := Int.eq_ofNat_of_zero_le lo
    have hj : j < 8 := by omega
    refine ⟨fun σ H' => (∃ (av : V) (y3 y4 y5 : Option V), σ = [some (.ref p), some (.int j), some av, y3, y4, y5] ∧ ArgV K H' av (pbA j)) ∧ Same H1 H', ?_, ?_⟩
    · refine fun d0 e0 d1 e1 => ⟨sz2 _ _, fun t1 g1 => ⟨Same.new g1 _ _ upd_same, [(.inr "p", .ref t1)], rfl, (by show 1 ≤ 15; decide), fun d2 e2 => ⟨sz1 _, fun l1 g2 => ⟨Same.new g2 _ _ upd_same, [(.inr "p", .ref l1)], rfl, (by show 1 ≤ 15; decide), sz_lit (by show 5 ≤ 100000; decide), fun l2 h2 => ⟨sz_lit (by show 8 ≤ 100000; decide), fun l3 h3 => ⟨_, rfl, ?_⟩⟩⟩⟩⟩⟩
      have sa := Same.new (o := .dK []) e0
      have sb := disp_same (kvs := mergeK [] [(.inr "p", .ref t1)]) e1 (Same.new (o := .tup [.str "a", .str "a"]) g1)
      have sc := disp_same (kvs := mergeK [] [(.inr "p", .ref l1)]) e2 (Same.new (o := .lst [.str "a"]) g2)
      have sd := Same.new (o := .lst [.non, .ref d0, .ref d1, .ref d2, .int 5]) h2
      have se := Same.new (o := .lst [.int 0, .int 0, .int 0, .int 0, .int 1, .int 2, .int 3, .int 4]) h3
      have r3 := se
      have r2 := sd.trans se
      have r1 := sc.trans r2
      have r0 := sb.trans r1
      have rr := sa.trans r0
      have f0 := r0 d0 _ (at_new (o := .dK []) e0)
      have f1 := r1 d1 (.dK [(.inr "p", .ref t1)]) upd_same
      have ft := r1 t1 _ (disp_keep g1 (at_new (o := .tup [.str "a", .str "a"]) g1))
      have f2 := r2 d2 (.dK [(.inr "p", .ref l1)]) upd_same
      have fl := r2 l1 _ (disp_keep g2 (at_new (o := .lst [.str "a"]) g2))
      have f4 := r3 l2 _ (at_new (o := .lst [.non, .ref d0, .ref d1, .ref d2, .int 5]) h2)
      have f5 := at_new (o := .lst [.int 0, .int 0, .int 0, .int 0, .int 1, .int 2, .int 3, .int 4]) h3
      clear sa sb sc sd se r3 r2 r1 r0 h3 h2 g2 e2 g1 e1 e0
      revert rr f0 f1 ft f2 fl f4 f5
      generalize upd (upd _ l2 _) l3 _ = H4
      intro rr f0 f1 ft f2 fl f4 f5
      obtain ⟨i, v, q1, q2, q3⟩ := pbA_at (K := K) (H := H4) (a := .ref d0) (b := .ref d1) (c := .ref d2) ⟨d0, [], rfl, f0, trivial, .nil⟩ ⟨d1, _, rfl, f1, ⟨rfl, .tup (.inl (.inl ft)) (.cons (.str _) (.cons (.str _) .nil)), trivial⟩, by decide +kernel⟩ ⟨d2, _, rfl, f2, ⟨rfl, .lst (.inl (.inl fl)) (.cons (.str _) .nil), trivial⟩, by decide +kernel⟩ hj
      exact ⟨l3, _, j, .int i, rfl, rfl, .inl (.inl f5), q1, l2, _, i, v, rfl, rfl, .inl (.inl f4), q2, ⟨v, _, _, _, rfl, q3⟩, rr⟩
    rintro σ H2 ⟨⟨av, y3, y4, y5, rfl, ha2⟩, s2⟩
    refine ⟨fun σ H' => (∃ (av sv : V) (y4 y5 : Option V), σ = [some (.ref p), some (.int j), some av, some sv, y4, y5] ∧ ArgV K H' av (pbA j) ∧ ArgV K H' sv (pbS j)) ∧ Same H1 H', ?_, ?_⟩
    · refine fun d1 e1 => ⟨sz1 _, fun t1 g1 => ⟨sz2 _ _, fun t2 g2 => ⟨Same.new g2 _ _ (Same.new g1 _ _ upd_same), [(.inr "s", .ref t2)], rfl, (by show 1 ≤ 15; decide), fun d2 e2 => ⟨sz1 _, fun t3 g3 => ⟨sz2 _ _, fun t4 g4 => ⟨Same.new g4 _ _ (Same.new g3 _ _ upd_same), [(.inr "s", .ref t4)], rfl, (by show 1 ≤ 15; decide), sz_lit (by show 3 ≤ 100000; decide), fun l2 h2 => ⟨sz_lit (by show 8 ≤ 100000; decide), fun l3 h3 => ⟨_, rfl, ?_⟩⟩⟩⟩⟩⟩⟩⟩
      have i1 := Same.new (o := .tup [.str "a"]) g1
      have i2 := Same.new (o := .tup [.int 0, .ref t1]) g2
      have i3 := Same.new (o := .tup [.str "a"]) g3
      have i4 := Same.new (o := .tup [.bl true, .ref t3]) g4
      have sb := disp_same (kvs := mergeK [] [(.inr "s", .ref t2)]) e1 (i1.trans i2)
      have sc := disp_same (kvs := mergeK [] [(.inr "s", .ref t4)]) e2 (i3.trans i4)
      have sd := Same.new (o := .lst [.non, .ref d1, .ref d2]) h2
      have se := Same.new (o := .lst [.int 0, .int 0, .int 0, .int 1, .int 2, .int 0, .int 1, .int 0]) h3
      have r3 := se
      have r2 := sd.trans se
      have r1 := sc.trans r2
      have rr := sb.trans r1
      have f1 := r1 d1 (.dK [(.inr "s", .ref t2)]) upd_same
      have ft1 := r1 t1 _ (disp_keep g1 (i2 _ _ (at_new (o := .tup [.str "a"]) g1)))
      have ft2 := r1 t2 _ (disp_keep (i1.free g2) (at_new (o := .tup [.int 0, .ref t1]) g2))
      have f2 := r2 d2 (.dK [(.inr "s", .ref t4)]) upd_same
      have ft3 := r2 t3 _ (disp_keep g3 (i4 _ _ (at_new (o := .tup [.str "a"]) g3)))
      have ft4 := r2 t4 _ (disp_keep (i3.free g4) (at_new (o := .tup [.bl true, .ref t3]) g4))
      have f4 := r3 l2 _ (at_new (o := .lst [.non, .ref d1, .ref d2]) h2)
      have f5 := at_new (o := .lst [.int 0, .int 0, .int 0, .int 1, .int 2, .int 0, .int 1, .int 0]) h3
      clear sb sc sd se r3 r2 r1 i1 i2 i3 i4 h3 h2 g4 g3 e2 g2 g1 e1
      revert rr f1 ft1 ft2 f2 ft3 ft4 f4 f5
      generalize upd (upd _ l2 _) l3 _ = H4
      intro rr f1 ft1 ft2 f2 ft3 ft4 f4 f5
      obtain ⟨i, v, q1, q2, q3⟩ := pbS_at (K := K) (H := H4) (a := .ref d1) (b := .ref d2) ⟨d1, _, rfl, f1, ⟨rfl, .tup (.inl (.inl ft2)) (.cons (.int _) (.cons (.tup (.inl (.inl ft1)) (.cons (.str _) .nil)) .nil)), trivial⟩, by decide +kernel⟩ ⟨d2, _, rfl, f2, ⟨rfl, .tup (.inl (.inl ft4)) (.cons (.bl _) (.cons (.tup (.inl (.inl ft3)) (.cons (.str _) .nil)) .nil)), trivial⟩, by decide +kernel⟩ hj
      exact ⟨l3, _, j, .int i, rfl, rfl, .inl (.inl f5), q1, l2, _, i, v, rfl, rfl, .inl (.inl f4), q2, ⟨av, v, _, _, rfl, ha2.mono rr, q3⟩, s2.trans rr⟩
    rintro σ H3 ⟨⟨av, sv, y4, y5, rfl, ha3, hs3⟩, s3⟩
    refine ⟨fun σ H' => (∃ (av sv iv : V) (y5 : Option V), σ = [some (.ref p), some (.int j), some av, some sv, some iv, y5] ∧ ArgV K H' av (pbA j) ∧ ArgV K H' sv (pbS j) ∧ Dp K H' iv (pbI j)) ∧ Same H1 H', ?_, ?_⟩
    · refine ⟨sz1 _, fun t1 g1 => ⟨sz_lit (by show 0 ≤ 100000; decide), fun t2 g2 => ⟨sz1 _, fun l1 h1 => ⟨sz_lit (by show 3 ≤ 100000; decide), fun l2 h2 => ⟨sz_lit (by show 8 ≤ 100000; decide), fun l3 h3 => ⟨_, rfl, ?_⟩⟩⟩⟩⟩⟩
      have a1 := Same.new (o := .tup [.str "go"]) g1
      have a2 := Same.new (o := .tup []) g2
      have a3 := Same.new (o := .lst [.str "go"]) h1
      have a4 := Same.new (o := .lst [.ref t1, .ref t2, .ref l1]) h2
      have a5 := Same.new (o := .lst [.int 0, .int 0, .int 1, .int 0, .int 2, .int 1, .int 0, .int 0]) h3
      have b4 := a5
      have b3 := a4.trans b4
      have b2 := a3.trans b3
      have b1 := a2.trans b2
      have b0 := a1.trans b1
      have f1 := b1 t1 _ (at_new (o := .tup [.str "go"]) g1)
      have f2 := b2 t2 _ (at_new (o := .tup []) g2)
      have f3 := b3 l1 _ (at_new (o := .lst [.str "go"]) h1)
      have f4 := b4 l2 _ (at_new (o := .lst [.ref t1, .ref t2, .ref l1]) h2)
      have f5 := at_new (o := .lst [.int 0, .int 0, .int 1, .int 0, .int 2, .int 1, .int 0, .int 0]) h3
      clear a1 a2 a3 a4 a5 b1 b2 b3 b4 h3 h2 h1 g2 g1
      revert b0 f1 f2 f3 f4 f5
      generalize upd (upd _ l2 _) l3 _ = H4
      intro b0 f1 f2 f3 f4 f5
      obtain ⟨i, v, e1, e2, e3⟩ := pbI_at (K := K) (H := H4) (a := .ref t1) (b := .ref t2) (c := .ref l1) (.tup (.inl (.inl f1)) (.cons (.str _) .nil)) (.tup (xs := []) (.inl (.inl f2)) .nil) (.lst (.inl (.inl f3)) (.cons (.str _) .nil)) hj
      exact ⟨l3, _, j, .int i, rfl, rfl, .inl (.inl f5), e1, l2, _, i, v, rfl, rfl, .inl (.inl f4), e2, ⟨av, sv, v, _, rfl, ha3.mono b0, hs3.mono b0, e3⟩, s3.trans b0⟩
    rintro σ H4 ⟨⟨av, sv, iv, y5, rfl, ha4, hs4, hi4⟩, s4⟩
    refine ⟨fun σ H' => (∃ (av sv iv dv : V), σ = [some (.ref p), some (.int j), some av, some sv, some iv, some dv] ∧ ArgV K H' av (pbA j) ∧ ArgV K H' sv (pbS j) ∧ Dp K H' iv (pbI j) ∧ Dp K H' dv (pbD j)) ∧ Same H1 H', ?_, ?_⟩
    · refine ⟨sz_lit (by show 8 ≤ 100000; decide), fun l hl => ⟨_, rfl, ?_⟩⟩
      have sl := Same.new (o := .lst [.non, .non, .str "inputs", .str "signals", .str "signals", .str "asks", .str "asks", .str "asks"]) hl
      obtain ⟨dv, h1, h2⟩ := pbD_at K hj
      exact ⟨l, _, j, dv, rfl, rfl, .inl (.inl upd_same), h1, ⟨av, sv, iv, dv, rfl, ha4.mono sl, hs4.mono sl, hi4.mono sl, h2 _⟩, s4.trans sl⟩
    rintro σ H5 ⟨⟨av, sv, iv, dv, rfl, ha5, hs5, hi5, hd5⟩, s5⟩
    refine ⟨_, rfl, _, rfl, _, rfl, _, rfl, sz_lit (by show 4 ≤ 100000; decide), fun t ht => ?_⟩
    have s6 := Same.new (o := .tup [av, sv, iv, dv]) ht
    exact k j _ _ hj (but1.trans (Same.but (s5.trans s6))) (pl1.mono (s5.trans s6)) ⟨t, av, sv, iv, dv, rfl, .inl (.inl upd_same), ha5.mono s6, hs5.mono s6, hi5.mono s6, hd5.mono s6⟩
end
end Op
namespace L2
open PySem PySem.Spec PyProof.Rows
/-- a class by its name, made with keywords -/
def KcalN (P : Program) (w : World) (K : PySem.W.Frag) (mg : Str → Option Value) (base : Heap) (CX : CXT) (k : Nat) (x : Str) (C : Addr) (ps : List Str) (n : Nat) (ks : List Str) (sp : Sp) : Prop :=
  ∃ (f : Addr) (fd : FuncData) (g : List Value → List Value → List Value), Mk K C f ∧ mg x = some (.ref C) ∧ KBn K fd ps (n + 1) ks g (fun vs zs => vs ++ zs) ∧ FnOk P w K mg base CX k f fd ps sp
theorem pe_kcalN {X : Cx} {CX : CXT} {k n : Nat} {x : Str} {C : Addr} {ps ks : List Str} {sp : Sp} {E : XK} {p pos : Pos} {e : Expr} {es : List Expr} {kws : List Keyword} {t tk : TA} (c : KcalN X.prog X.w X.K X.mg X.base CX k x C ps n ks sp) (hr : Room (k + 1) X.A) (hg : Gl X x) (hx : Passes CX X E) (ha : PA X (e :: es) t) (hkw : PK X kws tk)
    (hall : (backToKw pos (keywordEach kws X.env)).all (·.1.isSome) = true := by rfl) (hks : (backToKw pos (keywordEach kws X.env)).filterMap (·.1) = ks := by rfl) (hdb : (x == ("__debug__" : Str)) = false := by decide)
    (he : starEach (e :: es) X.env = (false, eval e X.env) :: starEach es X.env := by rfl) (hpl : ((backTo pos (starEach (e :: es) X.env)).any (·.1) || (backToKw pos (keywordEach kws X.env)).any (·.1.isNone)) = false := by rfl) :
    PE X (.Call (.Name x p) (e :: es) kws pos) (tMakeK C n ks.length sp (fun vs zs => vs ++ zs) E t tk) := by
  obtain ⟨f, fd, g, h1, h2, h3, h4⟩ := c
  exact pe_makeK h1 h4 hr hg h2 h3 hx ha hkw hall hks hdb he hpl
/-- what a callee may let out is taken, whatever the names hold -/
theorem passes_len {X : Cx} {W : WX} {E : XK} (tk : Takes X W) (hW : ∀ cls d σ H, σ.length = X.N.length → E cls d H → W cls d σ H) : Passes (L2.CX X.prog X.w) X E :=
  fun _ σ _ _ e s' I c => tk e s' (XE.of_call I (fun cls d H' h => hW cls d σ H' I.len h) c)
end L2
namespace Op
open PySem L2 PyProof.Rows
section
variable {P : Program} {w : World} {K : PySem.W.Frag} {mg : Str → Option Value} {base : Heap} {pS CI CE CP : Addr}
/-- what fault tells -/
def toldD : Except (Str × List Int) Chk → PyData
  | .ok _ => .tuple [.str "none", .none]
  | .error (part, path) => .tuple [.str part, .tuple (path.map .int)]
def spFault (K : PySem.W.Frag) : Sp := fun vs H Q _ => ∃ (rv av sv iv : V) (ed : Bool) (asks sigs : ArgD) (ins rows : PyData), vs = [rv, av, sv, iv, .bl ed] ∧ ArgV K H av asks ∧ ArgV K H sv sigs ∧ argSmall asks ∧ argSmall sigs ∧ Dp K H iv ins ∧ Dp K H rv rows ∧ small ins = true ∧ wt rows ≤ 30000 ∧ (ed = false → ∃ part path, progCheck false asks sigs ins rows = .error (part, path)) ∧
  ∀ v H', Fr (argL av ++ argL sv) H H' → Dp K H' v (toldD (progCheck ed asks sigs ins rows)) → Q v H'
theorem set_at {σ : L2.St} {v : V} (h : σ.length = 7) : (σ.set 6 (some v))[6]? = some (some v) := by
  rw [List.getElem?_set_self (by omega)]
theorem set_at5 {σ : L2.St} {v u : V} (h : σ.length = 7) : (((σ.set 6 (some v)).set 5 (some u)).set 6 none)[5]? = some (some u) := by
  rw [List.getElem?_set_ne (by decide), List.getElem?_set_self (by rw [List.length_set]; omega)]
theorem sc__law_fault : FnScope ["_law_rows", "_law_asked", "_law_boxes", "_law_starts", "_law_edits", "_law_told", "e"] ["_law_rows", "_law_asked", "_law_boxes", "_law_starts", "_law_edits"] (defScope s__law_fault) := ⟨rfl, rfl, rfl, by decide +kernel, rfl, by decide +kernel, by decide +kernel⟩
theorem ok_fault {f : Addr} {fd : FuncData} (F : Fun K "_law_fault" "_law_fault" s__law_fault f fd) (T : TxtC P w K mg pS CI) (xf : XfC K CI) (n1 : PySem.W.findIn K (.ref CI) "part" = some none) (n2 : PySem.W.findIn K (.ref CI) "path" = some none) (hex : PySem.W.exmOne K (.ref CI) (.ref CI) = some true)
    (k_Edited : KcalN P w K mg base (L2.CX P w) 13 "Edited" CE ["self", "rows", "asks", "signals", "inputs"] 1 ["asks", "signals", "inputs"] (spEdited K CE CI true)) (k_Program : KcalN P w K mg base (L2.CX P w) 13 "Program" CP ["self", "rows", "asks", "signals", "inputs"] 1 ["asks", "signals", "inputs"] (spProgBad K CP CI)) :
    FnOk P w K mg base CX0 15 f fd ["_law_rows", "_law_asked", "_law_boxes", "_law_starts", "_law_edits"] (spFault K) := by
  refine F.ok sc__law_fault (fun vs H Q E h => ?_) (fun cdv A outer s H vs Q E hr h => ?_)
  · obtain ⟨rv, av, sv, iv, ed, asks, sigs, ins, rows, rfl, _⟩ := h
    rfl
  · obtain ⟨rv, av, sv, iv, ed, asks, sigs, ins, rows, rfl, ha, hs, sa, ss, hi, hrw, hsi, hwr, hbad, k⟩ := h
    refine ⟨_, (pss_cons (ps_set (i := 5) sc__law_fault.nd rfl (.inl rfl) (pe_tup (pa_cons pe_str (pa_cons pe_non pa_nil))))
      (pss_cons (ps_try_as (i := 6) rfl rfl sc__law_fault.nd rfl rfl ⟨rfl, by decide, .inl T.g_InvalidProgram⟩ takes0
        (fun W pn xe tk own => pss_one (ps_if (pt_val (pv 4)) (pss_one (ps_expr (pe_kcalN k_Edited hr rfl (passes_len (E := fun cls d H => ∀ σ : L2.St, σ.length = 7 → W cls d σ H) tk (fun _ _ σ _ hl h => h σ hl)) (pa_cons (pv 0) pa_nil) (pk_cons (pv 1) (pk_cons (pv 2) (pk_cons (pv 3) pk_nil)))))) (pss_one (ps_expr (pe_kcalN k_Program hr rfl (passes_len (E := fun cls d H => ∀ σ : L2.St, σ.length = 7 → W cls d σ H) tk (fun _ _ σ _ hl h => h σ hl)) (pa_cons (pv 0) pa_nil) (pk_cons (pv 1) (pk_cons (pv 2) (pk_cons (pv 3) pk_nil))))))))
        (fun a oe cls d pn hz hf => pss_one (ps_set (i := 5) sc__law_fault.nd rfl (.inl rfl) (pe_tup (pa_cons (pe_xf xf n1 hz hf (pv 6)) (pa_cons (pe_xf xf n2 hz hf (pv 6)) pa_nil))))))
      (pss_one (ps_ret (pv 5))))), ?_⟩
    refine ⟨sz2 _ _, fun t0 g0 => ?_⟩
    have s1 := Same.new (o := .tup [.str "none", .non]) g0
    have l1 := at_new (o := .tup [.str "none", .non]) g0
    revert s1 l1
    generalize upd _ t0 _ = H1
    intro s1 l1
    refine ⟨_, rfl, ed, rfl, ?_⟩
    cases ed with
    | true =>
      refine ifT rfl ⟨_, rfl, _, rfl, _, rfl, _, rfl, rfl, rfl, fun x dx hx hdx hne => ?_⟩
      have s2 : Same H1 (upd (upd H1 dx (.own x)) x (.ins CE dx [])) := (Same.new hdx).trans (Same.new (by rw [upd_ne hne.symm]; exact hx))
      have x2 : upd (upd H1 dx (.own x)) x (.ins CE dx []) x = some (.ins CE dx []) := upd_same
      revert s2 x2
      generalize upd (upd H1 dx (.own x)) x (.ins CE dx []) = H2
      intro s2 x2
      have s12 := s1.trans s2
      have hxH : ∀ b o, H1 b = some o → b ≠ x := fun b o hb e => by rw [e, hx] at hb; cases hb
      refine ⟨x, dx, rv, av, sv, iv, asks, sigs, ins, rows, rfl, x2, ha.mono s12, hs.mono s12, sa, ss, hi.mono s12, hrw.mono s12, hsi, hwr, fun c hc H3 but => ⟨rfl, _, rfl, ?_⟩, fun part path he H3 d fr hxp σ hl => ?_⟩
      · refine k _ _ (fun b o hb _ => but b o (s12 b o hb) (hxH b o (s1 b o hb))) ?_
        rw [hc]
        exact .tup (.inl (.inl (but t0 _ (s2 _ _ l1) (hxH _ _ l1)))) (.cons (.str _) (.cons .non .nil))
      · obtain ⟨tp, hd3, htp⟩ := hxp
        refine ⟨true, hex, fun _ a hfree => ?_, nofun⟩
        refine ⟨.ref a, set_at hl, rfl, rfl, d, _, _, rfl, hd3, rfl, .ref a, set_at hl, rfl, rfl, d, _, _, rfl, hd3, rfl, sz2 _ _, fun q hq => ?_⟩
        have s4 := Same.new (o := .tup [.str part, .ref tp]) hq
        refine ⟨.ref q, set_at5 hl, k _ _ (fun b o hb hn => s4 b o (fr b o (s12 b o hb) fun m => ?_)) ?_⟩
        · rcases List.mem_cons.mp m with e | m
          · exact hxH b o (s1 b o hb) e
          · exact hn m
        · rw [he]
          exact .tup (.inl (.inl upd_same)) (.cons (.str _) (.cons (.tup (htp.mono s4) (dp_ints path)) .nil))
    | false =>
      refine ifF rfl ⟨_, rfl, _, rfl, _, rfl, _, rfl, rfl, rfl, fun x dx hx hdx hne => ?_⟩
      have s2 : Same H1 (upd (upd H1 dx (.own x)) x (.ins CP dx [])) := (Same.new hdx).trans (Same.new (by rw [upd_ne hne.symm]; exact hx))
      have x2 : upd (upd H1 dx (.own x)) x (.ins CP dx []) x = some (.ins CP dx []) := upd_same
      revert s2 x2
      generalize upd (upd H1 dx (.own x)) x (.ins CP dx []) = H2
      intro s2 x2
      have s12 := s1.trans s2
      have hxH : ∀ b o, H1 b = some o → b ≠ x := fun b o hb e => by rw [e, hx] at hb; cases hb
      refine ⟨x, dx, rv, av, sv, iv, asks, sigs, ins, rows, rfl, x2, ha.mono s12, hs.mono s12, sa, ss, hi.mono s12, hrw.mono s12, hsi, hwr, hbad rfl, fun part path he H3 d fr hxp σ hl => ?_⟩
      · obtain ⟨tp, hd3, htp⟩ := hxp
        refine ⟨true, hex, fun _ a hfree => ?_, nofun⟩
        refine ⟨.ref a, set_at hl, rfl, rfl, d, _, _, rfl, hd3, rfl, .ref a, set_at hl, rfl, rfl, d, _, _, rfl, hd3, rfl, sz2 _ _, fun q hq => ?_⟩
        have s4 := Same.new (o := .tup [.str part, .ref tp]) hq
        refine ⟨.ref q, set_at5 hl, k _ _ (fun b o hb hn => s4 b o (fr b o (s12 b o hb) fun m => ?_)) ?_⟩
        · rcases List.mem_cons.mp m with e | m
          · exact hxH b o (s1 b o hb) e
          · exact hn m
        · rw [he]
          exact .tup (.inl (.inl upd_same)) (.cons (.str _) (.cons (.tup (htp.mono s4) (dp_ints path)) .nil))
end
end Op
namespace Op
open PySem L2 PyProof.Rows
/-! ### the check of single rows -/
section
variable {E : Env0} {c : Chk} {kind sh : Str} {parts : List PyData} {depth : Int} {lp : Bool} {rec : Bool → List PyData → List Int → Chk → Out} {pre : List Int} {i : Nat}
theorem row_ok (h1 : shapes.lookup kind = some sh) (h2 : ¬ (kind = "edit" ∧ E.we = false)) (h3 : kind ≠ "leave") (h4 : parts.length = sh.length) (h5 : (hasC 98 sh || hasC 116 sh) = true → depth < 5) (h6 : fitAll E sh parts = true) (h7 : idFits c kind parts = true) :
    chkRow rec E depth lp pre (.tuple (.str kind :: parts)) i c = chkIn (rec (inside lp kind)) (pre ++ [(i : Int)]) (innerL kind parts) 0 (collect { c with total := c.total + 1 } kind sh parts) := by
  have hf : fits E c (.tuple (.str kind :: parts)) depth lp = true := by
    show (match shapes.lookup kind with | none => false | some sh => fitRow E c kind parts depth lp sh) = true
    rw [h1]
    show fitRow E c kind parts depth lp sh = true
    unfold fitRow
    rw [if_neg h2, if_neg (fun z => h3 z.1), if_neg (fun z => z h4), if_neg (fun z => by have := z.2; have := h5 z.1; omega), if_pos h6]
    exact h7
  show (if fits E c (.tuple (.str kind :: parts)) depth lp = true then chkIn (rec (inside lp kind)) (pre ++ [(i : Int)]) (innerL kind parts) 0 (collect { c with total := c.total + 1 } kind (shapeOf kind) parts) else .error (pre ++ [(i : Int)])) = _
  rw [if_pos hf]
  have e : shapeOf kind = sh := by unfold shapeOf; rw [h1]; rfl
  rw [e]
theorem row_bad {d : PyData} (h : fits E c d depth lp = false) : chkRow rec E depth lp pre d i c = .error (pre ++ [(i : Int)]) := by
  unfold chkRow
  split
  · rw [h]
    rfl
  · rfl
theorem fits_bad (h1 : shapes.lookup kind = some sh) (h : fitRow E c kind parts depth lp sh = false) : fits E c (.tuple (.str kind :: parts)) depth lp = false := by
  show (match shapes.lookup kind with | none => false | some sh => fitRow E c kind parts depth lp sh) = false
  rw [h1]
  exact h
end
theorem rows_app {row : PyData → Nat → Chk → Out} : ∀ (a b : List PyData) (i : Nat) (c : Chk), chkRows row (a ++ b) i c = contR (fun c' => chkRows row b (i + a.length) c') (chkRows row a i c)
  | [], b, i, c => rfl
  | d :: r, b, i, c => by
    show contR (fun c' => chkRows row (r ++ b) (i + 1) c') (row d i c) = _
    show _ = contR _ (contR (fun c' => chkRows row r (i + 1) c') (row d i c))
    cases row d i c with
    | error p => rfl
    | ok c' =>
      show chkRows row (r ++ b) (i + 1) c' = contR _ (chkRows row r (i + 1) c')
      rw [rows_app r b (i + 1) c', List.length_cons, show i + 1 + r.length = i + (r.length + 1) by omega]
/-! ### words -/
theorem ne_in {z : Str} (h : nameOk z) : ¬ z = "in" := fun e => h.2 (by rw [e]; decide +kernel)
theorem fit_sw {E : Env0} {s v : Str} (h1 : isWordS s = true) (h2 : ¬ s = "in") (h3 : isWordS v = true) : fitAll E "sw" [.str s, .str v] = true := by
  show (partFits E ⟨#[115]⟩ (.str s) && (partFits E ⟨#[119]⟩ (.str v) && true)) = true
  have a : partFits E ⟨#[115]⟩ (.str s) = (isWordS s && !decide (s = "in")) := by
    unfold partFits
    rw [if_neg (by decide +kernel), if_neg (by decide +kernel), if_pos (by decide +kernel)]
    rfl
  have b : partFits E ⟨#[119]⟩ (.str v) = isWordS v := by
    unfold partFits
    rw [if_neg (by decide +kernel), if_neg (by decide +kernel), if_neg (by decide +kernel), if_neg (by decide +kernel), if_neg (by decide +kernel), if_neg (by decide +kernel)]
    rfl
  rw [a, b, h1, h3, decide_eq_false h2]
  rfl
theorem pf_i {E : Env0} {d : PyData} : partFits E ⟨#[105]⟩ d = isWord d := by
  unfold partFits
  rw [if_neg (by decide +kernel), if_neg (by decide +kernel), if_neg (by decide +kernel), if_neg (by decide +kernel), if_neg (by decide +kernel), if_neg (by decide +kernel)]
theorem pf_l {E : Env0} {d : PyData} : partFits E ⟨#[108]⟩ d = isWord d := by
  unfold partFits
  rw [if_neg (by decide +kernel), if_neg (by decide +kernel), if_neg (by decide +kernel), if_neg (by decide +kernel), if_neg (by decide +kernel), if_neg (by decide +kernel)]
theorem pf_b {E : Env0} {d : PyData} : partFits E ⟨#[98]⟩ d = isList d := by
  unfold partFits
  rw [if_neg (by decide +kernel), if_neg (by decide +kernel), if_neg (by decide +kernel), if_neg (by decide +kernel), if_pos (by decide +kernel)]
theorem pf_s {E : Env0} {d : PyData} : partFits E ⟨#[115]⟩ d = (isWord d && !decide (strOf d = "in")) := by
  unfold partFits
  rw [if_neg (by decide +kernel), if_neg (by decide +kernel), if_pos (by decide +kernel)]
theorem pf_t {E : Env0} {d : PyData} : partFits E ⟨#[116]⟩ d = isBranches d := by
  unfold partFits
  rw [if_neg (by decide +kernel), if_neg (by decide +kernel), if_neg (by decide +kernel), if_neg (by decide +kernel), if_neg (by decide +kernel), if_pos (by decide +kernel)]
/-! ### what is collected -/
theorem cp_s {kind s : Str} {c : Chk} (h : ¬ s = "in") : colPart kind c ⟨#[115]⟩ (.str s) = { c with slots := putW c.slots s } := by
  unfold colPart
  rw [if_neg (by decide +kernel), if_neg (by decide +kernel), if_pos ⟨by decide +kernel, h⟩]
  rfl
theorem cp_w {kind : Str} {d : PyData} {c : Chk} : colPart kind c ⟨#[119]⟩ d = c := by
  unfold colPart
  rw [if_neg (by decide +kernel), if_neg (by decide +kernel), if_neg (fun z => absurd z.1 (by decide +kernel)), if_neg (fun z => absurd z.1 (by decide +kernel)), if_neg (by decide +kernel)]
theorem cp_b {kind : Str} {d : PyData} {c : Chk} : colPart kind c ⟨#[98]⟩ d = c := by
  unfold colPart
  rw [if_neg (by decide +kernel), if_neg (by decide +kernel), if_neg (fun z => absurd z.1 (by decide +kernel)), if_neg (fun z => absurd z.1 (by decide +kernel)), if_neg (by decide +kernel)]
theorem cp_t {kind : Str} {d : PyData} {c : Chk} : colPart kind c ⟨#[116]⟩ d = c := by
  unfold colPart
  rw [if_neg (by decide +kernel), if_neg (by decide +kernel), if_neg (fun z => absurd z.1 (by decide +kernel)), if_neg (fun z => absurd z.1 (by decide +kernel)), if_neg (by decide +kernel)]
theorem cp_l {kind s : Str} {c : Chk} : colPart kind c ⟨#[108]⟩ (.str s) = { c with labels := putW c.labels s } := by
  unfold colPart
  rw [if_pos (by decide +kernel)]
  rfl
theorem cp_ie {s : Str} {c : Chk} : colPart "edit" c ⟨#[105]⟩ (.str s) = { c with edits := putW c.edits s } := by
  unfold colPart
  rw [if_neg (by decide +kernel), if_neg (by decide +kernel), if_neg (fun z => absurd z.1 (by decide +kernel)), if_pos (by decide +kernel)]
  rfl
theorem cp_ig {kind s : Str} {c : Chk} (h : ¬ kind = "edit") : colPart kind c ⟨#[105]⟩ (.str s) = { c with gates := putW c.gates s } := by
  unfold colPart
  rw [if_neg (by decide +kernel), if_neg (by decide +kernel), if_neg (fun z => absurd z.1 (by decide +kernel)), if_neg (fun z => h z.2), if_pos (by decide +kernel)]
  rfl
theorem chkL_nil {E : Env0} {n : Nat} {lp : Bool} {pre : List Int} {c : Chk} : chkL E n lp [] pre c = .ok c := by
  cases n <;> rfl
section
variable {E : Env0} {c : Chk} {depth : Int} {lp : Bool} {rec : Bool → List PyData → List Int → Chk → Out} {pre : List Int} {i : Nat}
theorem row_put {s v : Str} (h1 : isWordS s = true) (h2 : ¬ s = "in") (h3 : isWordS v = true) : chkRow rec E depth lp pre (dPut s v) i c = .ok { c with total := c.total + 1, slots := putW c.slots s } := by
  unfold dPut
  rw [row_ok (sh := "sw") (by decide +kernel) (fun z => absurd z.1 (by decide +kernel)) (by decide +kernel) (by show 2 = _; decide +kernel) (fun z => absurd z (by decide +kernel)) (fit_sw h1 h2 h3) (by unfold idFits; rw [if_neg (by decide +kernel), if_neg (by decide +kernel)])]
  show Except.ok (colPart "put" (colPart "put" { c with total := c.total + 1 } ⟨#[115]⟩ (.str s)) ⟨#[119]⟩ (.str v)) = _
  rw [cp_w, cp_s h2]
theorem row_part {ds : List PyData} (h5 : depth < 5) : chkRow rec E depth lp pre (.tuple [.str "part", .list ds]) i c = contR .ok (rec (inside lp "part") ds (pre ++ [(i : Int)] ++ [0]) { c with total := c.total + 1 }) := by
  rw [row_ok (sh := "b") (by decide +kernel) (fun z => absurd z.1 (by decide +kernel)) (by decide +kernel) (by show 1 = _; decide +kernel) (fun _ => h5) (by show (partFits E ⟨#[98]⟩ (.list ds) && true) = true; rw [pf_b]; rfl) (by unfold idFits; rw [if_neg (by decide +kernel), if_neg (by decide +kernel)])]
  show chkIn _ _ [.list ds] 0 (colPart "part" { c with total := c.total + 1 } ⟨#[98]⟩ (.list ds)) = _
  rw [cp_b]
  show contR (fun c' => .ok c') (rec (inside lp "part") ds (pre ++ [(i : Int)] ++ [0]) { c with total := c.total + 1 }) = _
  cases rec (inside lp "part") ds (pre ++ [(i : Int)] ++ [0]) { c with total := c.total + 1 } <;> rfl
theorem row_loop {ds : List PyData} (h5 : depth < 5) : chkRow rec E depth lp pre (.tuple [.str "loop", .list ds]) i c = contR .ok (rec (inside lp "loop") ds (pre ++ [(i : Int)] ++ [0]) { c with total := c.total + 1 }) := by
  rw [row_ok (sh := "b") (by decide +kernel) (fun z => absurd z.1 (by decide +kernel)) (by decide +kernel) (by show 1 = _; decide +kernel) (fun _ => h5) (by show (partFits E ⟨#[98]⟩ (.list ds) && true) = true; rw [pf_b]; rfl) (by unfold idFits; rw [if_neg (by decide +kernel), if_neg (by decide +kernel)])]
  show chkIn _ _ [.list ds] 0 (colPart "loop" { c with total := c.total + 1 } ⟨#[98]⟩ (.list ds)) = _
  rw [cp_b]
  show contR (fun c' => .ok c') (rec (inside lp "loop") ds (pre ++ [(i : Int)] ++ [0]) { c with total := c.total + 1 }) = _
  cases rec (inside lp "loop") ds (pre ++ [(i : Int)] ++ [0]) { c with total := c.total + 1 } <;> rfl
theorem fit_ibb {E : Env0} {w : Str} {a b : List PyData} (h : isWordS w = true) : fitAll E "ibb" [.str w, .list a, .list b] = true := by
  show (partFits E ⟨#[105]⟩ (.str w) && (partFits E ⟨#[98]⟩ (.list a) && (partFits E ⟨#[98]⟩ (.list b) && true))) = true
  rw [pf_i, pf_b, pf_b]
  show (isWordS w && _) = true
  rw [h]
  rfl
theorem fit_ib {E : Env0} {w : Str} {a : List PyData} (h : isWordS w = true) : fitAll E "ib" [.str w, .list a] = true := by
  show (partFits E ⟨#[105]⟩ (.str w) && (partFits E ⟨#[98]⟩ (.list a) && true)) = true
  rw [pf_i, pf_b]
  show (isWordS w && _) = true
  rw [h]
  rfl
/-- a gate row -/
theorem row_gateL {w : Str} {b : List PyData} (hrec : ∀ lp pre c, rec lp [] pre c = .ok c) (h5 : depth < 5) (hw : isWordS w = true) (hn : w ∉ c.edits) : chkRow rec E depth lp pre (.tuple [.str "gate", .str w, .list [], .list b]) i c = contR .ok (rec (inside lp "gate") b (pre ++ [(i : Int)] ++ [1]) { c with total := c.total + 1, gates := putW c.gates w }) := by
  rw [row_ok (sh := "ibb") (by decide +kernel) (fun z => absurd z.1 (by decide +kernel)) (by decide +kernel) (by show 3 = _; decide +kernel) (fun _ => h5) (fit_ibb hw) (by
    unfold idFits
    rw [if_neg (by decide +kernel), if_pos (by decide +kernel)]
    show (!decide (w ∈ c.edits)) = true
    rw [decide_eq_false hn]
    rfl)]
  show chkIn _ _ [.list [], .list b] 0 (colPart "gate" (colPart "gate" (colPart "gate" { c with total := c.total + 1 } ⟨#[105]⟩ (.str w)) ⟨#[98]⟩ (.list [])) ⟨#[98]⟩ (.list b)) = _
  rw [cp_b, cp_b, cp_ig (by decide +kernel)]
  show contR (fun c' => contR (fun c' => .ok c') (rec (inside lp "gate") b (pre ++ [(i : Int)] ++ [1]) c')) (rec (inside lp "gate") [] (pre ++ [(i : Int)] ++ [0]) _) = _
  rw [hrec]
  show contR (fun c' => .ok c') (rec (inside lp "gate") b (pre ++ [(i : Int)] ++ [1]) _) = _
  cases rec (inside lp "gate") b (pre ++ [(i : Int)] ++ [1]) { c with total := c.total + 1, gates := putW c.gates w } <;> rfl
theorem row_past {w : Str} (hrec : ∀ lp pre c, rec lp [] pre c = .ok c) (h5 : depth < 5) (hw : isWordS w = true) (hn : w ∉ c.edits) : chkRow rec E depth lp pre (dPast w) i c = .ok { c with total := c.total + 1, gates := putW c.gates w } := by
  unfold dPast
  rw [row_ok (sh := "ib") (by decide +kernel) (fun z => absurd z.1 (by decide +kernel)) (by decide +kernel) (by show 2 = _; decide +kernel) (fun _ => h5) (fit_ib hw) (by
    unfold idFits
    rw [if_neg (by decide +kernel), if_pos (by decide +kernel)]
    show (!decide (w ∈ c.edits)) = true
    rw [decide_eq_false hn]
    rfl)]
  show chkIn _ _ [.list []] 0 (colPart "past" (colPart "past" { c with total := c.total + 1 } ⟨#[105]⟩ (.str w)) ⟨#[98]⟩ (.list [])) = _
  rw [cp_b, cp_ig (by decide +kernel)]
  show contR (fun c' => .ok c') (rec (inside lp "past") [] (pre ++ [(i : Int)] ++ [0]) _) = _
  rw [hrec]
  rfl
theorem row_gate {w : Str} (hrec : ∀ lp pre c, rec lp [] pre c = .ok c) (h5 : depth < 5) (hw : isWordS w = true) (hn : w ∉ c.edits) : chkRow rec E depth lp pre (dGate w) i c = .ok { c with total := c.total + 1, gates := putW c.gates w } := by
  unfold dGate
  rw [row_gateL hrec h5 hw hn, hrec]
  rfl
theorem row_both {b : List PyData} (hrec : ∀ lp pre c, rec lp [] pre c = .ok c) (h5 : depth < 5) : chkRow rec E depth lp pre (.tuple [.str "both", .tuple [.list [], .list b]]) i c = contR .ok (rec (inside lp "both") b (pre ++ [(i : Int)] ++ [1]) { c with total := c.total + 1 }) := by
  rw [row_ok (sh := "t") (by decide +kernel) (fun z => absurd z.1 (by decide +kernel)) (by decide +kernel) (by show 1 = _; decide +kernel) (fun _ => h5) (by
    show (partFits E ⟨#[116]⟩ (.tuple [.list [], .list b]) && true) = true
    rw [pf_t]
    rfl) (by unfold idFits; rw [if_neg (by decide +kernel), if_neg (by decide +kernel)])]
  show chkIn _ _ [.list [], .list b] 0 (colPart "both" { c with total := c.total + 1 } ⟨#[116]⟩ (.tuple [.list [], .list b])) = _
  rw [cp_t]
  show contR (fun c' => contR (fun c' => .ok c') (rec (inside lp "both") b (pre ++ [(i : Int)] ++ [1]) c')) (rec (inside lp "both") [] (pre ++ [(i : Int)] ++ [0]) _) = _
  rw [hrec]
  show contR (fun c' => .ok c') (rec (inside lp "both") b (pre ++ [(i : Int)] ++ [1]) _) = _
  cases rec (inside lp "both") b (pre ++ [(i : Int)] ++ [1]) { c with total := c.total + 1 } <;> rfl
theorem row_drop {w : Str} (hw : isWordS w = true) : chkRow rec E depth lp pre (.tuple [.str "drop", .str w]) i c = .ok { c with total := c.total + 1, labels := putW c.labels w } := by
  rw [row_ok (sh := "l") (by decide +kernel) (fun z => absurd z.1 (by decide +kernel)) (by decide +kernel) (by show 1 = _; decide +kernel) (fun z => absurd z (by decide +kernel)) (by
    show (partFits E ⟨#[108]⟩ (.str w) && true) = true
    rw [pf_l]
    show (isWordS w && true) = true
    rw [hw]
    rfl) (by unfold idFits; rw [if_neg (by decide +kernel), if_neg (by decide +kernel)])]
  show Except.ok (colPart "drop" { c with total := c.total + 1 } ⟨#[108]⟩ (.str w)) = _
  rw [cp_l]
end
theorem row_edit {E : Env0} {c : Chk} {depth : Int} {lp : Bool} {n : Nat} {pre : List Int} {i : Nat} {w : Str} (he : E.we = true) (h5 : depth < 5) (hn0 : 1 ≤ n) (hw : isWordS w = true) (h1 : w ∉ c.edits) (h2 : w ∉ c.gates) : chkRow (chkL E n) E depth lp pre (dEdit w) i c = .ok { c with total := c.total + 2, slots := putW c.slots "x", edits := putW c.edits w } := by
  unfold dEdit
  rw [row_ok (sh := "ibb") (by decide +kernel) (fun z => by rw [he] at z; exact absurd z.2 (by decide)) (by decide +kernel) (by show 3 = _; decide +kernel) (fun _ => h5) (fit_ibb hw) (by
    unfold idFits
    rw [if_pos (by decide +kernel)]
    show (!decide (w ∈ c.edits) && !decide (w ∈ c.gates)) = true
    rw [decide_eq_false h1, decide_eq_false h2]
    rfl)]
  show chkIn _ _ [.list [], .list [dPut "x" "a"]] 0 (colPart "edit" (colPart "edit" (colPart "edit" { c with total := c.total + 1 } ⟨#[105]⟩ (.str w)) ⟨#[98]⟩ (.list [])) ⟨#[98]⟩ (.list [dPut "x" "a"])) = _
  rw [cp_b, cp_b, cp_ie]
  show contR (fun c' => contR (fun c' => .ok c') (chkL E n (inside lp "edit") [dPut "x" "a"] (pre ++ [(i : Int)] ++ [1]) c')) (chkL E n (inside lp "edit") [] (pre ++ [(i : Int)] ++ [0]) _) = _
  rw [chkL_nil]
  obtain ⟨m, rfl⟩ : ∃ m, n = m + 1 := ⟨n - 1, by omega⟩
  show contR (fun c' => .ok c') (contR (fun c' => .ok c') (chkRow (chkL E m) E (5 - (m : Int)) (inside lp "edit") (pre ++ [(i : Int)] ++ [1]) (dPut "x" "a") 0 _)) = _
  rw [row_put (by decide +kernel) (by decide +kernel) (by decide +kernel)]
  show Except.ok _ = Except.ok _
  refine congrArg Except.ok ?_
  show Chk.mk (c.total + 1 + 1) _ _ _ _ = Chk.mk (c.total + 2) _ _ _ _
  rw [show c.total + 1 + 1 = c.total + 2 by omega]
end Op
namespace Op
open PySem L2 PyProof.Rows
theorem nodup_sub : ∀ {l m : List Str}, l.Nodup → (∀ x ∈ l, x ∈ m) → l.length ≤ m.length
  | [], _, _, _ => Nat.zero_le _
  | x :: r, m, h, s => by
    obtain ⟨h1, h2⟩ := List.nodup_cons.mp h
    have hx := s x List.mem_cons_self
    have := nodup_sub (l := r) (m := m.erase x) h2 fun y hy => by
      have hne : y ≠ x := fun e => h1 (by rw [← e]; exact hy)
      exact (List.mem_erase_of_ne hne).mpr (s y (List.mem_cons_of_mem _ hy))
    rw [List.length_erase_of_mem hx] at this
    have hp := List.length_pos_of_mem hx
    rw [List.length_cons]
    omega
def OkS (zs sl : List Str) : Prop := sl.Nodup ∧ ∀ s ∈ sl, s = "x" ∨ s ∈ zs
theorem OkS.put {zs sl : List Str} {s : Str} (h : OkS zs sl) (hs : s = "x" ∨ s ∈ zs) : OkS zs (putW sl s) := by
  unfold putW
  split
  · exact h
  · rename_i n
    refine ⟨List.nodup_append.mpr ⟨h.1, by simp, fun a ha b hb => ?_⟩, fun y hy => ?_⟩
    · rw [List.mem_singleton.mp hb]
      exact fun e => n (by rw [← e]; exact ha)
    · rcases List.mem_append.mp hy with hy | hy
      · exact h.2 y hy
      · rw [List.mem_singleton.mp hy]
        exact hs
theorem OkS.len {zs sl : List Str} (h : OkS zs sl) : sl.length ≤ zs.length + 1 := by
  have := nodup_sub (m := "x" :: zs) h.1 fun y hy => by
    rcases h.2 y hy with e | e
    · rw [e]; exact List.mem_cons_self
    · exact List.mem_cons_of_mem _ e
  exact this
/-- how a check goes on -/
structure Mv (zs : List Str) (c c' : Chk) (L G D : List Str) (k : Nat) : Prop where
  lab : c'.labels = L
  gat : c'.gates = G
  edi : c'.edits = D
  tot : c'.total ≤ c.total + k
  slo : OkS zs c.slots → OkS zs c'.slots
theorem Mv.trans {zs : List Str} {c c1 c2 : Chk} {L1 G1 D1 L2 G2 D2 : List Str} {k1 k2 : Nat} (h : Mv zs c c1 L1 G1 D1 k1) (h' : Mv zs c1 c2 L2 G2 D2 k2) : Mv zs c c2 L2 G2 D2 (k1 + k2) :=
  ⟨h'.lab, h'.gat, h'.edi, by have := h.tot; have := h'.tot; omega, fun z => h'.slo (h.slo z)⟩
/-- the rows at a level with fuel n below -/
abbrev Lv (E : Env0) (n : Nat) (lp : Bool) (pre : List Int) : List PyData → Nat → Chk → Out := chkRows (chkRow (chkL E n) E (5 - (n : Int)) lp pre)
theorem Lv_one {E : Env0} {n : Nat} {lp : Bool} {pre : List Int} {d : PyData} {i : Nat} {c c' : Chk} (h : chkRow (chkL E n) E (5 - (n : Int)) lp pre d i c = .ok c') : Lv E n lp pre [d] i c = .ok c' := by
  show contR (fun c' => .ok c') (chkRow (chkL E n) E (5 - (n : Int)) lp pre d i c) = _
  rw [h]
  rfl
theorem Lv_app {E : Env0} {n : Nat} {lp : Bool} {pre : List Int} {a b : List PyData} {i : Nat} {c c' : Chk} (h : Lv E n lp pre a i c = .ok c') : Lv E n lp pre (a ++ b) i c = Lv E n lp pre b (i + a.length) c' := by
  show chkRows _ (a ++ b) i c = _
  rw [rows_app]
  have h : chkRows (chkRow (chkL E n) E (5 - (n : Int)) lp pre) a i c = .ok c' := h
  rw [h]
  rfl
theorem Lv_bad {E : Env0} {n : Nat} {lp : Bool} {pre : List Int} {d : PyData} {r : List PyData} {i : Nat} {c : Chk} {p : List Int} (h : chkRow (chkL E n) E (5 - (n : Int)) lp pre d i c = .error p) : Lv E n lp pre (d :: r) i c = .error p := by
  show contR (fun c' => _) (chkRow (chkL E n) E (5 - (n : Int)) lp pre d i c) = _
  rw [h]
  rfl
section
variable {E : Env0} {n : Nat} {lp : Bool} {pre : List Int} {zs : List Str}
theorem row_fill {d : PyData} {i : Nat} {c : Chk} (h : fillRow zs d) (hn : 1 ≤ n) : ∃ c', chkRow (chkL E n) E (5 - (n : Int)) lp pre d i c = .ok c' ∧ Mv zs c c' c.labels c.gates c.edits 2 := by
  obtain ⟨s, v, hs, ns, nv, rfl | rfl⟩ := h
  · refine ⟨_, row_put ns.1 (ne_in ns) nv.1, rfl, rfl, rfl, ?_, fun z => z.put (.inr hs)⟩
    show c.total + 1 ≤ c.total + 2
    omega
  · obtain ⟨m, rfl⟩ : ∃ m, n = m + 1 := ⟨n - 1, by omega⟩
    have h1 : chkL E (m + 1) (inside lp "part") [dPut s v] (pre ++ [(i : Int)] ++ [0]) { c with total := c.total + 1 } = .ok _ := Lv_one (n := m) (row_put ns.1 (ne_in ns) nv.1)
    refine ⟨{ c with total := c.total + 1 + 1, slots := putW c.slots s }, by rw [row_part (by omega), h1]; rfl, rfl, rfl, rfl, ?_, fun z => z.put (.inr hs)⟩
    show c.total + 1 + 1 ≤ c.total + 2
    omega
theorem rows_fill (hn : 1 ≤ n) : ∀ (ds : List PyData) (i : Nat) (c : Chk), (∀ d ∈ ds, fillRow zs d) → ∃ c', Lv E n lp pre ds i c = .ok c' ∧ Mv zs c c' c.labels c.gates c.edits (2 * ds.length)
  | [], i, c, _ => ⟨c, rfl, rfl, rfl, rfl, by omega, fun z => z⟩
  | d :: r, i, c, h => by
    obtain ⟨c1, h1, m1⟩ := row_fill (E := E) (lp := lp) (pre := pre) (i := i) (c := c) (h d List.mem_cons_self) hn
    obtain ⟨c2, h2, m2⟩ := rows_fill hn r (i + 1) c1 fun d hd => h d (List.mem_cons_of_mem _ hd)
    refine ⟨c2, ?_, ?_⟩
    · show Lv E n lp pre ([d] ++ r) i c = _
      rw [Lv_app (Lv_one h1)]
      exact h2
    · have := m1.trans m2
      rw [m1.lab, m1.gat, m1.edi] at this
      rw [List.length_cons, show 2 * (r.length + 1) = 2 + 2 * r.length by omega]
      exact this
end
theorem sizes_none {c : Chk} (h1 : c.total ≤ 60) (h2 : c.labels.length ≤ 6) (h3 : c.slots.length ≤ 4) (h4 : c.gates.length + c.edits.length ≤ 8) (h5 : c.edits.length ≤ 4) : sizes c = none := by
  unfold sizes
  rw [if_neg (by omega), if_neg (by omega), if_neg (by omega), if_neg (by omega), if_neg (by omega)]
theorem sizes_gates {c : Chk} (h1 : c.total ≤ 60) (h2 : c.labels.length ≤ 6) (h3 : c.slots.length ≤ 4) (h4 : 8 < c.gates.length + c.edits.length) : sizes c = some ("gates" : Str) := by
  unfold sizes
  rw [if_neg (by omega), if_neg (by omega), if_neg (by omega), if_pos (by omega)]
theorem sizes_edits5 {c : Chk} (h1 : c.total ≤ 60) (h2 : c.labels.length ≤ 6) (h3 : c.slots.length ≤ 4) (h4 : c.gates.length + c.edits.length ≤ 8) (h5 : 4 < c.edits.length) : sizes c = some ("edits" : Str) := by
  unfold sizes
  rw [if_neg (by omega), if_neg (by omega), if_neg (by omega), if_neg (by omega), if_pos (by omega)]
/-! ### the word of two letters -/
def two (w : Str) : Prop := ∃ a b : Nat, a ∈ letters.cps.toList ∧ b ∈ letters.cps.toList ∧ w = ⟨#[a]⟩ ++ ⟨#[b]⟩
theorem two_cps {w : Str} (h : two w) : ∃ a b : Nat, a ∈ letters.cps.toList ∧ b ∈ letters.cps.toList ∧ w.cps = #[a, b] := by
  obtain ⟨a, b, ha, hb, rfl⟩ := h
  exact ⟨a, b, ha, hb, rfl⟩
theorem word_of {z : Str} (h1 : 1 ≤ z.cps.toList.length) (h2 : z.cps.toList.length ≤ 8) (h3 : ∀ c ∈ z.cps.toList, c ∈ letters.cps.toList) : isWordS z = true := by
  rw [Array.length_toList] at h1 h2
  unfold isWordS
  rw [Bool.and_eq_true_iff]
  exact ⟨decide_eq_true ⟨h1, h2⟩, List.all_eq_true.mpr fun c hc => decide_eq_true (h3 c hc)⟩
theorem two_word {w : Str} (h : two w) : isWordS w = true := by
  obtain ⟨a, b, ha, hb, e⟩ := two_cps h
  refine word_of (by rw [e]; exact Nat.le_of_ble_eq_true rfl) (by rw [e]; exact Nat.le_of_ble_eq_true rfl) fun c hc => ?_
  rw [e] at hc
  rcases List.mem_cons.mp hc with rfl | hc
  · exact ha
  · rw [List.mem_singleton.mp hc]; exact hb
theorem two_len {w : Str} (h : two w) : w.length = 2 := by
  obtain ⟨a, b, ha, hb, e⟩ := two_cps h
  show w.cps.size = 2
  rw [e]
  rfl
theorem low9 : ∀ k : Nat, k < 9 → 97 + k ∈ letters.cps.toList := by decide +kernel
theorem idw_cps (w : Str) (k : Nat) : (idw w k).cps.toList = w.cps.toList ++ [97 + k] := by
  show (w.cps ++ #[97 + k]).toList = _
  rw [Array.toList_append]
theorem idw_word {w : Str} (h : two w) {k : Nat} (hk : k < 9) : isWordS (idw w k) = true := by
  obtain ⟨a, b, ha, hb, e⟩ := two_cps h
  have e' : (idw w k).cps.toList = [a, b, 97 + k] := by rw [idw_cps, e]; rfl
  refine word_of (by rw [e']; exact Nat.le_of_ble_eq_true rfl) (by rw [e']; exact Nat.le_of_ble_eq_true rfl) fun c hc => ?_
  rw [e'] at hc
  rcases List.mem_cons.mp hc with rfl | hc
  · exact ha
  · rcases List.mem_cons.mp hc with rfl | hc
    · exact hb
    · rw [List.mem_singleton.mp hc]; exact low9 k hk
theorem idw_inj {w : Str} {j k : Nat} (h : idw w j = idw w k) : j = k := by
  have := congrArg (fun z : Str => z.cps.toList) h
  simp only [idw_cps] at this
  have := List.append_cancel_left this
  have := (List.cons.inj this).1
  omega
def ids (w : Str) (i n : Nat) : List Str := (List.range n).map fun k => idw w (i + k)
theorem ids_succ (w : Str) (i n : Nat) : ids w i (n + 1) = ids w i n ++ [idw w (i + n)] := by
  unfold ids
  rw [List.range_succ, List.map_append]
  rfl
theorem ids_len (w : Str) (i n : Nat) : (ids w i n).length = n := by
  unfold ids
  rw [List.length_map, List.length_range]
theorem ids_not {w : Str} {i n k : Nat} (h : k < i ∨ i + n ≤ k) : idw w k ∉ ids w i n := fun m => by
  unfold ids at m
  obtain ⟨j, hj, e⟩ := List.mem_map.mp m
  have := idw_inj e
  have := List.mem_range.mp hj
  omega
theorem putW_new {xs : List Str} {x : Str} (h : x ∉ xs) : putW xs x = xs ++ [x] := by
  unfold putW
  rw [if_neg h]
section
variable {E : Env0} {n : Nat} {lp : Bool} {pre : List Int} {zs : List Str} {w : Str}
theorem rows_edits (he : E.we = true) (hw : two w) (hn : 1 ≤ n) (i : Nat) (c : Chk) (h1 : c.edits = []) (h2 : c.gates = []) : ∀ k, k ≤ 9 → ∃ c', Lv E n lp pre (edits w k) i c = .ok c' ∧ Mv zs c c' c.labels [] (ids w 0 k) (2 * k)
  | 0, _ => ⟨c, rfl, rfl, h2, h1, by omega, fun z => z⟩
  | k + 1, hk => by
    obtain ⟨c1, e1, m1⟩ := rows_edits he hw hn i c h1 h2 k (by omega)
    rw [edits_succ, Lv_app e1]
    have a1 : idw w k ∉ c1.edits := by rw [m1.edi]; exact ids_not (.inr (by omega))
    have a2 : idw w k ∉ c1.gates := by rw [m1.gat]; exact fun h => (List.not_mem_nil h).elim
    have r := row_edit (E := E) (c := c1) (lp := lp) (pre := pre) (i := i + (edits w k).length) (n := n) (depth := 5 - (n : Int)) he (by omega) hn (idw_word hw (by omega)) a1 a2
    refine ⟨_, Lv_one r, ?_⟩
    have m2 : Mv zs c1 { c1 with total := c1.total + 2, slots := putW c1.slots "x", edits := putW c1.edits (idw w k) } c.labels [] (ids w 0 (k + 1)) 2 := by
      refine ⟨m1.lab, m1.gat, ?_, Int.le_refl _, fun z => z.put (.inl rfl)⟩
      show putW c1.edits (idw w k) = _
      rw [putW_new a1, m1.edi, ids_succ, Nat.zero_add]
    have := m1.trans m2
    rw [show 2 * (k + 1) = 2 * k + 2 by omega]
    exact this
theorem rows_gates (hw : two w) (hn : 1 ≤ n) {e : Nat} (i : Nat) (c : Chk) (h1 : c.edits = ids w 0 e) (h2 : c.gates = []) : ∀ (k : Nat) (ds : List PyData), e + k ≤ 9 → Gates w e k ds → ∃ c', Lv E n lp pre ds i c = .ok c' ∧ Mv zs c c' c.labels (ids w e k) (ids w 0 e) k
  | 0, ds, _, h => by
    have h : ds = [] := h
    subst h
    exact ⟨c, rfl, rfl, h2, h1, by omega, fun z => z⟩
  | k + 1, ds, hk, h => by
    obtain ⟨ds', d, rfl, hg, hd⟩ := h
    obtain ⟨c1, e1, m1⟩ := rows_gates hw hn i c h1 h2 k ds' (by omega) hg
    rw [Lv_app e1]
    have a1 : idw w (e + k) ∉ c1.edits := by rw [m1.edi]; exact ids_not (.inr (by omega))
    have a2 : idw w (e + k) ∉ c1.gates := by rw [m1.gat]; exact ids_not (.inr (by omega))
    have hwd := idw_word hw (k := e + k) (by omega)
    have r : chkRow (chkL E n) E (5 - (n : Int)) lp pre d (i + ds'.length) c1 = .ok { c1 with total := c1.total + 1, gates := putW c1.gates (idw w (e + k)) } := by
      rcases hd with rfl | rfl
      · exact row_past (fun _ _ _ => chkL_nil) (by omega) hwd a1
      · exact row_gate (fun _ _ _ => chkL_nil) (by omega) hwd a1
    refine ⟨_, Lv_one r, ?_⟩
    have m2 : Mv zs c1 { c1 with total := c1.total + 1, gates := putW c1.gates (idw w (e + k)) } c.labels (ids w e (k + 1)) (ids w 0 e) 1 := by
      refine ⟨m1.lab, ?_, m1.edi, Int.le_refl _, fun z => z⟩
      show putW c1.gates (idw w (e + k)) = _
      rw [putW_new a2, m1.gat, ids_succ]
    exact m1.trans m2
end
theorem Gates.len {w : Str} {e : Nat} : ∀ {n : Nat} {ds : List PyData}, Gates w e n ds → ds.length = n
  | 0, ds, h => by
    have h : ds = [] := h
    rw [h]
    rfl
  | n + 1, ds, h => by
    obtain ⟨ds', d, rfl, hg, _⟩ := h
    rw [List.length_append, hg.len]
    rfl
theorem Gates.take {w : Str} {e : Nat} : ∀ {n : Nat} {ds : List PyData} {m : Nat}, Gates w e n ds → m ≤ n → Gates w e m (ds.take m)
  | 0, ds, m, h, hm => by
    obtain rfl : m = 0 := by omega
    have h : ds = [] := h
    rw [h]
    exact rfl
  | n + 1, ds, m, h, hm => by
    by_cases q : m = n + 1
    · subst q
      rw [List.take_of_length_le (Nat.le_of_eq h.len)]
      exact h
    · obtain ⟨ds', d, rfl, hg, _⟩ := h
      rw [List.take_append_of_le_length (by rw [hg.len]; omega)]
      exact hg.take (by omega)
end Op
namespace Op
open PySem L2 PyProof.Rows
def goD : PyData := .tuple [.str "go"]
theorem tab_no {ok : PyData → Bool} {m : Nat} {kvs : List (Str × PyData)} (h : ¬ (kvs.length ≤ m ∧ (kvs.all fun p => isWordS p.1 && ok p.2) = true)) : okTab ok m (.dict kvs) = none := by
  show (if kvs.length ≤ m ∧ (kvs.all fun p => isWordS p.1 && ok p.2) = true then some kvs else none) = none
  rw [if_neg h]
theorem tab_ok {ok : PyData → Bool} {m : Nat} {kvs : List (Str × PyData)} (h : kvs.length ≤ m ∧ (kvs.all fun p => isWordS p.1 && ok p.2) = true) : okTab ok m (.dict kvs) = some kvs := by
  show (if kvs.length ≤ m ∧ (kvs.all fun p => isWordS p.1 && ok p.2) = true then some kvs else none) = some kvs
  rw [if_pos h]
theorem pc_asks {we : Bool} {a s : ArgD} {ins rows : PyData} (h : okTab (areWords 4) 6 a = none) : progCheck we a s ins rows = .error (("asks" : Str), []) := by
  unfold progCheck
  rw [h]
theorem pc_sigs {we : Bool} {a s : ArgD} {ins rows : PyData} {ka : List (Str × PyData)} (h : okTab (areWords 4) 6 a = some ka) (h2 : okTab isBox 3 s = none) : progCheck we a s ins rows = .error (("signals" : Str), []) := by
  simp only [progCheck, h, h2]
theorem pc_all {we : Bool} {a s : ArgD} {ins rows : PyData} {ka ks : List (Str × PyData)} (h : okTab (areWords 4) 6 a = some ka) (h2 : okTab isBox 3 s = some ks) : progCheck we a s ins rows = if areWords 3 ins = true then checkAll ⟨ka.map (·.1), ks.map (·.1), we⟩ rows else .error ("inputs", []) := by
  simp only [progCheck, h, h2]
theorem pc_plain (we : Bool) (rows : PyData) : progCheck we .none .none goD rows = checkAll ⟨[], [], we⟩ rows := by
  rw [pc_all (ka := []) (ks := []) rfl rfl, if_pos (by decide +kernel)]
  rfl
theorem okS_nil {zs : List Str} : OkS zs [] := ⟨List.nodup_nil, fun _ h => (List.not_mem_nil h).elim⟩
section
variable {E : Env0} {zs : List Str} {w : Str} {bs M as : List PyData}
/-- fillers, something between them, fillers -/
theorem mid (hb : ∀ d ∈ bs, fillRow zs d) (ha : ∀ d ∈ as, fillRow zs d) {G D : List Str} {k : Nat} (hM : ∀ (c : Chk) (i : Nat), c.labels = [] → c.edits = [] → c.gates = [] → ∃ c', Lv E 4 false [] M i c = .ok c' ∧ Mv zs c c' c.labels G D k) :
    ∃ c', chkL E 5 false (bs ++ M ++ as) [] chk0 = .ok c' ∧ c'.labels = [] ∧ c'.gates = G ∧ c'.edits = D ∧ c'.total ≤ 2 * bs.length + k + 2 * as.length ∧ c'.slots.length ≤ zs.length + 1 := by
  obtain ⟨c1, e1, m1⟩ := rows_fill (E := E) (n := 4) (lp := false) (pre := []) (zs := zs) (by decide) bs 0 chk0 hb
  obtain ⟨c2, e2, m2⟩ := hM c1 (0 + bs.length) m1.lab m1.edi m1.gat
  obtain ⟨c3, e3, m3⟩ := rows_fill (E := E) (n := 4) (lp := false) (pre := []) (zs := zs) (by decide) as (0 + bs.length + M.length) c2 ha
  refine ⟨c3, ?_, ?_, ?_, ?_, ?_, ?_⟩
  · show Lv E 4 false [] (bs ++ M ++ as) 0 chk0 = _
    rw [List.append_assoc, Lv_app e1, Lv_app e2]
    exact e3
  · rw [m3.lab, m2.lab, m1.lab]
    rfl
  · rw [m3.gat, m2.gat]
  · rw [m3.edi, m2.edi]
  · have := m1.tot
    have := m2.tot
    have := m3.tot
    have : chk0.total = 0 := rfl
    omega
  · exact (m3.slo (m2.slo (m1.slo okS_nil))).len
variable (hz : zs.length = 2) (hb : ∀ d ∈ bs, fillRow zs d) (ha : ∀ d ∈ as, fillRow zs d) (hbl : bs.length ≤ 3) (hal : as.length ≤ 2) (hw : two w)
include hz hb ha hbl hal hw
theorem good_many1 : ∃ c, progCheck true .none .none goD (.list (bs ++ edits w 4 ++ as)) = .ok c := by
  obtain ⟨c, h, h1, h2, h3, h4, h5⟩ := mid (E := ⟨[], [], true⟩) (M := edits w 4) hb ha fun c i _ h1 h2 => rows_edits (zs := zs) rfl hw (by decide) i c h1 h2 4 (by decide)
  refine ⟨c, ?_⟩
  rw [pc_plain]
  show (match chkL _ 5 false (bs ++ edits w 4 ++ as) [] chk0 with | .error p => Except.error (("rows" : Str), p) | .ok c => (match sizes c with | some s => Except.error (s, []) | none => Except.ok c)) = _
  rw [h]
  show (match sizes c with | some s => Except.error (s, []) | none => Except.ok c) = _
  rw [sizes_none (by omega) (by rw [h1]; decide) (by omega) (by rw [h2, h3, ids_len]; decide) (by rw [h3, ids_len]; decide)]
theorem bad_many1 : progCheck true .none .none goD (.list (bs ++ edits w 5 ++ as)) = .error (("edits" : Str), []) := by
  obtain ⟨c, h, h1, h2, h3, h4, h5⟩ := mid (E := ⟨[], [], true⟩) (M := edits w 5) hb ha fun c i _ h1 h2 => rows_edits (zs := zs) rfl hw (by decide) i c h1 h2 5 (by decide)
  rw [pc_plain]
  show (match chkL _ 5 false (bs ++ edits w 5 ++ as) [] chk0 with | .error p => Except.error (("rows" : Str), p) | .ok c => (match sizes c with | some s => Except.error (s, []) | none => Except.ok c)) = _
  rw [h]
  show (match sizes c with | some s => Except.error (s, []) | none => Except.ok c) = _
  rw [sizes_edits5 (by omega) (by rw [h1]; decide) (by omega) (by rw [h2, h3, ids_len]; decide) (by rw [h3, ids_len]; decide)]
theorem mid_gates {e k : Nat} {ds : List PyData} (he : e + k ≤ 9) (hg : Gates w e k ds) (c : Chk) (i : Nat) (_ : c.labels = []) (h1 : c.edits = []) (h2 : c.gates = []) : ∃ c', Lv ⟨[], [], true⟩ 4 false [] (edits w e ++ ds) i c = .ok c' ∧ Mv zs c c' c.labels (ids w e k) (ids w 0 e) (2 * e + k) := by
  obtain ⟨c1, e1, m1⟩ := rows_edits (E := ⟨[], [], true⟩) (lp := false) (pre := []) (zs := zs) rfl hw (n := 4) (by decide) i c h1 h2 e (by omega)
  obtain ⟨c2, e2, m2⟩ := rows_gates (E := ⟨[], [], true⟩) (lp := false) (pre := []) (zs := zs) hw (n := 4) (by decide) (i + (edits w e).length) c1 m1.edi m1.gat k ds he hg
  refine ⟨c2, ?_, ?_⟩
  · rw [Lv_app e1]
    exact e2
  · have := m1.trans m2
    rw [m1.lab] at this
    exact this
theorem good_many2 {e : Nat} {ds : List PyData} (he : e ≤ 4) (hg : Gates w e (4 - e) ds) : ∃ c, progCheck true .none .none goD (.list (bs ++ (edits w e ++ ds) ++ as)) = .ok c := by
  obtain ⟨c, h, h1, h2, h3, h4, h5⟩ := mid (E := ⟨[], [], true⟩) (M := edits w e ++ ds) hb ha (mid_gates hz hb ha hbl hal hw (by omega) hg)
  refine ⟨c, ?_⟩
  rw [pc_plain]
  show (match chkL _ 5 false (bs ++ (edits w e ++ ds) ++ as) [] chk0 with | .error p => Except.error (("rows" : Str), p) | .ok c => (match sizes c with | some s => Except.error (s, []) | none => Except.ok c)) = _
  rw [h]
  show (match sizes c with | some s => Except.error (s, []) | none => Except.ok c) = _
  rw [sizes_none (by omega) (by rw [h1]; decide) (by omega) (by rw [h2, h3, ids_len, ids_len]; omega) (by rw [h3, ids_len]; omega)]
theorem bad_many2 {e : Nat} {ds : List PyData} (he1 : 1 ≤ e) (he : e ≤ 4) (hg : Gates w e (9 - e) ds) : progCheck true .none .none goD (.list (bs ++ (edits w e ++ ds) ++ as)) = .error (("gates" : Str), []) := by
  obtain ⟨c, h, h1, h2, h3, h4, h5⟩ := mid (E := ⟨[], [], true⟩) (M := edits w e ++ ds) hb ha (mid_gates hz hb ha hbl hal hw (by omega) hg)
  rw [pc_plain]
  show (match chkL _ 5 false (bs ++ (edits w e ++ ds) ++ as) [] chk0 with | .error p => Except.error (("rows" : Str), p) | .ok c => (match sizes c with | some s => Except.error (s, []) | none => Except.ok c)) = _
  rw [h]
  show (match sizes c with | some s => Except.error (s, []) | none => Except.ok c) = _
  rw [sizes_gates (by omega) (by rw [h1]; decide) (by omega) (by rw [h2, h3, ids_len, ids_len]; omega)]
end
/-! ### one bad row -/
def befD (bs : List PyData) (w : Str) (j : Nat) : List PyData := if j < 5 then bs.take 1 ++ [(badPair w j).1] ++ bs.drop 1 else bs
def fG (w : Str) (g : List Str) (j : Nat) : List Str := if j = 1 ∨ j = 2 then putW g w else g
def fD (w : Str) (j : Nat) : List Str := if j = 0 ∨ j = 3 ∨ j = 4 then [w] else []
section
variable {E : Env0} {n : Nat} {lp : Bool} {pre : List Int} {zs : List Str} {w : Str}
theorem row_first (he : E.we = true) (hw : two w) (hn : 1 ≤ n) {j : Nat} (hj : j < 5) {i : Nat} {c : Chk} (h1 : c.edits = []) (h2 : w ∉ c.gates) : ∃ c', chkRow (chkL E n) E (5 - (n : Int)) lp pre (badPair w j).1 i c = .ok c' ∧ Mv zs c c' c.labels (fG w c.gates j) (fD w j) 2 := by
  have ww := two_word hw
  have ne : w ∉ c.edits := by rw [h1]; exact fun h => (List.not_mem_nil h).elim
  have ed : ∃ c', chkRow (chkL E n) E (5 - (n : Int)) lp pre (dEdit w) i c = .ok c' ∧ Mv zs c c' c.labels c.gates [w] 2 := by
    refine ⟨_, row_edit he (by omega) hn ww ne h2, rfl, rfl, ?_, Int.le_refl _, fun z => z.put (.inl rfl)⟩
    show putW c.edits w = [w]
    rw [putW_new ne, h1]
    rfl
  match j, hj with
  | 0, _ => exact ed
  | 3, _ => exact ed
  | 4, _ => exact ed
  | 1, _ => exact ⟨_, row_gate (fun _ _ _ => chkL_nil) (by omega) ww ne, rfl, rfl, h1, (by show c.total + 1 ≤ c.total + 2; omega), fun z => z⟩
  | 2, _ => exact ⟨_, row_past (fun _ _ _ => chkL_nil) (by omega) ww ne, rfl, rfl, h1, (by show c.total + 1 ≤ c.total + 2; omega), fun z => z⟩
theorem rows_before (he : E.we = true) (hw : two w) (hn : 1 ≤ n) {bs : List PyData} (hb : ∀ d ∈ bs, fillRow zs d) {j : Nat} (c : Chk) (h1 : c.edits = []) (h2 : w ∉ c.gates) : ∃ c', Lv E n lp pre (befD bs w j) 0 c = .ok c' ∧ Mv zs c c' c.labels (fG w c.gates j) (fD w j) (2 * bs.length + 2) := by
  unfold befD
  by_cases hj : j < 5
  · rw [if_pos hj]
    obtain ⟨c1, e1, m1⟩ := rows_fill (E := E) (n := n) (lp := lp) (pre := pre) (zs := zs) hn (bs.take 1) 0 c fun d hd => hb d (List.mem_of_mem_take hd)
    obtain ⟨c2, e2, m2⟩ := row_first (E := E) (lp := lp) (pre := pre) (zs := zs) he hw hn hj (i := 0 + (bs.take 1).length) (c := c1) (m1.edi.trans h1) (by rw [m1.gat]; exact h2)
    obtain ⟨c3, e3, m3⟩ := rows_fill (E := E) (n := n) (lp := lp) (pre := pre) (zs := zs) hn (bs.drop 1) (0 + (bs.take 1).length + 1) c2 fun d hd => hb d (List.mem_of_mem_drop hd)
    refine ⟨c3, ?_, ?_⟩
    · rw [List.append_assoc, Lv_app e1, Lv_app (Lv_one e2)]
      exact e3
    · have := (m1.trans m2).trans m3
      rw [m2.lab, m2.gat, m2.edi, m1.lab, m1.gat] at this
      have hl : (bs.take 1).length + (bs.drop 1).length = bs.length := by rw [List.length_take, List.length_drop]; omega
      rw [show 2 * (bs.take 1).length + 2 + 2 * (bs.drop 1).length = 2 * bs.length + 2 by omega] at this
      exact this
  · rw [if_neg hj]
    obtain ⟨c1, e1, m1⟩ := rows_fill (E := E) (n := n) (lp := lp) (pre := pre) (zs := zs) hn bs 0 c hb
    refine ⟨c1, e1, m1.lab, ?_, ?_, ?_, m1.slo⟩
    · unfold fG
      rw [if_neg (by omega)]
      exact m1.gat
    · unfold fD
      rw [if_neg (by omega)]
      exact m1.edi.trans h1
    · have := m1.tot
      omega
variable {c : Chk} {depth : Int}
theorem fr_id {kind sh : Str} {parts : List PyData} (h : idFits c kind parts = false) : fitRow E c kind parts depth lp sh = false := by
  unfold fitRow
  rw [h]
  repeat' split
  all_goals rfl
theorem fr_all {kind sh : Str} {parts : List PyData} (h : fitAll E sh parts = false) : fitRow E c kind parts depth lp sh = false := by
  unfold fitRow
  rw [h]
  repeat' split
  all_goals first | rfl | contradiction
theorem fr_len {kind sh : Str} {parts : List PyData} (h : ¬ parts.length = sh.length) : fitRow E c kind parts depth lp sh = false := by
  unfold fitRow
  repeat' split
  all_goals first | rfl | contradiction
theorem id_edit {ps : List PyData} (h : w ∈ c.edits ∨ w ∈ c.gates) : idFits c "edit" (.str w :: ps) = false := by
  unfold idFits
  rw [if_pos (by decide +kernel)]
  show (!decide (w ∈ c.edits) && !decide (w ∈ c.gates)) = false
  rcases h with h | h
  · rw [decide_eq_true h]
    rfl
  · rw [decide_eq_true h]
    show (!decide (w ∈ c.edits) && false) = false
    rw [Bool.and_false]
theorem id_gate {kind : Str} {ps : List PyData} (hk : kind = "gate" ∨ kind = "past") (h : w ∈ c.edits) : idFits c kind (.str w :: ps) = false := by
  unfold idFits
  rw [if_neg (by rcases hk with rfl | rfl <;> decide +kernel), if_pos hk]
  show (!decide (w ∈ c.edits)) = false
  rw [decide_eq_true h]
  rfl
theorem putW_mem (xs : List Str) (x : Str) : x ∈ putW xs x := by
  unfold putW
  split
  · assumption
  · exact List.mem_append_right _ List.mem_cons_self
theorem bad_row {g : List Str} {j : Nat} (hj : j < 10) (h1 : c.gates = fG w g j) (h2 : c.edits = fD w j) : fits E c (badPair w j).2 depth lp = false := by
  have me : j = 0 ∨ j = 3 ∨ j = 4 → w ∈ c.edits := fun z => by
    rw [h2]
    unfold fD
    rw [if_pos z]
    exact List.mem_cons_self
  have mg : j = 1 ∨ j = 2 → w ∈ c.gates := fun z => by
    rw [h1]
    unfold fG
    rw [if_pos z]
    exact putW_mem _ _
  match j, hj, me, mg with
  | 0, _, me, _ => exact fits_bad (sh := "ibb") (by decide +kernel) (fr_id (id_edit (.inl (me (.inl rfl)))))
  | 1, _, _, mg => exact fits_bad (sh := "ibb") (by decide +kernel) (fr_id (id_edit (.inr (mg (.inl rfl)))))
  | 2, _, _, mg => exact fits_bad (sh := "ibb") (by decide +kernel) (fr_id (id_edit (.inr (mg (.inr rfl)))))
  | 3, _, me, _ => exact fits_bad (sh := "ibb") (by decide +kernel) (fr_id (id_gate (.inl rfl) (me (.inr (.inl rfl)))))
  | 4, _, me, _ => exact fits_bad (sh := "ib") (by decide +kernel) (fr_id (id_gate (.inr rfl) (me (.inr (.inr rfl)))))
  | 5, _, _, _ => exact fits_bad (sh := "ibb") (by decide +kernel) (fr_len (by show ¬ 2 = _; decide +kernel))
  | 6, _, _, _ =>
    refine fits_bad (sh := "ibb") (by decide +kernel) (fr_all ?_)
    show (partFits E ⟨#[105]⟩ (.str w) && (partFits E ⟨#[98]⟩ (.tuple []) && (partFits E ⟨#[98]⟩ (.list []) && true))) = false
    rw [pf_b, pf_b]
    show (_ && false) = false
    rw [Bool.and_false]
  | 7, _, _, _ =>
    refine fits_bad (sh := "ibb") (by decide +kernel) (fr_all ?_)
    show (partFits E ⟨#[105]⟩ (.str "Word") && (partFits E ⟨#[98]⟩ (.list []) && (partFits E ⟨#[98]⟩ (.list []) && true))) = false
    rw [pf_i]
    show (isWordS "Word" && _) = false
    rw [show isWordS "Word" = false by decide +kernel]
    rfl
  | 8, _, _, _ => exact fits_bad (sh := "") (by decide +kernel) (fr_len (by show ¬ 1 = _; decide +kernel))
  | 9, _, _, _ =>
    refine fits_bad (sh := "ls") (by decide +kernel) (fr_all ?_)
    show (partFits E ⟨#[108]⟩ (.str w) && (partFits E ⟨#[115]⟩ (.str "in") && true)) = false
    rw [pf_s]
    show (_ && (isWordS "in" && !decide (("in" : Str) = "in") && true)) = false
    rw [decide_eq_true rfl]
    show (_ && (isWordS "in" && false && true)) = false
    rw [Bool.and_false]
    show (_ && false) = false
    rw [Bool.and_false]
end
/-! ### rows within rows -/
def Start (c : Chk) : Prop := c.edits = [] ∧ ∀ g ∈ c.gates, g = "outer"
theorem Start.two {c : Chk} {w : Str} (h : Start c) (hw : two w) : w ∉ c.gates := fun m => by
  have e := h.2 w m
  have := two_len hw
  rw [e] at this
  exact absurd this (by decide +kernel)
theorem wrap_bad {E : Env0} {bs as : List PyData} {r : PyData} (base : ∀ (n : Nat) (lp : Bool) (pre : List Int) (c : Chk), 2 ≤ n → n ≤ 4 → Start c → Lv E n lp pre (bs ++ [r] ++ as) 0 c = .error (pre ++ [(bs.length : Int)])) :
    ∀ {n : Nat} {ds : List PyData} {path : List Int}, Wrap bs r as n ds path → ∀ (m : Nat) (lp : Bool) (pre : List Int) (c : Chk), n + 2 ≤ m → m ≤ 4 → Start c → Lv E m lp pre ds 0 c = .error (pre ++ path) := by
  intro n ds path h
  induction h with
  | base => intro m lp pre c h1 h2 hs; exact base m lp pre c (by omega) h2 hs
  | @step n ds path j hj hw ih =>
    intro m lp pre c h1 h2 hs
    obtain ⟨k, rfl⟩ : ∃ k, m = k + 1 := ⟨m - 1, by omega⟩
    show Lv E (k + 1) lp pre ([dPut "x" "a"] ++ [outerD ds j]) 0 c = _
    rw [Lv_app (Lv_one (row_put (by decide +kernel) (by decide +kernel) (by decide +kernel)))]
    refine Lv_bad ?_
    have go : ∀ (lp' : Bool) (o : Int) (c' : Chk), Start c' → contR Except.ok (chkL E (k + 1) lp' ds (pre ++ [((0 + [dPut "x" "a"].length : Nat) : Int)] ++ [o]) c') = .error (pre ++ (1 :: o :: path)) := by
      intro lp' o c' hs'
      have := ih k lp' (pre ++ [1] ++ [o]) c' (by omega) (by omega) hs'
      have e : chkL E (k + 1) lp' ds (pre ++ [1] ++ [o]) c' = .error (pre ++ [1] ++ [o] ++ path) := this
      show contR Except.ok (chkL E (k + 1) lp' ds (pre ++ [1] ++ [o]) c') = _
      rw [e]
      show Except.error (pre ++ [1] ++ [o] ++ path) = _
      rw [List.append_assoc, List.append_assoc]
      rfl
    match j, hj with
    | 0, _ =>
      show chkRow _ E _ lp pre (.tuple [.str "part", .list ds]) _ _ = _
      rw [row_part (by omega)]
      exact go _ _ _ hs
    | 1, _ =>
      show chkRow _ E _ lp pre (.tuple [.str "loop", .list ds]) _ _ = _
      rw [row_loop (by omega)]
      exact go _ _ _ hs
    | 2, _ =>
      show chkRow _ E _ lp pre (.tuple [.str "gate", .str "outer", .list [], .list ds]) _ _ = _
      rw [row_gateL (fun _ _ _ => chkL_nil) (by omega) (by decide +kernel) (by show ("outer" : Str) ∉ c.edits; rw [hs.1]; exact fun h => (List.not_mem_nil h).elim)]
      refine go _ _ _ ⟨hs.1, fun g hg => ?_⟩
      have hg : g ∈ putW c.gates "outer" := hg
      unfold putW at hg
      split at hg
      · exact hs.2 g hg
      · rcases List.mem_append.mp hg with hg | hg
        · exact hs.2 g hg
        · exact List.mem_singleton.mp hg
    | 3, _ =>
      show chkRow _ E _ lp pre (.tuple [.str "both", .tuple [.list [], .list ds]]) _ _ = _
      rw [row_both (fun _ _ _ => chkL_nil) (by omega)]
      exact go _ _ _ hs
theorem rows_err {we : Bool} {ds : List PyData} {path : List Int} (h : Lv ⟨[], [], we⟩ 4 false [] ds 0 chk0 = .error path) : progCheck we .none .none goD (.list ds) = .error ("rows", path) := by
  rw [pc_plain]
  show (match Lv ⟨[], [], we⟩ 4 false [] ds 0 chk0 with | .error p => Except.error (("rows" : Str), p) | .ok c => (match sizes c with | some s => Except.error (s, []) | none => Except.ok c)) = _
  rw [h]
section
variable {zs : List Str} {w : Str} {bs as : List PyData}
theorem bad_bad (hb : ∀ d ∈ bs, fillRow zs d) (hw : two w) {j : Nat} (hj : j < 10) {n : Nat} {ds : List PyData} {path : List Int} (hn : n ≤ 2) (h : Wrap (befD bs w j) (badPair w j).2 as n ds path) : progCheck true .none .none goD (.list ds) = .error ("rows", path) := by
  refine rows_err (wrap_bad (fun n lp pre c h1 h2 hs => ?_) h 4 false [] chk0 (by omega) (by decide) ⟨rfl, fun g hg => (List.not_mem_nil hg).elim⟩)
  obtain ⟨c', e, m⟩ := rows_before (E := ⟨[], [], true⟩) (n := n) (lp := lp) (pre := pre) (zs := zs) rfl hw (by omega) hb (j := j) c hs.1 (hs.two hw)
  rw [List.append_assoc, Lv_app e]
  refine Lv_bad ?_
  rw [row_bad (bad_row hj m.gat m.edi), Nat.zero_add]
theorem prog_bad (hb : ∀ d ∈ bs, fillRow zs d) {n : Nat} {ds : List PyData} {path : List Int} (hn : n ≤ 2) (h : Wrap bs (dEdit w) as n ds path) : progCheck false .none .none goD (.list ds) = .error ("rows", path) := by
  refine rows_err (wrap_bad (fun n lp pre c h1 h2 hs => ?_) h 4 false [] chk0 (by omega) (by decide) ⟨rfl, fun g hg => (List.not_mem_nil hg).elim⟩)
  obtain ⟨c', e, m⟩ := rows_fill (E := ⟨[], [], false⟩) (n := n) (lp := lp) (pre := pre) (zs := zs) (by omega) bs 0 c hb
  rw [List.append_assoc, Lv_app e]
  refine Lv_bad ?_
  unfold dEdit
  rw [row_bad (fits_bad (sh := "ibb") (by decide +kernel) (by unfold fitRow; rw [if_pos ⟨rfl, rfl⟩])), Nat.zero_add]
theorem good_bad (hz : zs.length = 2) (hb : ∀ d ∈ bs, fillRow zs d) (hbl : bs.length ≤ 3) (hw : two w) {j : Nat} : ∃ c, progCheck true .none .none goD (.list (befD bs w j ++ [.tuple [.str "drop", .str w]])) = .ok c := by
  obtain ⟨c', e, m⟩ := rows_before (E := ⟨[], [], true⟩) (n := 4) (lp := false) (pre := []) (zs := zs) rfl hw (by decide) hb (j := j) chk0 rfl fun h => (List.not_mem_nil h).elim
  have e2 := row_drop (E := ⟨[], [], true⟩) (rec := chkL ⟨[], [], true⟩ 4) (depth := 5 - ((4 : Nat) : Int)) (lp := false) (pre := []) (i := 0 + (befD bs w j).length) (c := c') (two_word hw)
  have h : chkL ⟨[], [], true⟩ 5 false (befD bs w j ++ [.tuple [.str "drop", .str w]]) [] chk0 = .ok { c' with total := c'.total + 1, labels := putW c'.labels w } := by
    show Lv ⟨[], [], true⟩ 4 false [] (befD bs w j ++ [.tuple [.str "drop", .str w]]) 0 chk0 = _
    rw [Lv_app e]
    exact Lv_one e2
  refine ⟨{ c' with total := c'.total + 1, labels := putW c'.labels w }, ?_⟩
  · rw [pc_plain]
    show (match chkL _ 5 false (befD bs w j ++ [.tuple [.str "drop", .str w]]) [] chk0 with | .error p => Except.error (("rows" : Str), p) | .ok c => (match sizes c with | some s => Except.error (s, []) | none => Except.ok c)) = _
    rw [h]
    show (match sizes { c' with total := c'.total + 1, labels := putW c'.labels w } with | some s => Except.error (s, []) | none => Except.ok { c' with total := c'.total + 1, labels := putW c'.labels w }) = _
    have t := m.tot
    have t0 : chk0.total = 0 := rfl
    have sl := (m.slo okS_nil).len
    have g1 : c'.gates.length ≤ 1 := by
      rw [m.gat]
      unfold fG
      split
      · exact putW_len [] w
      · exact Nat.zero_le _
    have g2 : c'.edits.length ≤ 1 := by
      rw [m.edi]
      unfold fD
      split
      · exact Nat.le_refl _
      · exact Nat.zero_le _
    rw [sizes_none (c := { c' with total := c'.total + 1, labels := putW c'.labels w }) (by show c'.total + 1 ≤ 60; omega) (by
      show (putW c'.labels w).length ≤ 6
      have := putW_len c'.labels w
      rw [m.lab] at this ⊢
      have : chk0.labels.length = 0 := rfl
      omega) (by show c'.slots.length ≤ 4; omega) (by show c'.gates.length + c'.edits.length ≤ 8; omega) (by show c'.edits.length ≤ 4; omega)]
end
theorem due_bad {rows : PyData} : ∀ {j : Nat}, 2 ≤ j → j < 8 → ∃ s, pbD j = .str s ∧ progCheck true (pbA j) (pbS j) (pbI j) rows = .error (s, [])
  | 2, _, _ => ⟨_, rfl, by rw [pc_all (ka := []) (ks := []) rfl rfl, if_neg (by decide +kernel)]⟩
  | 3, _, _ => ⟨_, rfl, pc_sigs (ka := []) rfl (show okTab isBox 3 (.dict [("s", .tuple [.int 0, .tuple [.str "a"]])]) = none from tab_no (by decide +kernel))⟩
  | 4, _, _ => ⟨_, rfl, pc_sigs (ka := []) (show okTab (areWords 4) 6 (.dict []) = some [] from tab_ok (by decide +kernel)) (show okTab isBox 3 (.dict [("s", .tuple [.bool true, .tuple [.str "a"]])]) = none from tab_no (by decide +kernel))⟩
  | 5, _, _ => ⟨_, rfl, pc_asks (show okTab (areWords 4) 6 (.dict [("p", .tuple [.str "a", .str "a"])]) = none from tab_no (by decide +kernel))⟩
  | 6, _, _ => ⟨_, rfl, pc_asks (show okTab (areWords 4) 6 (.dict [("p", .list [.str "a"])]) = none from tab_no (by decide +kernel))⟩
  | 7, _, _ => ⟨_, rfl, pc_asks rfl⟩
  | 0, h, _ => absurd h (by decide)
  | 1, h, _ => absurd h (by decide)
  | j + 8, _, h => absurd h (by omega)
end Op
namespace Op
open PySem L2 PyProof.Rows
/-! ### weights -/
theorem wt_str (x : Str) : wt (.str x) = 1 + x.length := by rw [wt]
theorem wt_non : wt .none = 1 := by rw [wt]; all_goals nofun
theorem wts_app : ∀ a b : List PyData, wts (a ++ b) = wts a + wts b
  | [], b => by rw [List.nil_append, wts_nil, Nat.zero_add]
  | x :: r, b => by rw [List.cons_append, wts_cons, wts_cons, wts_app r b]; omega
theorem wts_le {n : Nat} : ∀ {ds : List PyData}, (∀ d ∈ ds, wt d ≤ n) → wts ds ≤ n * ds.length
  | [], _ => by rw [wts_nil]; exact Nat.zero_le _
  | d :: r, h => by
    have h1 := h d List.mem_cons_self
    have h2 := wts_le (ds := r) fun d hd => h d (List.mem_cons_of_mem _ hd)
    rw [wts_cons, List.length_cons, Nat.mul_succ]
    omega
theorem word_len {z : Str} (h : isWordS z = true) : z.length ≤ 8 := (of_decide_eq_true (Bool.and_eq_true_iff.mp h).1).2
theorem put_wt {s v : Str} (h1 : s.length ≤ 8) (h2 : v.length ≤ 8) : wt (dPut s v) ≤ 25 := by
  unfold dPut
  rw [wt_tuple, wts_cons, wts_cons, wts_cons, wts_nil, wt_str, wt_str, wt_str, show ("put" : Str).length = 3 by decide +kernel]
  omega
theorem fill_wt {zs : List Str} {d : PyData} (h : fillRow zs d) : wt d ≤ 40 := by
  obtain ⟨s, v, _, hs, hv, rfl | rfl⟩ := h
  · have := put_wt (word_len hs.1) (word_len hv.1)
    omega
  · have := put_wt (word_len hs.1) (word_len hv.1)
    rw [wt_tuple, wts_cons, wts_cons, wts_nil, wt_str, wt_list, wts_cons, wts_nil, show ("part" : Str).length = 4 by decide +kernel]
    omega
theorem edit_wt {w : Str} (h : w.length ≤ 8) : wt (dEdit w) ≤ 60 := by
  have := put_wt (s := "x") (v := "a") (by decide +kernel) (by decide +kernel)
  unfold dEdit
  rw [wt_tuple, wts_cons, wts_cons, wts_cons, wts_cons, wts_nil, wt_str, wt_str, wt_list, wt_list, wts_nil, wts_cons, wts_nil, show ("edit" : Str).length = 4 by decide +kernel]
  omega
theorem gate_wt {w : Str} (h : w.length ≤ 8) : wt (dGate w) ≤ 60 := by
  unfold dGate
  rw [wt_tuple, wts_cons, wts_cons, wts_cons, wts_cons, wts_nil, wt_str, wt_str, wt_list, wts_nil, show ("gate" : Str).length = 4 by decide +kernel]
  omega
theorem past_wt {w : Str} (h : w.length ≤ 8) : wt (dPast w) ≤ 60 := by
  unfold dPast
  rw [wt_tuple, wts_cons, wts_cons, wts_cons, wts_nil, wt_str, wt_str, wt_list, wts_nil, show ("past" : Str).length = 4 by decide +kernel]
  omega
theorem idw_len {w : Str} (h : two w) (k : Nat) : (idw w k).length ≤ 8 := by
  show (idw w k).cps.size ≤ 8
  obtain ⟨a, b, _, _, e⟩ := two_cps h
  rw [← Array.length_toList, idw_cps, e]
  exact Nat.le_of_ble_eq_true rfl
theorem edits_wt {w : Str} (h : two w) (n : Nat) : wts (edits w n) ≤ 60 * n := by
  have := wts_le (n := 60) (ds := edits w n) fun d hd => by
    unfold edits at hd
    obtain ⟨k, _, rfl⟩ := List.mem_map.mp hd
    exact edit_wt (idw_len h k)
  unfold edits at this ⊢
  rw [List.length_map, List.length_range] at this
  exact this
theorem edits_len (w : Str) (n : Nat) : (edits w n).length = n := by
  unfold edits
  rw [List.length_map, List.length_range]
theorem gates_wt {w : Str} (h : two w) {e : Nat} : ∀ {n : Nat} {ds : List PyData}, Gates w e n ds → wts ds ≤ 60 * n
  | 0, ds, hg => by
    have hg : ds = [] := hg
    rw [hg, wts_nil]
    exact Nat.zero_le _
  | n + 1, ds, hg => by
    obtain ⟨ds', d, rfl, hg', hd⟩ := hg
    have := gates_wt h hg'
    have hd : wt d ≤ 60 := by
      rcases hd with rfl | rfl
      · exact past_wt (idw_len h _)
      · exact gate_wt (idw_len h _)
    rw [wts_app, wts_cons, wts_nil]
    omega
theorem pair_wt {w : Str} (h : two w) (j : Nat) : wt (badPair w j).1 ≤ 60 ∧ wt (badPair w j).2 ≤ 60 := by
  have hl : w.length ≤ 8 := by rw [two_len h]; decide
  have a := edit_wt hl
  have b := gate_wt hl
  have c := past_wt hl
  match j with
  | 0 => exact ⟨a, a⟩
  | 1 => exact ⟨b, a⟩
  | 2 => exact ⟨c, a⟩
  | 3 => exact ⟨a, b⟩
  | 4 => exact ⟨a, c⟩
  | 5 =>
    refine ⟨by show wt .none ≤ 60; rw [wt_non]; decide, ?_⟩
    show wt (.tuple [.str "edit", .str w, .list []]) ≤ 60
    rw [wt_tuple, wts_cons, wts_cons, wts_cons, wts_nil, wt_str, wt_str, wt_list, wts_nil, show ("edit" : Str).length = 4 by decide +kernel]
    omega
  | 6 =>
    refine ⟨by show wt .none ≤ 60; rw [wt_non]; decide, ?_⟩
    show wt (.tuple [.str "edit", .str w, .tuple [], .list []]) ≤ 60
    rw [wt_tuple, wts_cons, wts_cons, wts_cons, wts_cons, wts_nil, wt_str, wt_str, wt_list, wt_tuple, wts_nil, show ("edit" : Str).length = 4 by decide +kernel]
    omega
  | 7 =>
    refine ⟨by show wt .none ≤ 60; rw [wt_non]; decide, ?_⟩
    show wt (.tuple [.str "edit", .str "Word", .list [], .list []]) ≤ 60
    rw [wt_tuple, wts_cons, wts_cons, wts_cons, wts_cons, wts_nil, wt_str, wt_str, wt_list, wts_nil, show ("edit" : Str).length = 4 by decide +kernel, show ("Word" : Str).length = 4 by decide +kernel]
    omega
  | 8 =>
    refine ⟨by show wt .none ≤ 60; rw [wt_non]; decide, ?_⟩
    show wt (.tuple [.str "leave", .str w]) ≤ 60
    rw [wt_tuple, wts_cons, wts_cons, wts_nil, wt_str, wt_str, show ("leave" : Str).length = 5 by decide +kernel]
    omega
  | j + 9 =>
    refine ⟨by show wt .none ≤ 60; rw [wt_non]; decide, ?_⟩
    show wt (.tuple [.str "await", .str w, .str "in"]) ≤ 60
    rw [wt_tuple, wts_cons, wts_cons, wts_cons, wts_nil, wt_str, wt_str, wt_str, show ("await" : Str).length = 5 by decide +kernel, show ("in" : Str).length = 2 by decide +kernel]
    omega
theorem wrap_wt {bs as : List PyData} {r : PyData} {n : Nat} {ds : List PyData} {path : List Int} (h : Wrap bs r as n ds path) : wts ds ≤ wts bs + wt r + wts as + 60 * n := by
  induction h with
  | base => rw [wts_app, wts_app, wts_cons, wts_nil]; omega
  | @step n ds path j hj hw ih =>
    have p := put_wt (s := "x") (v := "a") (by decide +kernel) (by decide +kernel)
    have o : wt (outerD ds j) ≤ wts ds + 30 := by
      match j with
      | 0 =>
        show wt (.tuple [.str "part", .list ds]) ≤ _
        rw [wt_tuple, wts_cons, wts_cons, wts_nil, wt_str, wt_list, show ("part" : Str).length = 4 by decide +kernel]
        omega
      | 1 =>
        show wt (.tuple [.str "loop", .list ds]) ≤ _
        rw [wt_tuple, wts_cons, wts_cons, wts_nil, wt_str, wt_list, show ("loop" : Str).length = 4 by decide +kernel]
        omega
      | 2 =>
        show wt (.tuple [.str "gate", .str "outer", .list [], .list ds]) ≤ _
        rw [wt_tuple, wts_cons, wts_cons, wts_cons, wts_cons, wts_nil, wt_str, wt_str, wt_list, wt_list, wts_nil, show ("gate" : Str).length = 4 by decide +kernel, show ("outer" : Str).length = 5 by decide +kernel]
        omega
      | j + 3 =>
        show wt (.tuple [.str "both", .tuple [.list [], .list ds]]) ≤ _
        rw [wt_tuple, wts_cons, wts_cons, wts_nil, wt_str, wt_tuple, wts_cons, wts_cons, wts_nil, wt_list, wt_list, wts_nil, show ("both" : Str).length = 4 by decide +kernel]
        omega
    rw [wts_cons, wts_cons, wts_nil]
    omega
theorem fills_wt {zs : List Str} {ds : List PyData} (h : ∀ d ∈ ds, fillRow zs d) : wts ds ≤ 40 * ds.length := wts_le fun d hd => fill_wt (h d hd)
theorem wts_take : ∀ (n : Nat) (ds : List PyData), wts (ds.take n) ≤ wts ds
  | 0, ds => by rw [List.take_zero, wts_nil]; exact Nat.zero_le _
  | n + 1, [] => Nat.le_refl _
  | n + 1, d :: r => by
    have := wts_take n r
    rw [List.take_succ_cons, wts_cons, wts_cons]
    omega
theorem befD_wt {zs : List Str} {bs : List PyData} {w : Str} (h : ∀ d ∈ bs, fillRow zs d) (hw : two w) (j : Nat) : wts (befD bs w j) ≤ 40 * bs.length + 60 := by
  have a := fills_wt h
  unfold befD
  split
  · have e : wts bs = wts (bs.take 1) + wts (bs.drop 1) := by rw [← wts_app, List.take_append_drop]
    have := (pair_wt hw j).1
    rw [wts_app, wts_app, wts_cons, wts_nil]
    omega
  · omega
theorem befD_len (bs : List PyData) (w : Str) (j : Nat) : (befD bs w j).length ≤ bs.length + 1 := by
  unfold befD
  split
  · rw [List.length_append, List.length_append, List.length_take, List.length_drop]
    show _ + 1 + _ ≤ _
    omega
  · omega
end Op
namespace L2
open PySem PySem.Spec PyProof.Rows
theorem DpAll.take {K : PySem.W.Frag} {H : Hp} : ∀ {vs : List V} {ds : List PyData} (n : Nat), DpAll K H vs ds → DpAll K H (vs.take n) (ds.take n)
  | _, _, 0, _ => .nil
  | _, _, _ + 1, .nil => .nil
  | _, _, n + 1, .cons h a => .cons h (DpAll.take n a)
end L2
namespace Op
open PySem L2 PyProof.Rows
def argOk : ArgD → Prop
  | .none => True
  | .dict kvs => kvs.length ≤ 1
  | .other d => d = .int 5
theorem pbA_ok (j : Nat) : argOk (pbA j) := by
  unfold pbA
  split
  · exact Nat.zero_le _
  · exact Nat.le_refl _
  · exact Nat.le_refl _
  · exact rfl
  · trivial
theorem pbS_ok (j : Nat) : argOk (pbS j) := by
  unfold pbS
  split
  · exact Nat.le_refl _
  · exact Nat.le_refl _
  · exact Nat.le_refl _
  · trivial
theorem arg1 {x : Str} {d : PyData} (h1 : x.length ≤ 100000) (h2 : wt d ≤ 100000) : argSmall (.dict [(x, d)]) := ⟨by show 1 ≤ 60; decide, fun p hp => by
  rw [List.mem_singleton.mp hp]
  exact ⟨h1, h2⟩⟩
theorem wt_a : wt (.str "a") ≤ 2 := by rw [wt_str]; decide +kernel
theorem wt_int (i : Int) : wt (.int i) = 1 := by rw [wt]; all_goals nofun
theorem wt_bool (i : Bool) : wt (.bool i) = 1 := by rw [wt]; all_goals nofun
theorem pbA_small (j : Nat) : argSmall (pbA j) := by
  have a := wt_a
  unfold pbA
  split
  · exact ⟨by decide, fun p hp => (List.not_mem_nil hp).elim⟩
  · exact arg1 (by decide +kernel) (by rw [wt_tuple, wts_cons, wts_cons, wts_nil]; omega)
  · exact arg1 (by decide +kernel) (by rw [wt_list, wts_cons, wts_nil]; omega)
  · trivial
  · trivial
theorem pbS_small (j : Nat) : argSmall (pbS j) := by
  have a := wt_a
  unfold pbS
  split
  · exact arg1 (by decide +kernel) (by rw [wt_tuple, wts_cons, wts_cons, wts_nil, wt_int, wt_tuple, wts_cons, wts_nil]; omega)
  · exact arg1 (by decide +kernel) (by rw [wt_tuple, wts_cons, wts_cons, wts_nil, wt_int, wt_tuple, wts_cons, wts_nil]; omega)
  · exact arg1 (by decide +kernel) (by rw [wt_tuple, wts_cons, wts_cons, wts_nil, wt_bool, wt_tuple, wts_cons, wts_nil]; omega)
  · trivial
theorem wt_go : wt (.str "go") ≤ 3 := by rw [wt_str]; decide +kernel
theorem goD_small : small goD = true := small_of _ (by have := wt_go; unfold goD; rw [wt_tuple, wts_cons, wts_nil]; omega)
theorem pbI_small (j : Nat) : small (pbI j) = true := by
  have := wt_go
  unfold pbI
  split
  · exact small_of _ (by rw [wt_tuple, wts_nil]; omega)
  · exact small_of _ (by rw [wt_tuple, wts_nil]; omega)
  · exact small_of _ (by rw [wt_list, wts_cons, wts_nil]; omega)
  · exact small_of _ (by rw [wt_tuple, wts_cons, wts_nil]; omega)
section
variable {K : PySem.W.Frag} {H H' : Hp} {p nd : Addr} {zs : List Str} {av sv iv dv : V} {j : Nat}
theorem ArgV.pl {v : V} {a : ArgD} (h : ArgV K H v a) (ok : argOk a) (pl : Pl H p) (b : But p H H') : ArgV K H' v a := by
  cases a with
  | none => exact h
  | other d => exact ⟨h.1.kp (pl.kp b), h.2⟩
  | dict kvs =>
    obtain ⟨q, vs, e, hq, hk, hn⟩ := h
    refine ⟨q, vs, e, b _ _ hq fun z => ?_, hk.mono (pl.kp b), hn⟩
    obtain ⟨x, y, c, hp, _⟩ := pl
    rw [z, hp] at hq
    have := HO.dK.inj (Option.some.inj hq)
    have l := hk.len
    rw [← this] at l
    have ok : kvs.length ≤ 1 := ok
    have l : 3 = kvs.length := l
    omega
/-- what is not a small dict is none of the arguments -/
theorem arg_not {v : V} {a : ArgD} {b : Addr} {o : HO} (h : ArgV K H v a) (ok : argOk a) (hb : H b = some o) (ho : ∀ kvs, o = .dK kvs → 2 ≤ kvs.length) : b ∉ argL v := by
  cases a with
  | none =>
    have h : v = .non := h
    rw [h]
    exact fun m => (List.not_mem_nil m).elim
  | other d =>
    obtain ⟨h, _⟩ := h
    have ok : d = .int 5 := ok
    subst ok
    cases h
    exact fun m => (List.not_mem_nil m).elim
  | dict kvs =>
    obtain ⟨q, vs, rfl, hq, hk, _⟩ := h
    intro m
    have m : b ∈ [q] := m
    rw [List.mem_singleton.mp m, hq] at hb
    have := ho vs (Option.some.inj hb).symm
    have l := hk.len
    have ok : kvs.length ≤ 1 := ok
    omega
structure Rg (K : PySem.W.Frag) (H : Hp) (p nd : Addr) (zs : List Str) (av sv iv dv : V) (j : Nat) : Prop where
  pl : Pl H p
  nm : Nm H nd zs
  a : ArgV K H av (pbA j)
  s : ArgV K H sv (pbS j)
  i : Dp K H iv (pbI j)
  d : Dp K H dv (pbD j)
theorem Rg.but (h : Rg K H p nd zs av sv iv dv j) (b : But p H H') (pl : Pl H' p) : Rg K H' p nd zs av sv iv dv j :=
  ⟨pl, h.nm.but h.pl b, h.a.pl (pbA_ok j) h.pl b, h.s.pl (pbS_ok j) h.pl b, h.i.kp (h.pl.kp b), h.d.kp (h.pl.kp b)⟩
theorem Rg.mono (h : Rg K H p nd zs av sv iv dv j) (s : Same H H') : Rg K H' p nd zs av sv iv dv j :=
  ⟨h.pl.mono s, h.nm.mono s, h.a.mono s, h.s.mono s, h.i.mono s, h.d.mono s⟩
/-- a list of rows -/
structure Ls (K : PySem.W.Frag) (H : Hp) (l : Addr) (ds : List PyData) : Prop where
  ex : ∃ xs, H l = some (.lst xs) ∧ DpAll K H xs ds
theorem Ls.kp {l : Addr} {ds : List PyData} (h : Ls K H l ds) (k : Kp H H') : Ls K H' l ds := let ⟨xs, a, b⟩ := h.ex; ⟨xs, k _ _ a rfl, DpAll.kp k b⟩
theorem Ls.dp {l : Addr} {ds : List PyData} (h : Ls K H l ds) : Dp K H (.ref l) (.list ds) := let ⟨xs, a, b⟩ := h.ex; .lst (.inl (.inl a)) b
end
theorem cut_mid {xb xm xa : List V} (h : 4 ≤ xm.length) : cutV (xb ++ xm ++ xa) (some (xb.length : Nat)) (some ((xb.length : Nat) + 4)) = xm.take 4 := by
  unfold cutV
  rw [show (((xb.length : Nat) : Int) + 4) = ((xb.length + 4 : Nat) : Int) by omega, HT.sIx_nat, HT.sIx_nat, List.length_append, List.length_append]
  rw [show min xb.length (xb.length + xm.length + xa.length) = xb.length by omega, show min (xb.length + 4) (xb.length + xm.length + xa.length) = xb.length + 4 by omega]
  rw [show xb.length + 4 - xb.length = 4 by omega, List.append_assoc, List.drop_left, List.take_append_of_le_length h]
theorem cut_t1 (xs : List V) : cutV xs none (some 1) = xs.take 1 := by
  unfold cutV
  rw [show (1 : Int) = ((1 : Nat) : Int) from rfl, HT.sIx_nat, HT.sIx_none, List.drop_zero, Nat.sub_zero]
  by_cases h : 1 ≤ xs.length
  · rw [show min 1 xs.length = 1 by omega]
  · have : xs = [] := List.length_eq_zero_iff.mp (by omega)
    rw [this]
    rfl
theorem cut_d1 (xs : List V) : cutV xs (some 1) none = xs.drop 1 := by
  unfold cutV
  rw [show (1 : Int) = ((1 : Nat) : Int) from rfl, HT.sIx_nat, HT.sIx_none]
  by_cases h : 1 ≤ xs.length
  · rw [show min 1 xs.length = 1 by omega, List.take_of_length_le (by rw [List.length_drop]; exact Nat.le_refl _)]
  · have : xs = [] := List.length_eq_zero_iff.mp (by omega)
    rw [this]
    rfl
/-! ### too many edits, too many ids -/
def ManyOk (w : Str) (M : List PyData) (part : Str) : Prop := (M = edits w 5 ∧ part = "edits") ∨ ∃ e ds, 1 ≤ e ∧ e ≤ 4 ∧ Gates w e (9 - e) ds ∧ M = edits w e ++ ds ∧ part = "gates"
def spMany2 (K : PySem.W.Frag) : Sp := fun vs H Q _ => ∃ (p : Addr) (w : Str), vs = [.ref p, .str w] ∧ Pl H p ∧ w.length ≤ 100 ∧
  ∀ (t l : Addr) (u : V) H' (M : List PyData) (part : Str), But p H H' → Pl H' p → ManyOk w M part → SqT K H' t [.ref l, u] → Ls K H' l M → Dp K H' u (.tuple [.str part, .tuple []]) → Q (.ref t) H'
theorem ok_many2 {P : Program} {w : World} {K : PySem.W.Frag} {mg : Str → Option Value} {base : Heap} {f : Addr} {fd : FuncData} (h : FnOk P w K mg base CX0 2 f fd ["_law_pool_here", "_law_word"] (spMany K)) : FnOk P w K mg base CX0 2 f fd ["_law_pool_here", "_law_word"] (spMany2 K) := by
  refine h.imp fun vs H Q E hq => ?_
  obtain ⟨p, w0, rfl, hp, hl, k⟩ := hq
  refine ⟨p, w0, rfl, hp, hl, fun v H' but pl h => ?_, fun v H' e ds but pl h1 h2 hg h => ?_⟩
  · obtain ⟨t, l, xs, u, rfl, ht, hl', hd, hu⟩ := h
    exact k t l u H' _ _ but pl (.inl ⟨rfl, rfl⟩) ht ⟨xs, hl', hd⟩ hu
  · obtain ⟨t, l, xs, u, rfl, ht, hl', hd, hu⟩ := h
    exact k t l u H' _ _ but pl (.inr ⟨e, ds, h1, h2, hg, rfl, rfl⟩) ht ⟨xs, hl', hd⟩ hu
section
variable {w part : Str} {M bs as : List PyData} {zs : List Str}
theorem ManyOk.len (hw : two w) (h : ManyOk w M part) : 5 ≤ M.length ∧ M.length ≤ 9 ∧ wts M ≤ 540 := by
  rcases h with ⟨rfl, _⟩ | ⟨e, ds, h1, h2, hg, rfl, _⟩
  · have := edits_wt hw 5
    rw [edits_len]
    omega
  · have := edits_wt hw e
    have := gates_wt hw hg
    rw [List.length_append, edits_len, hg.len, wts_app]
    omega
variable (hz : zs.length = 2) (hb : ∀ d ∈ bs, fillRow zs d) (ha : ∀ d ∈ as, fillRow zs d) (hbl : bs.length ≤ 3) (hal : as.length ≤ 2) (hw : two w)
include hz hb ha hbl hal hw
theorem ManyOk.bad (h : ManyOk w M part) : progCheck true .none .none goD (.list (bs ++ M ++ as)) = .error (part, []) := by
  rcases h with ⟨rfl, rfl⟩ | ⟨e, ds, h1, h2, hg, rfl, rfl⟩
  · exact bad_many1 hz hb ha hbl hal hw
  · exact bad_many2 hz hb ha hbl hal hw h1 h2 hg
theorem ManyOk.good (h : ManyOk w M part) : ∃ c, progCheck true .none .none goD (.list (bs ++ M.take 4 ++ as)) = .ok c := by
  rcases h with ⟨rfl, rfl⟩ | ⟨e, ds, h1, h2, hg, rfl, rfl⟩
  · have e : (edits w 5).take 4 = edits w 4 := by rw [edits_succ, List.take_append_of_le_length (by rw [edits_len]; decide), List.take_of_length_le (by rw [edits_len]; decide)]
    rw [e]
    exact good_many1 hz hb ha hbl hal hw
  · have e1 : (edits w e ++ ds).take 4 = edits w e ++ ds.take (4 - e) := by rw [List.take_append, List.take_of_length_le (by rw [edits_len]; exact h2), edits_len]
    rw [e1]
    exact good_many2 hz hb ha hbl hal hw h2 (hg.take (by omega))
end
theorem first_ref {K : PySem.W.Frag} {H : Hp} {v : V} {w : Str} {j : Nat} (h : Dp K H v (badPair w j).1) : if j < 5 then v ≠ .non else v = .non := by
  match j with
  | 0 => cases h; exact fun z => nomatch z
  | 1 => cases h; exact fun z => nomatch z
  | 2 => cases h; exact fun z => nomatch z
  | 3 => cases h; exact fun z => nomatch z
  | 4 => cases h; exact fun z => nomatch z
  | 5 => cases h; exact rfl
  | 6 => cases h; exact rfl
  | 7 => cases h; exact rfl
  | 8 => cases h; exact rfl
  | j + 9 => rw [if_neg (by omega)]; cases h; exact rfl
theorem fr_nil {H H' : Hp} (f : Fr [] H H') : Same H H' := fun b o h => f b o h fun m => (List.not_mem_nil m).elim
theorem ke_canLayAll0 : ∀ ns : List Int, PyData.canLayAll0 (ns.map PyData.int) = true
  | [] => rfl
  | _ :: r => by simp [PyData.canLayAll0, PyData.canLay0, ke_canLayAll0 r]
theorem ke_depthAll : ∀ ns : List Int, PyData.depthAll (ns.map PyData.int) = 0
  | [] => rfl
  | _ :: r => by simp [PyData.depthAll, PyData.depth, ke_depthAll r]
theorem told_shaped {part : Str} {path : List Int} (h : PyData.canLay0 (.str part) = true) : SeqAt.shaped (.tuple [.str part, .tuple (path.map .int)]) = true := by
  simp [SeqAt.shaped, PyData.canLay0, PyData.canLayAll0, PyData.depth, PyData.depthAll, ke_canLayAll0, ke_depthAll]
  simpa [PyData.canLay0] using h
theorem told_eqv {part : Str} {path : List Int} (h : PyData.canLay0 (.str part) = true) : PyData.eqv (.tuple [.str part, .tuple (path.map .int)]) (.tuple [.str part, .tuple (path.map .int)]) = true := SeqAt.eqv_refl _ (SeqAt.canLay_of_shaped (told_shaped h))
theorem ManyOk.lay {w part : Str} {M : List PyData} (h : ManyOk w M part) : PyData.canLay0 (.str part) = true := by
  rcases h with ⟨_, rfl⟩ | ⟨_, _, _, _, _, _, rfl⟩ <;> decide +kernel
theorem due_val {K : PySem.W.Frag} {H : Hp} {v : V} : ∀ {j : Nat}, j < 8 → Dp K H v (pbD j) → (v = .non ∧ j < 2) ∨ (v ≠ .non ∧ 2 ≤ j ∧ ∃ s, v = .str s ∧ pbD j = .str s ∧ PyData.canLay0 (.str s) = true)
  | 0, _, h => by cases h; exact .inl ⟨rfl, by decide⟩
  | 1, _, h => by cases h; exact .inl ⟨rfl, by decide⟩
  | 2, _, h => by cases h; exact .inr ⟨fun z => (nomatch z), by decide, _, rfl, rfl, by decide +kernel⟩
  | 3, _, h => by cases h; exact .inr ⟨fun z => (nomatch z), by decide, _, rfl, rfl, by decide +kernel⟩
  | 4, _, h => by cases h; exact .inr ⟨fun z => (nomatch z), by decide, _, rfl, rfl, by decide +kernel⟩
  | 5, _, h => by cases h; exact .inr ⟨fun z => (nomatch z), by decide, _, rfl, rfl, by decide +kernel⟩
  | 6, _, h => by cases h; exact .inr ⟨fun z => (nomatch z), by decide, _, rfl, rfl, by decide +kernel⟩
  | 7, _, h => by cases h; exact .inr ⟨fun z => (nomatch z), by decide, _, rfl, rfl, by decide +kernel⟩
  | j + 8, h, _ => absurd h (by omega)
def spLaw (K : PySem.W.Frag) : Sp := fun vs H Q _ => ∃ (a : Addr) (ns : List Int), vs = [.ref a] ∧ SqL K H a (ns.map V.int) ∧ ns.length ≤ 63 ∧ ∀ H', Q (.bl true) H'
end Op
namespace Op
open PySem L2 PyProof.Rows
section
variable {P : Program} {w : World} {K : PySem.W.Frag} {mg : Str → Option Value} {base : Heap}
theorem sc_law : FnScope ["_law_script", "_law_pool_here", "_law_names_here", "_law_word", "_law_asked", "_law_boxes", "_law_starts", "_law_due", "_law_before", "_law_after", "_law_rows", "_law_fault_here", "_law_good", "_law_first", "_law_row", "_law_path"] ["_law_script"] (defScope s_law) := ⟨rfl, rfl, rfl, by decide +kernel, rfl, by decide +kernel, by decide +kernel⟩
theorem ok_law {f : Addr} {fd : FuncData} (F : Fun K "law" "law" s_law f fd) (T : Txt mg)
    (c__law_pool : Cal P w K mg base CX0 1 "_law_pool" ["_law_script", "_law_k"] (spPool K)) (c__law_draw : Cal P w K mg base CX0 1 "_law_draw" ["_law_pool_here", "_law_many_here"] spD) (c__law_names : Cal P w K mg base CX0 2 "_law_names" ["_law_pool_here", "_law_many_here"] spNames)
    (c__law_parts_bad : Cal P w K mg base CX0 2 "_law_parts_bad" ["_law_pool_here"] (spPB K)) (c__law_filler : Cal P w K mg base CX0 3 "_law_filler" ["_law_pool_here", "_law_names_here", "_law_many_here"] (spFiller K)) (c__law_many : Cal P w K mg base CX0 2 "_law_many" ["_law_pool_here", "_law_word"] (spMany2 K))
    (c__law_bad_rows : Cal P w K mg base CX0 2 "_law_bad_rows" ["_law_pool_here", "_law_word"] (spBad K)) (c__law_wrapped : Cal P w K mg base CX0 2 "_law_wrapped" ["_law_pool_here", "_law_before", "_law_row", "_law_after"] (spWrap K))
    (c__law_fault : Cal P w K mg base CX0 15 "_law_fault" ["_law_rows", "_law_asked", "_law_boxes", "_law_starts", "_law_edits"] (spFault K)) (c__law_edit : Cal P w K mg base CX0 1 "_law_edit" ["_law_word"] (spEdit K)) : FnOk P w K mg base CX0 16 f fd ["_law_script"] (spLaw K) := by
  refine F.ok sc_law (fun vs H Q E h => ?_) (fun cdv A outer s H vs Q E hr h => ?_)
  · obtain ⟨a, ns, rfl, _⟩ := h
    rfl
  · obtain ⟨a, ns, rfl, hS, hlen, k⟩ := h
    have hu := hu_of hr
    refine ⟨_, (pss_cons (ps_set (i := 1) sc_law.nd rfl (.inl rfl) (pe_cal c__law_pool (hr.mono (by omega)) rfl pass0 (pa_cons (pv 0) (pa_cons pe_int pa_nil))))
      (pss_cons (ps_set (i := 2) sc_law.nd rfl (.inl rfl) (pe_disp (pps_cons pe_str (pe_cal c__law_names (hr.mono (by omega)) rfl pass0 (pa_cons (pv 1) (pa_cons pe_int pa_nil))) (pps_cons pe_str (pe_cal c__law_names (hr.mono (by omega)) rfl pass0 (pa_cons (pv 1) (pa_cons pe_int pa_nil))) pps_nil)) (by rfl) (by rfl) (fun z => by cases z) (by decide)))
      (pss_cons (ps_set (i := 3) sc_law.nd rfl (.inl rfl) (pe_op op_add_str (pe_ix ix_str pe_str (pe_cal c__law_draw (hr.mono (by omega)) rfl pass0 (pa_cons (pv 1) (pa_cons pe_int pa_nil))) (fun _ _ => rfl)) (pe_ix ix_str pe_str (pe_cal c__law_draw (hr.mono (by omega)) rfl pass0 (pa_cons (pv 1) (pa_cons pe_int pa_nil))) (fun _ _ => rfl))))
      (pss_cons (ps_asg (pe_cal c__law_parts_bad (hr.mono (by omega)) rfl pass0 (pa_cons (pv 1) pa_nil)) (pg_tup rfl (pgs_cons (pg_name (i := 4) sc_law.nd rfl (.inl rfl)) (pgs_cons (pg_name (i := 5) sc_law.nd rfl (.inl rfl)) (pgs_cons (pg_name (i := 6) sc_law.nd rfl (.inl rfl)) (pgs_cons (pg_name (i := 7) sc_law.nd rfl (.inl rfl)) pgs_nil))))))
      (pss_cons (ps_set (i := 8) sc_law.nd rfl (.inl rfl) (pe_cal c__law_filler (hr.mono (by omega)) rfl pass0 (pa_cons (pv 1) (pa_cons (pv 2) (pa_cons (pe_cal c__law_draw (hr.mono (by omega)) rfl pass0 (pa_cons (pv 1) (pa_cons pe_int pa_nil))) pa_nil)))))
      (pss_cons (ps_set (i := 9) sc_law.nd rfl (.inl rfl) (pe_cal c__law_filler (hr.mono (by omega)) rfl pass0 (pa_cons (pv 1) (pa_cons (pv 2) (pa_cons (pe_cal c__law_draw (hr.mono (by omega)) rfl pass0 (pa_cons (pv 1) (pa_cons pe_int pa_nil))) pa_nil)))))
      (Evl.pss_cut (ps_if (pt_cmpR op_eq (pe_cal c__law_draw (hr.mono (by omega)) rfl pass0 (pa_cons (pv 1) (pa_cons pe_int pa_nil))) pe_int (nomark _)) (pss_cons (ps_asg (pe_cal c__law_many (hr.mono (by omega)) rfl pass0 (pa_cons (pv 1) (pa_cons (pv 3) pa_nil))) (pg_tup rfl (pgs_cons (pg_name (i := 10) sc_law.nd rfl (.inl rfl)) (pgs_cons (pg_name (i := 11) sc_law.nd rfl (.inl rfl)) pgs_nil))))
      (pss_cons (ps_set (i := 10) sc_law.nd rfl (.inl rfl) (pe_op op_cat (pe_op op_cat (pv 8) (pv 10)) (pv 9)))
      (pss_one (ps_set (i := 12) sc_law.nd rfl (.inl rfl) (pe_op op_cat (pe_op op_cat (pv 8) (pe_slice sl_list (pv 10) (po_some (pe_callB call_len_seq (by rfl) T.b_len (by decide +kernel) (pa_cons (pv 8) pa_nil))) (po_some (pe_op op_add (pe_callB call_len_seq (by rfl) T.b_len (by decide +kernel) (pa_cons (pv 8) pa_nil)) pe_int)))) (pv 9)))))) (pss_cons (ps_asg (pe_cal c__law_bad_rows (hr.mono (by omega)) rfl pass0 (pa_cons (pv 1) (pa_cons (pv 3) pa_nil))) (pg_tup rfl (pgs_cons (pg_name (i := 13) sc_law.nd rfl (.inl rfl)) (pgs_cons (pg_name (i := 14) sc_law.nd rfl (.inl rfl)) pgs_nil))))
      (Evl.pss_cut (ps_if (pt_cmpR op_notN (pv 13) pe_non (nomark _)) (pss_one (ps_set (i := 8) sc_law.nd rfl (.inl rfl) (pe_op op_cat (pe_op op_cat (pe_slice sl_list (pv 8) po_none (po_some pe_int)) (pe_lst (pa_cons (pv 13) pa_nil))) (pe_slice sl_list (pv 8) (po_some pe_int) po_none)))) pss_nil)
      (Evl.pss_cut (ps_if (pt_cmpR op_eq (pe_cal c__law_draw (hr.mono (by omega)) rfl pass0 (pa_cons (pv 1) (pa_cons pe_int pa_nil))) pe_int (nomark _)) (pss_one (ps_set (i := 9) sc_law.nd rfl (.inl rfl) (pe_op op_cat (pv 9) (pe_lst (pa_cons (pe_tup (pa_cons pe_str (pa_cons (pv 3) pa_nil))) pa_nil))))) pss_nil)
      (pss_cons (ps_asg (pe_cal c__law_wrapped (hr.mono (by omega)) rfl pass0 (pa_cons (pv 1) (pa_cons (pv 8) (pa_cons (pv 14) (pa_cons (pv 9) pa_nil))))) (pg_tup rfl (pgs_cons (pg_name (i := 10) sc_law.nd rfl (.inl rfl)) (pgs_cons (pg_name (i := 15) sc_law.nd rfl (.inl rfl)) pgs_nil))))
      (pss_cons (ps_set (i := 11) sc_law.nd rfl (.inl rfl) (pe_tup (pa_cons pe_str (pa_cons (pv 15) pa_nil))))
      (pss_one (ps_set (i := 12) sc_law.nd rfl (.inl rfl) (pe_op op_cat (pv 8) (pe_lst (pa_cons (pe_tup (pa_cons pe_str (pa_cons (pv 3) pa_nil))) pa_nil)))))))))))
      (Evl.pss_cut (ps_if (PW.pt (pw_and (pt_cmpR op_eq (pe_cal c__law_draw (hr.mono (by omega)) rfl pass0 (pa_cons (pv 1) (pa_cons pe_int pa_nil))) pe_int (nomark _)) (pw_and1 (pt_cmpR op_notN (pv 7) pe_non (nomark _))))) (pss_one (ps_set (i := 11) sc_law.nd rfl (.inl rfl) (pe_tup (pa_cons (pv 7) (pa_cons (pe_tup pa_nil) pa_nil))))) (pss_one (ps_asg (pe_tup (pa_cons pe_non (pa_cons pe_non (pa_cons (pe_tup (pa_cons pe_str pa_nil)) pa_nil)))) (pg_tup rfl (pgs_cons (pg_name (i := 4) sc_law.nd rfl (.inl rfl)) (pgs_cons (pg_name (i := 5) sc_law.nd rfl (.inl rfl)) (pgs_cons (pg_name (i := 6) sc_law.nd rfl (.inl rfl)) pgs_nil)))))))
      (pss_cons (ps_if (pt_cmpR op_ne (pe_ix ix_tup (pe_cal c__law_fault (hr.mono (by omega)) rfl pass0 (pa_cons (pv 12) (pa_cons pe_non (pa_cons pe_non (pa_cons (pe_tup (pa_cons pe_str pa_nil)) (pa_cons pe_bl pa_nil)))))) pe_int (fun _ _ => rfl)) pe_str (nomark _)) (pss_one (ps_ret pe_bl)) pss_nil)
      (pss_cons (ps_if (pt_cmpR (op_neD hr.units) (pe_cal c__law_fault (hr.mono (by omega)) rfl pass0 (pa_cons (pv 10) (pa_cons (pv 4) (pa_cons (pv 5) (pa_cons (pv 6) (pa_cons pe_bl pa_nil)))))) (pv 11) (nomark _)) (pss_one (ps_ret pe_bl)) pss_nil)
      (pss_cons (ps_asg (pe_cal c__law_wrapped (hr.mono (by omega)) rfl pass0 (pa_cons (pv 1) (pa_cons (pe_cal c__law_filler (hr.mono (by omega)) rfl pass0 (pa_cons (pv 1) (pa_cons (pv 2) (pa_cons (pe_cal c__law_draw (hr.mono (by omega)) rfl pass0 (pa_cons (pv 1) (pa_cons pe_int pa_nil))) pa_nil)))) (pa_cons (pe_cal c__law_edit (hr.mono (by omega)) rfl pass0 (pa_cons (pv 3) pa_nil)) (pa_cons (pv 9) pa_nil))))) (pg_tup rfl (pgs_cons (pg_name (i := 10) sc_law.nd rfl (.inl rfl)) (pgs_cons (pg_name (i := 15) sc_law.nd rfl (.inl rfl)) pgs_nil))))
      (pss_one (ps_ret (pe_cmpR (op_eqD hr.units) (pe_cal c__law_fault (hr.mono (by omega)) rfl pass0 (pa_cons (pv 10) (pa_cons pe_non (pa_cons pe_non (pa_cons (pe_tup (pa_cons pe_str pa_nil)) (pa_cons pe_bl pa_nil)))))) (pe_tup (pa_cons pe_str (pa_cons (pv 15) pa_nil))) (nomark _))))))))))))))), ?_⟩
    refine ⟨_, rfl, a, ns, rfl, hS, hlen, fun p b sd c hp hb => ?_⟩
    have pl1 : Pl (upd H p (pool b sd c)) p := ⟨b, sd, c, upd_same, hb⟩
    revert pl1
    generalize upd H p (pool b sd c) = H1
    intro pl1
    intro nd hnd
    have s2 := Same.new (o := .dK []) hnd
    have l2 := at_new (o := .dK []) hnd
    revert s2 l2
    generalize upd H1 nd (.dK []) = H2
    intro s2 l2
    refine ⟨_, rfl, p, 2, rfl, pl1.mono s2, by decide, fun ls zs H3 hz hzo but3 pl3 hls => ?_⟩
    have nd_p : nd ≠ p := fun e => by
      obtain ⟨_, _, _, hh, _⟩ := pl1
      rw [e, hh] at hnd
      cases hnd
    have l3 := but3 _ _ l2 nd_p
    refine ⟨_, rfl, p, 3, rfl, pl3, by decide, fun lw ws H4 hw hwo but4 pl4 hlw => ?_⟩
    have l4 := but4 _ _ l3 nd_p
    have hls4 := pl3.kp but4 _ _ hls rfl
    refine ⟨l4, [(.inr "slots", .ref ls), (.inr "words", .ref lw)], rfl, (by show 2 ≤ 15; decide), ?_⟩
    have nm5 : Nm (upd H4 nd (.dK (mergeK [] [(.inr "slots", .ref ls), (.inr "words", .ref lw)]))) nd zs := by
      have n1 : ls ≠ nd := fun e => by rw [e, l4] at hls4; cases hls4
      have n2 : lw ≠ nd := fun e => by rw [e, l4] at hlw; cases hlw
      exact ⟨ls, lw, ws, upd_same, by rw [upd_ne n1]; exact hls4, by rw [upd_ne n2]; exact hlw, hz, hw, hzo, hwo⟩
    have pl5 : Pl (upd H4 nd (.dK (mergeK [] [(.inr "slots", .ref ls), (.inr "words", .ref lw)]))) p := by
      obtain ⟨x, y, z, hh, hx⟩ := pl4
      exact ⟨x, y, z, by rw [upd_ne nd_p.symm]; exact hh, hx⟩
    revert nm5 pl5
    generalize upd H4 nd _ = H5
    intro nm5 pl5
    have hl26 : letters.cps.toList.length = 26 := by decide +kernel
    refine ⟨_, rfl, p, 26, rfl, pl5, by decide, by decide, fun r1 H6 r1a r1b but6 pl6 => ?_⟩
    obtain ⟨j1, rfl⟩ := Int.eq_ofNat_of_zero_le r1a
    have hc1 : letters.cps.toList[j1]? = some (letters.cps.toList[j1]'(by omega)) := List.getElem?_eq_getElem _
    refine ⟨letters, j1, _, rfl, rfl, sz_lit (by decide +kernel), atI_nat (j := j1) hc1, ?_⟩
    refine ⟨_, rfl, p, 26, rfl, pl6, by decide, by decide, fun r2 H7 r2a r2b but7 pl7 => ?_⟩
    obtain ⟨j2, rfl⟩ := Int.eq_ofNat_of_zero_le r2a
    have hc2 : letters.cps.toList[j2]? = some (letters.cps.toList[j2]'(by omega)) := List.getElem?_eq_getElem _
    refine ⟨letters, j2, _, rfl, rfl, sz_lit (by decide +kernel), atI_nat (j := j2) hc2, _, _, rfl, rfl, sz_lit (by show 1 + 1 ≤ 100000; decide), ?_⟩
    have hw2 : two ((⟨#[letters.cps.toList[j1]'(by omega)]⟩ : Str) ++ ⟨#[letters.cps.toList[j2]'(by omega)]⟩) := ⟨_, _, List.mem_of_getElem? hc1, List.mem_of_getElem? hc2, rfl⟩
    revert hw2
    generalize ((⟨#[letters.cps.toList[j1]'(by omega)]⟩ : Str) ++ ⟨#[letters.cps.toList[j2]'(by omega)]⟩) = wd
    intro hw2
    have nm7 := (nm5.but pl5 but6).but pl6 but7
    refine ⟨_, rfl, p, rfl, pl7, fun j v H8 hj but8 pl8 ⟨t, av, sv, iv, dv, ev, ht, ha, hs, hi, hd⟩ => ⟨t, _, ev, ht, rfl, ?_⟩⟩
    have rg8 : Rg K H8 p nd zs av sv iv dv j := ⟨pl8, nm7.but pl7 but8, ha, hs, hi, hd⟩
    refine ⟨_, _, rfl, _, _, rfl, _, _, rfl, _, _, rfl, rfl, ?_⟩
    refine ⟨_, rfl, _, rfl, _, rfl, p, 4, rfl, pl8, by decide, by decide, fun r3 H9 r3a r3b but9 pl9 => ?_⟩
    obtain ⟨nb, rfl⟩ := Int.eq_ofNat_of_zero_le r3a
    have rg9 := rg8.but but9 pl9
    refine ⟨p, nd, nb, zs, rfl, pl9, rg9.nm, by omega, fun lb xb bs H10 hbl hbf but10 pl10 hlb hdb => ?_⟩
    have rg10 := rg9.but but10 pl10
    have ls10 : Ls K H10 lb bs := ⟨xb, hlb, hdb⟩
    refine ⟨_, rfl, _, rfl, _, rfl, p, 3, rfl, pl10, by decide, by decide, fun r4 H11 r4a r4b but11 pl11 => ?_⟩
    obtain ⟨na, rfl⟩ := Int.eq_ofNat_of_zero_le r4a
    have rg11 := rg10.but but11 pl11
    refine ⟨p, nd, na, zs, rfl, pl11, rg11.nm, by omega, fun la xa as H12 hal haf but12 pl12 hla hda => ?_⟩
    have rg12 := rg11.but but12 pl12
    have ls12 : Ls K H12 lb bs := (ls10.kp (pl10.kp but11)).kp (pl11.kp but12)
    have as12 : Ls K H12 la as := ⟨xa, hla, hda⟩
    have lnb : xb.length = bs.length := hdb.len
    have lna : xa.length = as.length := hda.len
    refine ⟨fun σ H' => ∃ (y8 y13 y14 y15 : Option V) (la : Addr) (vr vg fv : V) (as' ds gs : List PyData) (part : Str) (path : List Int), σ = [some (.ref a), some (.ref p), some (.ref nd), some (.str wd), some av, some sv, some iv, some dv, y8, some (.ref la), some vr, some fv, some vg, y13, y14, y15] ∧ Rg K H' p nd zs av sv iv dv j ∧ Ls K H' la as' ∧ as'.length ≤ 3 ∧ wts as' ≤ 500 ∧ Dp K H' vr (.list ds) ∧ wts ds ≤ 20000 ∧ Dp K H' vg (.list gs) ∧ wts gs ≤ 20000 ∧ Dp K H' fv (.tuple [.str part, .tuple (path.map .int)]) ∧ (∃ c, progCheck true .none .none goD (.list gs) = .ok c) ∧ progCheck true .none .none goD (.list ds) = .error (part, path) ∧ PyData.canLay0 (.str part) = true, ?_, ?_⟩
    · refine ⟨_, rfl, p, 3, rfl, pl12, by decide, by decide, fun r5 H13 r5a r5b but13 pl13 => ⟨rfl, _, rfl, ?_⟩⟩
      have rg13 := rg12.but but13 pl13
      have bs13 := ls12.kp (pl12.kp but13)
      have as13 := as12.kp (pl12.kp but13)
      clear hdb hlb hda hla ls12 as12 ls10
      have wb := fills_wt hbf
      have wa := fills_wt haf
      by_cases e5 : r5 = 0
      · refine ifT (decide_eq_true (congrArg V.int e5)) ?_
        refine ⟨_, rfl, _, rfl, p, wd, rfl, pl13, (by rw [two_len hw2]; decide), fun t l u H14 M part but14 pl14 hM ht hl hu14 => ⟨t, _, rfl, ht, rfl, _, _, rfl, _, _, rfl, rfl, ?_⟩⟩
        obtain ⟨M5, M9, Mw⟩ := hM.len hw2
        have rg14 := rg13.but but14 pl14
        obtain ⟨xb, hlb, hdb⟩ := (bs13.kp (pl13.kp but14)).ex
        obtain ⟨xa, hla, hda⟩ := (as13.kp (pl13.kp but14)).ex
        obtain ⟨xm, hlm, hdm⟩ := hl.ex
        have lb' := hdb.len
        have la' := hda.len
        have lm' := hdm.len
        refine ⟨_, rfl, _, rfl, lb, l, xb, xm, rfl, rfl, hlb, hlm, sz_lit (by omega), fun q1 hq1 => ⟨_, rfl, q1, la, xb ++ xm, xa, rfl, rfl, upd_same, Same.new hq1 _ _ hla, sz_lit (by rw [List.length_append]; omega), fun q2 hq2 => ?_⟩⟩
        have s16 := (Same.new (o := .lst (xb ++ xm)) hq1).trans (Same.new (o := .lst (xb ++ xm ++ xa)) hq2)
        have l16 := at_new (o := .lst (xb ++ xm ++ xa)) hq2
        revert s16 l16
        generalize upd (upd H14 q1 _) q2 _ = H16
        intro s16 l16
        have hlb16 := s16 _ _ hlb
        have hla16 := s16 _ _ hla
        refine ⟨_, rfl, _, rfl, _, rfl, lb, xb, rfl, .inl (.inl (.inl hlb16)), _, rfl, _, rfl, lb, xb, rfl, .inl (.inl (.inl hlb16)), _, _, rfl, rfl, _, rfl, q2, _, rfl, .inl (.inl l16), fun q3 hq3 => ?_⟩
        rw [cut_mid (by omega)]
        have tk : (xm.take 4).length = 4 := by rw [List.length_take]; omega
        refine ⟨lb, q3, xb, xm.take 4, rfl, rfl, Same.new hq3 _ _ hlb16, upd_same, sz_lit (by omega), fun q4 hq4 => ⟨_, rfl, q4, la, xb ++ xm.take 4, xa, rfl, rfl, upd_same, Same.new hq4 _ _ (Same.new hq3 _ _ hla16), sz_lit (by rw [List.length_append]; omega), fun q5 hq5 => ?_⟩⟩
        have s17 := (Same.new (o := .lst (xm.take 4)) hq3).trans ((Same.new (o := .lst (xb ++ xm.take 4)) hq4).trans (Same.new (o := .lst (xb ++ xm.take 4 ++ xa)) hq5))
        have l17 := at_new (o := .lst (xb ++ xm.take 4 ++ xa)) hq5
        revert s17 l17
        generalize upd (upd (upd H16 q3 _) q4 _) q5 _ = H17
        intro s17 l17
        have sA := s16.trans s17
        have wt4 := wts_take 4 M
        refine ⟨_, _, _, _, la, _, _, _, as, bs ++ M ++ as, bs ++ M.take 4 ++ as, part, [], rfl, rg14.mono sA, ⟨xa, sA _ _ hla, DpAll.mono sA hda⟩, by omega, by omega, .lst (.inl (.inl (s17 _ _ l16))) (DpAll.mono sA ((hdb.append hdm).append hda)), by rw [wts_app, wts_app]; omega, .lst (.inl (.inl l17)) (DpAll.mono sA ((hdb.append (hdm.take 4)).append hda)), by rw [wts_app, wts_app]; omega, hu14.mono sA, hM.good hz hbf haf (by omega) (by omega) hw2, hM.bad hz hbf haf (by omega) (by omega) hw2, hM.lay⟩
      · refine ifF (decide_eq_false fun z => e5 (V.int.inj z)) ?_
        refine ⟨_, rfl, _, rfl, p, wd, rfl, pl13, fun jb v H14 hjb but14 pl14 hd14 => ?_⟩
        cases hd14 with
        | @tup t xs _ ht hxs =>
        cases hxs with
        | @cons v1 r1 _ _ hv1 hr1 =>
        cases hr1 with
        | @cons v2 r2 _ _ hv2 hr2 =>
        cases hr2
        refine ⟨t, _, rfl, ht, rfl, _, _, rfl, _, _, rfl, rfl, ?_⟩
        have rg14 := rg13.but but14 pl14
        have bs14 := bs13.kp (pl13.kp but14)
        have as14 := as13.kp (pl13.kp but14)
        refine ⟨fun σ H' => ∃ (lb' : Addr), σ = [some (.ref a), some (.ref p), some (.ref nd), some (.str wd), some av, some sv, some iv, some dv, some (.ref lb'), some (.ref la), none, none, none, some v1, some v2, none] ∧ Ls K H' lb' (befD bs wd jb) ∧ Ls K H' la as ∧ Rg K H' p nd zs av sv iv dv j ∧ Dp K H' v2 (badPair wd jb).2, ?_, ?_⟩
        · refine ⟨_, rfl, rfl, _, rfl, ?_⟩
          have hv := first_ref hv1
          by_cases e6 : jb < 5
          · rw [if_pos e6] at hv
            refine ifT (by rw [decide_eq_false hv]; rfl) ?_
            obtain ⟨xb, hlb, hdb⟩ := bs14.ex
            have lb' := hdb.len
            refine ⟨_, rfl, _, rfl, lb, _, rfl, .inl (.inl hlb), fun q1 hq1 => ?_⟩
            rw [cut_t1]
            refine ⟨_, rfl, sz1 _, fun q2 hq2 => ⟨q1, q2, _, _, rfl, rfl, Same.new hq2 _ _ upd_same, upd_same, sz_lit (by rw [List.length_take]; show _ + 1 ≤ _; omega), fun q3 hq3 => ?_⟩⟩
            have s15 := (Same.new (o := .lst (xb.take 1)) hq1).trans ((Same.new (o := .lst [v1]) hq2).trans (Same.new (o := .lst (xb.take 1 ++ [v1])) hq3))
            have l15 := at_new (o := .lst (xb.take 1 ++ [v1])) hq3
            revert s15 l15
            generalize upd (upd (upd H14 q1 _) q2 _) q3 _ = H15
            intro s15 l15
            refine ⟨_, rfl, _, rfl, lb, _, rfl, .inl (.inl (s15 _ _ hlb)), fun q4 hq4 => ?_⟩
            rw [cut_d1]
            refine ⟨q3, q4, _, _, rfl, rfl, Same.new hq4 _ _ l15, upd_same, sz_lit (by rw [List.length_append, List.length_take, List.length_drop]; show _ + 1 + _ ≤ _; omega), fun q5 hq5 => ?_⟩
            have s16 := (Same.new (o := .lst (xb.drop 1)) hq4).trans (Same.new (o := .lst (xb.take 1 ++ [v1] ++ xb.drop 1)) hq5)
            have l16 := at_new (o := .lst (xb.take 1 ++ [v1] ++ xb.drop 1)) hq5
            revert s16 l16
            generalize upd (upd H15 q4 _) q5 _ = H16
            intro s16 l16
            have sA := s15.trans s16
            refine ⟨q5, rfl, ⟨_, l16, ?_⟩, as14.kp sA.kp, rg14.mono sA, hv2.mono sA⟩
            unfold befD
            rw [if_pos e6]
            exact DpAll.mono sA (((hdb.take 1).append (.cons hv1 .nil)).append (hdb.drop 1))
          · rw [if_neg e6] at hv
            refine ifF (by rw [decide_eq_true hv]; rfl) ⟨lb, rfl, ?_, as14, rg14, hv2⟩
            unfold befD
            rw [if_neg e6]
            exact bs14
        · rintro σ H15 ⟨lb', rfl, bs15, as15, rg15, hv15⟩
          have bw := befD_wt hbf hw2 jb
          have bl := befD_len bs wd jb
          refine ⟨fun σ H' => ∃ (la' : Addr) (as' : List PyData), σ = [some (.ref a), some (.ref p), some (.ref nd), some (.str wd), some av, some sv, some iv, some dv, some (.ref lb'), some (.ref la'), none, none, none, some v1, some v2, none] ∧ Ls K H' lb' (befD bs wd jb) ∧ Ls K H' la' as' ∧ Rg K H' p nd zs av sv iv dv j ∧ Dp K H' v2 (badPair wd jb).2 ∧ as'.length ≤ 3 ∧ wts as' ≤ 500, ?_, ?_⟩
          · refine ⟨_, rfl, p, 2, rfl, rg15.pl, by decide, by decide, fun r6 H16 r6a r6b but16 pl16 => ⟨rfl, _, rfl, ?_⟩⟩
            have rg16 := rg15.but but16 pl16
            have kp16 := rg15.pl.kp but16
            have bs16 := bs15.kp kp16
            have as16 := as15.kp kp16
            by_cases e7 : r6 = 0
            · refine ifT (decide_eq_true (congrArg V.int e7)) ?_
              obtain ⟨xa, hla, hda⟩ := as16.ex
              have la' := hda.len
              refine ⟨_, rfl, _, rfl, sz2 _ _, fun q1 hq1 => ⟨sz1 _, fun q2 hq2 => ⟨la, q2, xa, _, rfl, rfl, Same.new hq2 _ _ (Same.new hq1 _ _ hla), upd_same, sz_lit (by show _ + 1 ≤ _; omega), fun q3 hq3 => ?_⟩⟩⟩
              have l1 := at_new (o := .tup [.str "leave", .str wd]) hq1
              have s2 := (Same.new (o := .lst [.ref q1]) hq2).trans (Same.new (o := .lst (xa ++ [.ref q1])) hq3)
              have s17 := (Same.new (o := .tup [.str "leave", .str wd]) hq1).trans s2
              have l17 := at_new (o := .lst (xa ++ [.ref q1])) hq3
              have l18 := s2 _ _ l1
              clear l1 s2
              revert s17 l17 l18
              generalize upd (upd (upd H16 q1 _) q2 _) q3 _ = H17
              intro s17 l17 l18
              refine ⟨q3, as ++ [.tuple [.str "leave", .str wd]], rfl, bs16.kp s17.kp, ⟨_, l17, (DpAll.mono s17 hda).append (.cons (.tup (.inl (.inl l18)) (.cons (.str _) (.cons (.str _) .nil))) .nil)⟩, rg16.mono s17, (hv15.kp kp16).mono s17, by rw [List.length_append]; show _ + 1 ≤ 3; omega, ?_⟩
              have h8 := two_len hw2
              rw [wts_app, wts_cons, wts_nil, wt_tuple, wts_cons, wts_cons, wts_nil, wt_str, wt_str, show ("leave" : Str).length = 5 by decide +kernel]
              omega
            · exact ifF (decide_eq_false fun z => e7 (V.int.inj z)) ⟨la, as, rfl, bs16, as16, rg16, hv15.kp kp16, by omega, by omega⟩
          · rintro σ H16 ⟨la', as', rfl, bs16, as16, rg16, hv16, hal', haw'⟩
            obtain ⟨xb, hlb, hdb⟩ := bs16.ex
            obtain ⟨xa, hla, hda⟩ := as16.ex
            refine ⟨_, rfl, _, rfl, _, rfl, _, rfl, p, lb', la', v2, xb, xa, befD bs wd jb, as', _, rfl, rg16.pl, hlb, hdb, hv16, hla, hda, by omega, by omega, fun v' H17 n ds path hn hwr but17 pl17 hd17 => ?_⟩
            have kp17 := rg16.pl.kp but17
            cases hd17 with
            | @tup t xs _ ht hxs =>
            cases hxs with
            | @cons vr r1 _ _ hvr hr1 =>
            cases hr1 with
            | @cons vp r2 _ _ hvp hr2 =>
            cases hr2
            refine ⟨t, _, rfl, ht, rfl, _, _, rfl, _, _, rfl, rfl, ?_⟩
            refine ⟨_, rfl, sz2 _ _, fun q1 hq1 => ?_⟩
            have s18 := Same.new (o := .tup [.str "rows", vp]) hq1
            have l18 := at_new (o := .tup [.str "rows", vp]) hq1
            revert s18 l18
            generalize upd H17 q1 _ = H18
            intro s18 l18
            have hlb18 := s18 _ _ (kp17 _ _ hlb rfl)
            have lbl := hdb.len
            refine ⟨_, rfl, _, rfl, sz2 _ _, fun q2 hq2 => ⟨sz1 _, fun q3 hq3 => ⟨lb', q3, xb, _, rfl, rfl, Same.new hq3 _ _ (Same.new hq2 _ _ hlb18), upd_same, sz_lit (by show _ + 1 ≤ _; omega), fun q4 hq4 => ?_⟩⟩⟩
            have l1 := at_new (o := .tup [.str "drop", .str wd]) hq2
            have s2 := (Same.new (o := .lst [.ref q2]) hq3).trans (Same.new (o := .lst (xb ++ [.ref q2])) hq4)
            have s19 := (Same.new (o := .tup [.str "drop", .str wd]) hq2).trans s2
            have l19 := at_new (o := .lst (xb ++ [.ref q2])) hq4
            have l20 := s2 _ _ l1
            clear l1 s2
            revert s19 l19 l20
            generalize upd (upd (upd H18 q2 _) q3 _) q4 _ = H19
            intro s19 l19 l20
            have sA := s18.trans s19
            have ww := wrap_wt hwr
            have pw := (pair_wt hw2 jb).2
            have h8 := two_len hw2
            refine ⟨_, _, _, _, la', vr, _, _, as', ds, befD bs wd jb ++ [.tuple [.str "drop", .str wd]], "rows", path, rfl, (rg16.but but17 pl17).mono sA, (as16.kp kp17).kp sA.kp, hal', haw', hvr.mono sA, by omega, .lst (.inl (.inl l19)) ((DpAll.mono sA (DpAll.kp kp17 hdb)).append (.cons (.tup (.inl (.inl l20)) (.cons (.str _) (.cons (.str _) .nil))) .nil)), ?_, .tup (.inl (.inl (s19 _ _ l18))) (.cons (.str _) (.cons (hvp.mono sA) .nil)), good_bad hz hbf (by omega) hw2, bad_bad hbf hw2 hjb hn hwr, by decide +kernel⟩
            rw [wts_app, wts_cons, wts_nil, wt_tuple, wts_cons, wts_cons, wts_nil, wt_str, wt_str, show ("drop" : Str).length = 4 by decide +kernel]
            omega
    · rintro σ H20 ⟨y8, y13, y14, y15, la2, vr, vg, fv, as2, ds, gs, part, path, rfl, rg20, as20, al20, aw20, hr20, rw20, hg20, gw20, hf20, hgood, hbad, hlay⟩
      refine ⟨fun σ H' => ∃ (av' sv' iv' fv' : V) (asks sigs : ArgD) (ins : PyData) (part' : Str) (path' : List Int), σ = [some (.ref a), some (.ref p), some (.ref nd), some (.str wd), some av', some sv', some iv', some dv, y8, some (.ref la2), some vr, some fv', some vg, y13, y14, y15] ∧ Pl H' p ∧ Nm H' nd zs ∧ ArgV K H' av' asks ∧ ArgV K H' sv' sigs ∧ argOk asks ∧ argOk sigs ∧ argSmall asks ∧ argSmall sigs ∧ Dp K H' iv' ins ∧ small ins = true ∧ Ls K H' la2 as2 ∧ Dp K H' vr (.list ds) ∧ Dp K H' vg (.list gs) ∧ Dp K H' fv' (.tuple [.str part', .tuple (path'.map .int)]) ∧ progCheck true asks sigs ins (.list ds) = .error (part', path') ∧ PyData.canLay0 (.str part') = true, ?_, ?_⟩
      · refine ⟨_, rfl, p, 2, rfl, rg20.pl, by decide, by decide, fun r7 H21 r7a r7b but21 pl21 => ⟨rfl, _, rfl, ?_⟩⟩
        have kp21 := rg20.pl.kp but21
        have rg21 := rg20.but but21 pl21
        have as21 := as20.kp kp21
        have hr21 := hr20.kp kp21
        have hg21 := hg20.kp kp21
        have hf21 := hf20.kp kp21
        by_cases e8 : r7 = 0 ∧ dv ≠ .non
        · rcases due_val hj rg21.d with ⟨z, _⟩ | ⟨_, j2, s0, rfl, hs0, lay0⟩
          · exact absurd z e8.2
          refine ifT (decide_eq_true (congrArg V.int e8.1)) ⟨_, rfl, rfl, _, rfl, ifT (by rw [decide_eq_false e8.2]; rfl) ?_⟩
          refine ⟨_, rfl, sz_lit (by show 0 ≤ 100000; decide), fun q1 hq1 => ⟨sz2 _ _, fun q2 hq2 => ?_⟩⟩
          have l22 := Same.new (o := .tup [.str s0, .ref q1]) hq2 _ _ (at_new (o := .tup []) hq1)
          have m22 := at_new (o := .tup [.str s0, .ref q1]) hq2
          have s22 := (Same.new (o := .tup []) hq1).trans (Same.new (o := .tup [.str s0, .ref q1]) hq2)
          revert l22 m22 s22
          generalize upd (upd H21 q1 _) q2 _ = H22
          intro l22 m22 s22
          have rg22 := rg21.mono s22
          obtain ⟨s1, hs1, hbad1⟩ := due_bad (rows := .list ds) j2 hj
          obtain rfl : s0 = s1 := PyData.str.inj (hs0.symm.trans hs1)
          exact ⟨av, sv, iv, _, pbA j, pbS j, pbI j, s0, [], rfl, rg22.pl, rg22.nm, rg22.a, rg22.s, pbA_ok j, pbS_ok j, pbA_small j, pbS_small j, rg22.i, pbI_small j, as21.kp s22.kp, hr21.mono s22, hg21.mono s22, .tup (.inl (.inl m22)) (.cons (.str _) (.cons (.tup (xs := []) (.inl (.inl l22)) .nil) .nil)), hbad1, lay0⟩
        · by_cases e9 : r7 = 0
          · refine ifT (decide_eq_true (congrArg V.int e9)) ⟨_, rfl, rfl, _, rfl, ifF (by rw [decide_eq_true (Decidable.byContradiction fun z => e8 ⟨e9, z⟩)]; rfl) ?_⟩
            refine ⟨sz1 _, fun q1 hq1 => ⟨sz_lit (by show 3 ≤ 100000; decide), fun q2 hq2 => ⟨q2, _, rfl, .inl (.inl upd_same), rfl, _, _, rfl, _, _, rfl, _, _, rfl, rfl, ?_⟩⟩⟩
            have l22 := Same.new (o := .tup [.non, .non, .ref q1]) hq2 _ _ (at_new (o := .tup [.str "go"]) hq1)
            have s22 := (Same.new (o := .tup [.str "go"]) hq1).trans (Same.new (o := .tup [.non, .non, .ref q1]) hq2)
            revert l22 s22
            generalize upd (upd H21 q1 _) q2 _ = H22
            intro l22 s22
            have rg22 := rg21.mono s22
            exact ⟨.non, .non, .ref q1, fv, .none, .none, goD, part, path, rfl, rg22.pl, rg22.nm, rfl, rfl, trivial, trivial, trivial, trivial, .tup (.inl (.inl l22)) (.cons (.str _) .nil), goD_small, as21.kp s22.kp, hr21.mono s22, hg21.mono s22, hf21.mono s22, hbad, hlay⟩
          · refine ifF (decide_eq_false fun z => e9 (V.int.inj z)) (ifF rfl ?_)
            refine ⟨sz1 _, fun q1 hq1 => ⟨sz_lit (by show 3 ≤ 100000; decide), fun q2 hq2 => ⟨q2, _, rfl, .inl (.inl upd_same), rfl, _, _, rfl, _, _, rfl, _, _, rfl, rfl, ?_⟩⟩⟩
            have l22 := Same.new (o := .tup [.non, .non, .ref q1]) hq2 _ _ (at_new (o := .tup [.str "go"]) hq1)
            have s22 := (Same.new (o := .tup [.str "go"]) hq1).trans (Same.new (o := .tup [.non, .non, .ref q1]) hq2)
            revert l22 s22
            generalize upd (upd H21 q1 _) q2 _ = H22
            intro l22 s22
            have rg22 := rg21.mono s22
            exact ⟨.non, .non, .ref q1, fv, .none, .none, goD, part, path, rfl, rg22.pl, rg22.nm, rfl, rfl, trivial, trivial, trivial, trivial, .tup (.inl (.inl l22)) (.cons (.str _) .nil), goD_small, as21.kp s22.kp, hr21.mono s22, hg21.mono s22, hf21.mono s22, hbad, hlay⟩
      · rintro σ H22 ⟨av', sv', iv', fv', asks, sigs, ins, part', path', rfl, pl22, nm22, ha22, hs22, oka, oks, sma, sms, hi22, ism, as22, hr22, hg22, hf22, hbad2, hlay2⟩
        obtain ⟨c, hgood⟩ := hgood
        refine ⟨_, rfl, sz1 _, fun q1 hq1 => ?_⟩
        have s23 := Same.new (o := .tup [.str "go"]) hq1
        have l23 := at_new (o := .tup [.str "go"]) hq1
        revert s23 l23
        generalize upd H22 q1 _ = H23
        intro s23 l23
        refine ⟨vg, .non, .non, .ref q1, true, .none, .none, goD, .list gs, rfl, rfl, rfl, trivial, trivial, .tup (.inl (.inl l23)) (.cons (.str _) .nil), hg22.mono s23, goD_small, by rw [wt_list]; omega, (fun z => nomatch z), fun v H24 fr hd => ?_⟩
        have s24 := s23.trans (fr_nil fr)
        rw [hgood] at hd
        cases hd with
        | @tup t xs _ ht hxs =>
        cases hxs with
        | @cons v1 r1 _ _ hv1 hr1 =>
        cases hv1
        refine ⟨t, _, ((0 : Nat) : Int), .str "none", rfl, rfl, ht, atI_nat (j := 0) rfl, rfl, _, rfl, ifF (by decide +kernel) ?_⟩
        have pl24 := pl22.mono s24
        have nm24 := nm22.mono s24
        have ha24 := ha22.mono s24
        have hs24 := hs22.mono s24
        refine ⟨_, rfl, _, rfl, _, rfl, _, rfl, vr, av', sv', iv', true, asks, sigs, ins, .list ds, rfl, ha24, hs24, sma, sms, hi22.mono s24, hr22.mono s24, ism, by rw [wt_list]; omega, (fun z => nomatch z), fun v2 H25 fr2 hd2 => ?_⟩
        have nl : ∀ (b : Addr) (o : HO), H24 b = some o → (∀ kvs, o = .dK kvs → 2 ≤ kvs.length) → H25 b = some o := fun b o hb ho => fr2 b o hb fun m => by
          rcases List.mem_append.mp m with m | m
          · exact arg_not ha24 oka hb ho m
          · exact arg_not hs24 oks hb ho m
        have kp25 : Kp H24 H25 := fun b o hb ho => nl b o hb fun kvs e => by rw [e] at ho; cases ho
        have pl25 : Pl H25 p := by
          obtain ⟨x, y, z, hh, hx⟩ := pl24
          exact ⟨x, y, z, nl _ _ hh (fun kvs e => by rw [← HO.dK.inj e]; show 2 ≤ 3; decide), hx⟩
        have nm25 : Nm H25 nd zs := by
          obtain ⟨l1, l2, ws2, h1, h2, h3, r⟩ := nm24
          exact ⟨l1, l2, ws2, nl _ _ h1 (fun kvs e => by rw [← HO.dK.inj e]; show 2 ≤ 2; decide), kp25 _ _ h2 rfl, kp25 _ _ h3 rfl, r⟩
        rw [hbad2] at hd2
        have hd2 : Dp K H25 v2 (.tuple [.str part', .tuple (path'.map .int)]) := hd2
        refine ⟨_, rfl, _, _, hd2, (hf22.mono s24).kp kp25, told_shaped hlay2, told_shaped hlay2, _, rfl, ifF (by rw [told_eqv hlay2]; rfl) ?_⟩
        have as25 := (as22.kp s24.kp).kp kp25
        refine ⟨_, rfl, _, rfl, _, rfl, _, rfl, p, 3, rfl, pl25, by decide, by decide, fun r8 H26 r8a r8b but26 pl26 => ?_⟩
        obtain ⟨n8, rfl⟩ := Int.eq_ofNat_of_zero_le r8a
        have nm26 := nm25.but pl25 but26
        have as26 := as25.kp (pl25.kp but26)
        refine ⟨p, nd, n8, zs, rfl, pl26, nm26, by omega, fun lb3 xb3 bs3 H27 hbl3 hbf3 but27 pl27 hlb3 hdb3 => ?_⟩
        have as27 := as26.kp (pl26.kp but27)
        refine ⟨_, rfl, wd, rfl, fun ve H28 s28 hve => ⟨_, rfl, ?_⟩⟩
        obtain ⟨xa3, hla3, hda3⟩ := (as27.kp s28.kp).ex
        refine ⟨p, lb3, la2, ve, xb3, xa3, bs3, as2, _, rfl, pl27.mono s28, s28 _ _ hlb3, DpAll.mono s28 hdb3, hve.mono cut_all, hla3, hda3, by omega, by omega, fun v3 H29 n3 ds3 path3 hn3 hw3 but29 pl29 hd29 => ?_⟩
        cases hd29 with
        | @tup t3 xs3 _ ht3 hxs3 =>
        cases hxs3 with
        | @cons vr3 r13 _ _ hvr3 hr13 =>
        cases hr13 with
        | @cons vp3 r23 _ _ hvp3 hr23 =>
        cases hr23
        refine ⟨t3, _, rfl, ht3, rfl, _, _, rfl, _, _, rfl, rfl, ?_⟩
        refine ⟨_, rfl, sz1 _, fun q3 hq3 => ?_⟩
        have s30 := Same.new (o := .tup [.str "go"]) hq3
        have l30 := at_new (o := .tup [.str "go"]) hq3
        revert s30 l30
        generalize upd H29 q3 _ = H30
        intro s30 l30
        have ww := wrap_wt hw3
        have ew := edit_wt (w := wd) (by rw [two_len hw2]; decide)
        have fw := fills_wt hbf3
        have pb := prog_bad (as := as2) (w := wd) hbf3 hn3 hw3
        refine ⟨vr3, .non, .non, .ref q3, false, .none, .none, goD, .list ds3, rfl, rfl, rfl, trivial, trivial, .tup (.inl (.inl l30)) (.cons (.str _) .nil), hvr3.mono s30, goD_small, by rw [wt_list]; omega, fun _ => ⟨_, _, pb⟩, fun v4 H31 fr4 hd4 => ?_⟩
        rw [pb] at hd4
        have hd4 : Dp K H31 v4 (.tuple [.str "rows", .tuple (path3.map .int)]) := hd4
        have s31 := fr_nil fr4
        refine ⟨_, rfl, sz2 _ _, fun q4 hq4 => ?_⟩
        have s32 := Same.new (o := .tup [.str "rows", vp3]) hq4
        refine ⟨_, _, hd4.mono s32, .tup (.inl (.inl upd_same)) (.cons (.str _) (.cons (((hvp3.mono s30).mono s31).mono s32) .nil)), told_shaped (by decide +kernel), told_shaped (by decide +kernel), ?_⟩
        rw [told_eqv (by decide +kernel)]
        exact k _
end
end Op
namespace Op
open PySem L2 PyProof.Rows PySem.XL
theorem vals_app : ∀ {vs ws : List V} {us zs : List Value}, Vals vs us → Vals ws zs → Vals (vs ++ ws) (us ++ zs)
  | _, _, _, _, .nil, h => h
  | _, _, _, _, .cons a b, h => .cons a (vals_app b h)
theorem exm_own {K : PySem.W.Frag} {C : Addr} (hb : PySem.W.subIn K (.ref C) (.type "BaseException") = some true) (hi : PySem.W.isClsIn K C = true) (ht : PySem.W.typeIn K (.ref C) = some (.type "type")) (hs : PySem.W.subIn K (.ref C) (.ref C) = some true) : PySem.W.exmOne K (.ref C) (.ref C) = some true := by
  unfold PySem.W.exmOne
  rw [hb, if_pos (by simp)]
  have hi' : (PySem.W.clsIn K C).isSome = true := hi
  show (if ((PySem.W.clsIn K C).isSome && PySem.W.typeIn K (.ref C) == some (.type "type")) = true then PySem.W.subIn K (.ref C) (.ref C) else none) = some true
  rw [hi', ht, if_pos (by simp)]
  exact hs
theorem Sh_InvalidProgram : ∃ (Ps : Ps2) (a1 a2 a3 : Pos), defArgs s_InvalidProgram___init__ = args2 a1 a2 a3 "part" "path" ∧ defBody s_InvalidProgram___init__ = body2 Ps "invalid program" "part" "path" ∧ defScope s_InvalidProgram___init__ = scope2 "part" "path" ∧ ∀ fI, EvOk "InvalidProgram.__init__" (scope2 "part" "path") fI Ps.toPs1 "invalid program" :=
  ⟨⟨⟨_, _, _, _, _, _, _, _, _, _, _⟩, _, _, _, _⟩, _, _, _, rfl, rfl, rfl, fun fI L cda cc => ⟨_, rfl, rfl, rfl⟩⟩
theorem Xm_InvalidProgram {P : Program} {w : World} {K : PySem.W.Frag} {C fI : Addr} (T : XCls P K C) (Fn : XFn P K C fI "InvalidProgram.__init__" (defArgs s_InvalidProgram___init__) (defBody s_InvalidProgram___init__) (defScope s_InvalidProgram___init__)) (nof : PySem.W.findIn K (.ref C) "part" = some none) (nof2 : PySem.W.findIn K (.ref C) "path" = some none) :
    XMk P w K C 2 [] (fun vs _ => [("path", vs.getD 1 .non), ("part", vs.getD 0 .non)]) ∧ XMk P w K C 0 ["path", "part"] (fun _ zs => [("path", zs.getD 0 .non), ("part", zs.getD 1 .non)]) := by
  obtain ⟨Ps, a1, a2, a3, e1, e2, e3, ev⟩ := Sh_InvalidProgram
  rw [e1, e2, e3] at Fn
  exact ⟨xmk2 T Fn (by decide +kernel) (by decide +kernel) (by decide +kernel) nof nof2 (ev fI) fun s x v v2 kV doc pm an cdv ct cc => .of_eq rfl, xmk2k T Fn (by decide +kernel) (by decide +kernel) (by decide +kernel) nof nof2 (ev fI) fun s x v v2 kV doc pm an cdv ct cc => .of_eq rfl⟩
theorem all_mk {w : World} {K : PySem.W.Frag} {h : Heap} {mg : Str → Option Value} {fa p_SHAPES c_InputError c_OpenError c_InvalidProgram i_InvalidProgram g_is_integer g_is_word g_are_words g_is_branches g_inner_lists g_with_lists g_copy_row g_copy_rows g_checked_asks g_is_box g_checked_signals g_checked_inputs g__law_pool g__law_draw g__law_item g__law_names g__law_fault g__law_filler g__law_edit g__law_bad_rows g__law_wrapped g__law_many g__law_parts_bad g_law c_RowCheck m_RowCheck___init__ m_RowCheck_check m_RowCheck_check_sizes m_RowCheck_check_list m_RowCheck_fits m_RowCheck_id_fits m_RowCheck_part_fits m_RowCheck_collect c_Program m_Program___init__ c_Edited m_Edited___init__ : Addr} (X : K.In h) (G : h.Ns mainGlobals mg) (hfa : mg "law" = some (.ref fa))
    {tk_LETTERS : Tok}
    {tk_MOST_ROWS : Tok}
    {tk_MOST_LABELS : Tok}
    {tk_MOST_SLOTS : Tok}
    {tk_MOST_GATES : Tok}
    {tk_MOST_EDITS : Tok}
    {tk_DEEPEST : Tok}
    {es_SHAPES : Array DictEntry} {en_SHAPES : Nat}
    {nm_InvalidProgram q_InvalidProgram : Str} {N_InvalidProgram : Addr} {bs_InvalidProgram : List Value} {sn_InvalidProgram : List Str} {sub_InvalidProgram : List Value} {ab_InvalidProgram : Bool} {col_InvalidProgram : Option Bool} {dd_InvalidProgram : Option Addr} {ka_InvalidProgram kb_InvalidProgram kc_InvalidProgram kd_InvalidProgram ke_InvalidProgram : Option Value}
    {oc_InvalidProgram kV_InvalidProgram dc_InvalidProgram pm_InvalidProgram ct_InvalidProgram ccl_InvalidProgram cll_InvalidProgram : Value} {od_InvalidProgram an_InvalidProgram cdd_InvalidProgram cld_InvalidProgram : Option Addr} {cd_InvalidProgram cc_InvalidProgram : Addr} {sl_InvalidProgram ccs_InvalidProgram csl_InvalidProgram : Array (Option Value)} {vs_InvalidProgram : Array Value} {fl_InvalidProgram : Str} {tf_InvalidProgram : Tok}
    {xo_is_integer xk_is_integer xc_is_integer xp_is_integer xe_is_integer xt_is_integer : Value} {xd_is_integer xa_is_integer : Option Addr} {xs_is_integer : Array (Option Value)}
    {xo_is_word xk_is_word xc_is_word xp_is_word xe_is_word xt_is_word : Value} {xd_is_word xa_is_word : Option Addr} {xs_is_word : Array (Option Value)}
    {xo_are_words xk_are_words xc_are_words xp_are_words xe_are_words xt_are_words : Value} {xd_are_words xa_are_words : Option Addr} {xs_are_words : Array (Option Value)}
    {xo_is_branches xk_is_branches xc_is_branches xp_is_branches xe_is_branches xt_is_branches : Value} {xd_is_branches xa_is_branches : Option Addr} {xs_is_branches : Array (Option Value)}
    {xo_inner_lists xk_inner_lists xc_inner_lists xp_inner_lists xe_inner_lists xt_inner_lists : Value} {xd_inner_lists xa_inner_lists : Option Addr} {xs_inner_lists : Array (Option Value)}
    {xo_with_lists xk_with_lists xc_with_lists xp_with_lists xe_with_lists xt_with_lists : Value} {xd_with_lists xa_with_lists : Option Addr} {xs_with_lists : Array (Option Value)}
    {xo_copy_row xk_copy_row xc_copy_row xp_copy_row xe_copy_row xt_copy_row : Value} {xd_copy_row xa_copy_row : Option Addr} {xs_copy_row : Array (Option Value)}
    {xo_copy_rows xk_copy_rows xc_copy_rows xp_copy_rows xe_copy_rows xt_copy_rows : Value} {xd_copy_rows xa_copy_rows : Option Addr} {xs_copy_rows : Array (Option Value)}
    {xo_checked_asks xk_checked_asks xc_checked_asks xp_checked_asks xe_checked_asks xt_checked_asks : Value} {xd_checked_asks xa_checked_asks : Option Addr} {xs_checked_asks : Array (Option Value)}
    {xo_is_box xk_is_box xc_is_box xp_is_box xe_is_box xt_is_box : Value} {xd_is_box xa_is_box : Option Addr} {xs_is_box : Array (Option Value)}
    {xo_checked_signals xk_checked_signals xc_checked_signals xp_checked_signals xe_checked_signals xt_checked_signals : Value} {xd_checked_signals xa_checked_signals : Option Addr} {xs_checked_signals : Array (Option Value)}
    {xo_checked_inputs xk_checked_inputs xc_checked_inputs xp_checked_inputs xe_checked_inputs xt_checked_inputs : Value} {xd_checked_inputs xa_checked_inputs : Option Addr} {xs_checked_inputs : Array (Option Value)}
    {xo__law_pool xk__law_pool xc__law_pool xp__law_pool xe__law_pool xt__law_pool : Value} {xd__law_pool xa__law_pool : Option Addr} {xs__law_pool : Array (Option Value)}
    {xo__law_draw xk__law_draw xc__law_draw xp__law_draw xe__law_draw xt__law_draw : Value} {xd__law_draw xa__law_draw : Option Addr} {xs__law_draw : Array (Option Value)}
    {xo__law_item xk__law_item xc__law_item xp__law_item xe__law_item xt__law_item : Value} {xd__law_item xa__law_item : Option Addr} {xs__law_item : Array (Option Value)}
    {xo__law_names xk__law_names xc__law_names xp__law_names xe__law_names xt__law_names : Value} {xd__law_names xa__law_names : Option Addr} {xs__law_names : Array (Option Value)}
    {xo__law_fault xk__law_fault xc__law_fault xp__law_fault xe__law_fault xt__law_fault : Value} {xd__law_fault xa__law_fault : Option Addr} {xs__law_fault : Array (Option Value)}
    {xo__law_filler xk__law_filler xc__law_filler xp__law_filler xe__law_filler xt__law_filler : Value} {xd__law_filler xa__law_filler : Option Addr} {xs__law_filler : Array (Option Value)}
    {xo__law_edit xk__law_edit xc__law_edit xp__law_edit xe__law_edit xt__law_edit : Value} {xd__law_edit xa__law_edit : Option Addr} {xs__law_edit : Array (Option Value)}
    {xo__law_bad_rows xk__law_bad_rows xc__law_bad_rows xp__law_bad_rows xe__law_bad_rows xt__law_bad_rows : Value} {xd__law_bad_rows xa__law_bad_rows : Option Addr} {xs__law_bad_rows : Array (Option Value)}
    {xo__law_wrapped xk__law_wrapped xc__law_wrapped xp__law_wrapped xe__law_wrapped xt__law_wrapped : Value} {xd__law_wrapped xa__law_wrapped : Option Addr} {xs__law_wrapped : Array (Option Value)}
    {xo__law_many xk__law_many xc__law_many xp__law_many xe__law_many xt__law_many : Value} {xd__law_many xa__law_many : Option Addr} {xs__law_many : Array (Option Value)}
    {xo__law_parts_bad xk__law_parts_bad xc__law_parts_bad xp__law_parts_bad xe__law_parts_bad xt__law_parts_bad : Value} {xd__law_parts_bad xa__law_parts_bad : Option Addr} {xs__law_parts_bad : Array (Option Value)}
    {xo_law xk_law xc_law xp_law xe_law xt_law : Value} {xd_law xa_law : Option Addr} {xs_law : Array (Option Value)}
    {xo_RowCheck___init__ xk_RowCheck___init__ xc_RowCheck___init__ xp_RowCheck___init__ xe_RowCheck___init__ xt_RowCheck___init__ : Value} {xd_RowCheck___init__ xa_RowCheck___init__ : Option Addr} {xs_RowCheck___init__ : Array (Option Value)}
    {xo_RowCheck_check xk_RowCheck_check xc_RowCheck_check xp_RowCheck_check xe_RowCheck_check xt_RowCheck_check : Value} {xd_RowCheck_check xa_RowCheck_check : Option Addr} {xs_RowCheck_check : Array (Option Value)}
    {xo_RowCheck_check_sizes xk_RowCheck_check_sizes xc_RowCheck_check_sizes xp_RowCheck_check_sizes xe_RowCheck_check_sizes xt_RowCheck_check_sizes : Value} {xd_RowCheck_check_sizes xa_RowCheck_check_sizes : Option Addr} {xs_RowCheck_check_sizes : Array (Option Value)}
    {xo_RowCheck_check_list xk_RowCheck_check_list xc_RowCheck_check_list xp_RowCheck_check_list xe_RowCheck_check_list xt_RowCheck_check_list : Value} {xd_RowCheck_check_list xa_RowCheck_check_list : Option Addr} {xs_RowCheck_check_list : Array (Option Value)}
    {xo_RowCheck_fits xk_RowCheck_fits xc_RowCheck_fits xp_RowCheck_fits xe_RowCheck_fits xt_RowCheck_fits : Value} {xd_RowCheck_fits xa_RowCheck_fits : Option Addr} {xs_RowCheck_fits : Array (Option Value)}
    {xo_RowCheck_id_fits xk_RowCheck_id_fits xc_RowCheck_id_fits xp_RowCheck_id_fits xe_RowCheck_id_fits xt_RowCheck_id_fits : Value} {xd_RowCheck_id_fits xa_RowCheck_id_fits : Option Addr} {xs_RowCheck_id_fits : Array (Option Value)}
    {xo_RowCheck_part_fits xk_RowCheck_part_fits xc_RowCheck_part_fits xp_RowCheck_part_fits xe_RowCheck_part_fits xt_RowCheck_part_fits : Value} {xd_RowCheck_part_fits xa_RowCheck_part_fits : Option Addr} {xs_RowCheck_part_fits : Array (Option Value)}
    {xo_RowCheck_collect xk_RowCheck_collect xc_RowCheck_collect xp_RowCheck_collect xe_RowCheck_collect xt_RowCheck_collect : Value} {xd_RowCheck_collect xa_RowCheck_collect : Option Addr} {xs_RowCheck_collect : Array (Option Value)}
    {xo_Program___init__ xk_Program___init__ xc_Program___init__ xp_Program___init__ xe_Program___init__ xt_Program___init__ : Value} {xd_Program___init__ xa_Program___init__ : Option Addr} {xs_Program___init__ : Array (Option Value)}
    {xo_Edited___init__ xk_Edited___init__ xc_Edited___init__ xp_Edited___init__ xe_Edited___init__ xt_Edited___init__ : Value} {xd_Edited___init__ xa_Edited___init__ : Option Addr} {xs_Edited___init__ : Array (Option Value)}
    (z_len : PySem.W.nsIn K mainGlobals "len" = some none)
    (z_int : PySem.W.nsIn K mainGlobals "int" = some none)
    (z_bool : PySem.W.nsIn K mainGlobals "bool" = some none)
    (z_str : PySem.W.nsIn K mainGlobals "str" = some none)
    (z_list : PySem.W.nsIn K mainGlobals "list" = some none)
    (z_tuple : PySem.W.nsIn K mainGlobals "tuple" = some none)
    (z_dict : PySem.W.nsIn K mainGlobals "dict" = some none)
    (z_set : PySem.W.nsIn K mainGlobals "set" = some none)
    (z_range : PySem.W.nsIn K mainGlobals "range" = some none)
    (z_zip : PySem.W.nsIn K mainGlobals "zip" = some none)
    (z_enumerate : PySem.W.nsIn K mainGlobals "enumerate" = some none)
    (z_sorted : PySem.W.nsIn K mainGlobals "sorted" = some none)
    (z_isinstance : PySem.W.nsIn K mainGlobals "isinstance" = some none)
    (z_LETTERS : PySem.W.nsIn K mainGlobals "LETTERS" = some (some (.str "abcdefghijklmnopqrstuvwxyz" tk_LETTERS)))
    (z_MOST_ROWS : PySem.W.nsIn K mainGlobals "MOST_ROWS" = some (some (.int 60 tk_MOST_ROWS)))
    (z_MOST_LABELS : PySem.W.nsIn K mainGlobals "MOST_LABELS" = some (some (.int 6 tk_MOST_LABELS)))
    (z_MOST_SLOTS : PySem.W.nsIn K mainGlobals "MOST_SLOTS" = some (some (.int 4 tk_MOST_SLOTS)))
    (z_MOST_GATES : PySem.W.nsIn K mainGlobals "MOST_GATES" = some (some (.int 8 tk_MOST_GATES)))
    (z_MOST_EDITS : PySem.W.nsIn K mainGlobals "MOST_EDITS" = some (some (.int 4 tk_MOST_EDITS)))
    (z_DEEPEST : PySem.W.nsIn K mainGlobals "DEEPEST" = some (some (.int 5 tk_DEEPEST)))
    (A_SHAPES : PySem.W.nsIn K mainGlobals "SHAPES" = some (some (.ref p_SHAPES)))
    (L_SHAPES : K.lookup p_SHAPES = some ⟨.type "dict", none, .dict es_SHAPES en_SHAPES, #[]⟩)
    (E_SHAPES : Ents w.params es_SHAPES.toList (shapes.map fun p => (p.1, V.str p.2)))
    (S_SHAPES : (p_SHAPES == sysModules) = false)
    (opq : PySem.W.nsIn K cStatics "thirdparty.any" = some none)
    (sg : PySem.W.nsIn K mainGlobals "super" = some none)
    (A_InputError : PySem.W.nsIn K mainGlobals "InputError" = some (some (.ref c_InputError)))
    (A_OpenError : PySem.W.nsIn K mainGlobals "OpenError" = some (some (.ref c_OpenError)))
    (A_InvalidProgram : PySem.W.nsIn K mainGlobals "InvalidProgram" = some (some (.ref c_InvalidProgram)))
    (l_InvalidProgram : K.lookup c_InvalidProgram = some (excClassObj nm_InvalidProgram q_InvalidProgram c_InvalidProgram N_InvalidProgram bs_InvalidProgram [.ref c_InputError, .ref c_OpenError, .type "LookupError", .type "Exception", .type "BaseException", .type "object"] true sn_InvalidProgram sub_InvalidProgram ab_InvalidProgram col_InvalidProgram dd_InvalidProgram ka_InvalidProgram kb_InvalidProgram kc_InvalidProgram kd_InvalidProgram ke_InvalidProgram "LookupError.__new__"))
    (sa_InvalidProgram : PySem.W.findIn K (.ref c_InvalidProgram) "__setattr__" = some (some (.builtin "object.__setattr__")))
    (su_InvalidProgram : PySem.W.ks_superIn K c_InvalidProgram c_InvalidProgram "__init__" = some (some (.builtin "LookupError.__init__")))
    (ii_InvalidProgram : PySem.W.findIn K (.ref c_InvalidProgram) "__init__" = some (some (.ref i_InvalidProgram)))
    (ti_InvalidProgram : PySem.W.typeIn K (.ref i_InvalidProgram) = some (.type "function"))
    (lf_InvalidProgram : K.lookup i_InvalidProgram = some ⟨oc_InvalidProgram, od_InvalidProgram, .func (PySem.W.ksFn "__init__" "InvalidProgram.__init__" (defArgs s_InvalidProgram___init__) (defBody s_InvalidProgram___init__) (defScope s_InvalidProgram___init__) .none kV_InvalidProgram dc_InvalidProgram pm_InvalidProgram an_InvalidProgram (.ref cd_InvalidProgram) ct_InvalidProgram cc_InvalidProgram), sl_InvalidProgram⟩)
    (cf_InvalidProgram : PySem.W.codeIn K (.ref cd_InvalidProgram) "InvalidProgram.__init__" = true)
    (lc_InvalidProgram : K.lookup cc_InvalidProgram = some ⟨cll_InvalidProgram, cld_InvalidProgram, .cell (some (.ref c_InvalidProgram)), csl_InvalidProgram⟩)
    (ld_InvalidProgram : K.lookup cd_InvalidProgram = some ⟨ccl_InvalidProgram, cdd_InvalidProgram, .fields vs_InvalidProgram, ccs_InvalidProgram⟩)
    (v2_InvalidProgram : vs_InvalidProgram[2]? = some (.str fl_InvalidProgram tf_InvalidProgram))
    (fe_InvalidProgram : ((PP.main.file : Str) == fl_InvalidProgram) = true)
    (kp_InvalidProgram : PySem.W.keepIn K (.ref c_InvalidProgram) = true)
    (hg_InvalidProgram : PySem.W.findIn K (.ref c_InvalidProgram) "__getattribute__" = some (some (.builtin "BaseException.__getattribute__")))
    (hk_InvalidProgram : PySem.W.findIn K (.ref c_InvalidProgram) "__getattr__" = some none)
    (hs_InvalidProgram : PySem.W.subIn K (.ref c_InvalidProgram) (.type "BaseException") = some true)
    (hd_InvalidProgram : PySem.W.hasDictIn K c_InvalidProgram = true)
    (ty_InvalidProgram : PySem.W.typeIn K (.ref c_InvalidProgram) = some (.type "type"))
    (ic_InvalidProgram : PySem.W.isClsIn K c_InvalidProgram = true)
    (ss_InvalidProgram : PySem.W.subIn K (.ref c_InvalidProgram) (.ref c_InvalidProgram) = some true)
    (no_part_InvalidProgram : PySem.W.findIn K (.ref c_InvalidProgram) "part" = some none)
    (no_path_InvalidProgram : PySem.W.findIn K (.ref c_InvalidProgram) "path" = some none)
    (A_is_integer : PySem.W.nsIn K mainGlobals "is_integer" = some (some (.ref g_is_integer)))
    (L_is_integer : K.lookup g_is_integer = some ⟨xo_is_integer, xd_is_integer, .func (PySem.W.fnOf "is_integer" "is_integer" (defArgs s_is_integer) (defBody s_is_integer) (defScope s_is_integer) .none xk_is_integer xc_is_integer xp_is_integer xa_is_integer xe_is_integer xt_is_integer), xs_is_integer⟩)
    (D_is_integer : PySem.W.codeIn K xe_is_integer "is_integer" = true)
    (P_is_integer : PySem.W.keepIn K (.ref g_is_integer) = true)
    (A_is_word : PySem.W.nsIn K mainGlobals "is_word" = some (some (.ref g_is_word)))
    (L_is_word : K.lookup g_is_word = some ⟨xo_is_word, xd_is_word, .func (PySem.W.fnOf "is_word" "is_word" (defArgs s_is_word) (defBody s_is_word) (defScope s_is_word) .none xk_is_word xc_is_word xp_is_word xa_is_word xe_is_word xt_is_word), xs_is_word⟩)
    (D_is_word : PySem.W.codeIn K xe_is_word "is_word" = true)
    (P_is_word : PySem.W.keepIn K (.ref g_is_word) = true)
    (A_are_words : PySem.W.nsIn K mainGlobals "are_words" = some (some (.ref g_are_words)))
    (L_are_words : K.lookup g_are_words = some ⟨xo_are_words, xd_are_words, .func (PySem.W.fnOf "are_words" "are_words" (defArgs s_are_words) (defBody s_are_words) (defScope s_are_words) .none xk_are_words xc_are_words xp_are_words xa_are_words xe_are_words xt_are_words), xs_are_words⟩)
    (D_are_words : PySem.W.codeIn K xe_are_words "are_words" = true)
    (P_are_words : PySem.W.keepIn K (.ref g_are_words) = true)
    (A_is_branches : PySem.W.nsIn K mainGlobals "is_branches" = some (some (.ref g_is_branches)))
    (L_is_branches : K.lookup g_is_branches = some ⟨xo_is_branches, xd_is_branches, .func (PySem.W.fnOf "is_branches" "is_branches" (defArgs s_is_branches) (defBody s_is_branches) (defScope s_is_branches) .none xk_is_branches xc_is_branches xp_is_branches xa_is_branches xe_is_branches xt_is_branches), xs_is_branches⟩)
    (D_is_branches : PySem.W.codeIn K xe_is_branches "is_branches" = true)
    (P_is_branches : PySem.W.keepIn K (.ref g_is_branches) = true)
    (A_inner_lists : PySem.W.nsIn K mainGlobals "inner_lists" = some (some (.ref g_inner_lists)))
    (L_inner_lists : K.lookup g_inner_lists = some ⟨xo_inner_lists, xd_inner_lists, .func (PySem.W.fnOf "inner_lists" "inner_lists" (defArgs s_inner_lists) (defBody s_inner_lists) (defScope s_inner_lists) .none xk_inner_lists xc_inner_lists xp_inner_lists xa_inner_lists xe_inner_lists xt_inner_lists), xs_inner_lists⟩)
    (D_inner_lists : PySem.W.codeIn K xe_inner_lists "inner_lists" = true)
    (P_inner_lists : PySem.W.keepIn K (.ref g_inner_lists) = true)
    (A_with_lists : PySem.W.nsIn K mainGlobals "with_lists" = some (some (.ref g_with_lists)))
    (L_with_lists : K.lookup g_with_lists = some ⟨xo_with_lists, xd_with_lists, .func (PySem.W.fnOf "with_lists" "with_lists" (defArgs s_with_lists) (defBody s_with_lists) (defScope s_with_lists) .none xk_with_lists xc_with_lists xp_with_lists xa_with_lists xe_with_lists xt_with_lists), xs_with_lists⟩)
    (D_with_lists : PySem.W.codeIn K xe_with_lists "with_lists" = true)
    (P_with_lists : PySem.W.keepIn K (.ref g_with_lists) = true)
    (A_copy_row : PySem.W.nsIn K mainGlobals "copy_row" = some (some (.ref g_copy_row)))
    (L_copy_row : K.lookup g_copy_row = some ⟨xo_copy_row, xd_copy_row, .func (PySem.W.fnOf "copy_row" "copy_row" (defArgs s_copy_row) (defBody s_copy_row) (defScope s_copy_row) .none xk_copy_row xc_copy_row xp_copy_row xa_copy_row xe_copy_row xt_copy_row), xs_copy_row⟩)
    (D_copy_row : PySem.W.codeIn K xe_copy_row "copy_row" = true)
    (P_copy_row : PySem.W.keepIn K (.ref g_copy_row) = true)
    (A_copy_rows : PySem.W.nsIn K mainGlobals "copy_rows" = some (some (.ref g_copy_rows)))
    (L_copy_rows : K.lookup g_copy_rows = some ⟨xo_copy_rows, xd_copy_rows, .func (PySem.W.fnOf "copy_rows" "copy_rows" (defArgs s_copy_rows) (defBody s_copy_rows) (defScope s_copy_rows) .none xk_copy_rows xc_copy_rows xp_copy_rows xa_copy_rows xe_copy_rows xt_copy_rows), xs_copy_rows⟩)
    (D_copy_rows : PySem.W.codeIn K xe_copy_rows "copy_rows" = true)
    (P_copy_rows : PySem.W.keepIn K (.ref g_copy_rows) = true)
    (A_checked_asks : PySem.W.nsIn K mainGlobals "checked_asks" = some (some (.ref g_checked_asks)))
    (L_checked_asks : K.lookup g_checked_asks = some ⟨xo_checked_asks, xd_checked_asks, .func (PySem.W.fnOf "checked_asks" "checked_asks" (defArgs s_checked_asks) (defBody s_checked_asks) (defScope s_checked_asks) .none xk_checked_asks xc_checked_asks xp_checked_asks xa_checked_asks xe_checked_asks xt_checked_asks), xs_checked_asks⟩)
    (D_checked_asks : PySem.W.codeIn K xe_checked_asks "checked_asks" = true)
    (P_checked_asks : PySem.W.keepIn K (.ref g_checked_asks) = true)
    (A_is_box : PySem.W.nsIn K mainGlobals "is_box" = some (some (.ref g_is_box)))
    (L_is_box : K.lookup g_is_box = some ⟨xo_is_box, xd_is_box, .func (PySem.W.fnOf "is_box" "is_box" (defArgs s_is_box) (defBody s_is_box) (defScope s_is_box) .none xk_is_box xc_is_box xp_is_box xa_is_box xe_is_box xt_is_box), xs_is_box⟩)
    (D_is_box : PySem.W.codeIn K xe_is_box "is_box" = true)
    (P_is_box : PySem.W.keepIn K (.ref g_is_box) = true)
    (A_checked_signals : PySem.W.nsIn K mainGlobals "checked_signals" = some (some (.ref g_checked_signals)))
    (L_checked_signals : K.lookup g_checked_signals = some ⟨xo_checked_signals, xd_checked_signals, .func (PySem.W.fnOf "checked_signals" "checked_signals" (defArgs s_checked_signals) (defBody s_checked_signals) (defScope s_checked_signals) .none xk_checked_signals xc_checked_signals xp_checked_signals xa_checked_signals xe_checked_signals xt_checked_signals), xs_checked_signals⟩)
    (D_checked_signals : PySem.W.codeIn K xe_checked_signals "checked_signals" = true)
    (P_checked_signals : PySem.W.keepIn K (.ref g_checked_signals) = true)
    (A_checked_inputs : PySem.W.nsIn K mainGlobals "checked_inputs" = some (some (.ref g_checked_inputs)))
    (L_checked_inputs : K.lookup g_checked_inputs = some ⟨xo_checked_inputs, xd_checked_inputs, .func (PySem.W.fnOf "checked_inputs" "checked_inputs" (defArgs s_checked_inputs) (defBody s_checked_inputs) (defScope s_checked_inputs) .none xk_checked_inputs xc_checked_inputs xp_checked_inputs xa_checked_inputs xe_checked_inputs xt_checked_inputs), xs_checked_inputs⟩)
    (D_checked_inputs : PySem.W.codeIn K xe_checked_inputs "checked_inputs" = true)
    (P_checked_inputs : PySem.W.keepIn K (.ref g_checked_inputs) = true)
    (A__law_pool : PySem.W.nsIn K mainGlobals "_law_pool" = some (some (.ref g__law_pool)))
    (L__law_pool : K.lookup g__law_pool = some ⟨xo__law_pool, xd__law_pool, .func (PySem.W.fnOf "_law_pool" "_law_pool" (defArgs s__law_pool) (defBody s__law_pool) (defScope s__law_pool) .none xk__law_pool xc__law_pool xp__law_pool xa__law_pool xe__law_pool xt__law_pool), xs__law_pool⟩)
    (D__law_pool : PySem.W.codeIn K xe__law_pool "_law_pool" = true)
    (P__law_pool : PySem.W.keepIn K (.ref g__law_pool) = true)
    (A__law_draw : PySem.W.nsIn K mainGlobals "_law_draw" = some (some (.ref g__law_draw)))
    (L__law_draw : K.lookup g__law_draw = some ⟨xo__law_draw, xd__law_draw, .func (PySem.W.fnOf "_law_draw" "_law_draw" (defArgs s__law_draw) (defBody s__law_draw) (defScope s__law_draw) .none xk__law_draw xc__law_draw xp__law_draw xa__law_draw xe__law_draw xt__law_draw), xs__law_draw⟩)
    (D__law_draw : PySem.W.codeIn K xe__law_draw "_law_draw" = true)
    (P__law_draw : PySem.W.keepIn K (.ref g__law_draw) = true)
    (A__law_item : PySem.W.nsIn K mainGlobals "_law_item" = some (some (.ref g__law_item)))
    (L__law_item : K.lookup g__law_item = some ⟨xo__law_item, xd__law_item, .func (PySem.W.fnOf "_law_item" "_law_item" (defArgs s__law_item) (defBody s__law_item) (defScope s__law_item) .none xk__law_item xc__law_item xp__law_item xa__law_item xe__law_item xt__law_item), xs__law_item⟩)
    (D__law_item : PySem.W.codeIn K xe__law_item "_law_item" = true)
    (P__law_item : PySem.W.keepIn K (.ref g__law_item) = true)
    (A__law_names : PySem.W.nsIn K mainGlobals "_law_names" = some (some (.ref g__law_names)))
    (L__law_names : K.lookup g__law_names = some ⟨xo__law_names, xd__law_names, .func (PySem.W.fnOf "_law_names" "_law_names" (defArgs s__law_names) (defBody s__law_names) (defScope s__law_names) .none xk__law_names xc__law_names xp__law_names xa__law_names xe__law_names xt__law_names), xs__law_names⟩)
    (D__law_names : PySem.W.codeIn K xe__law_names "_law_names" = true)
    (P__law_names : PySem.W.keepIn K (.ref g__law_names) = true)
    (A__law_fault : PySem.W.nsIn K mainGlobals "_law_fault" = some (some (.ref g__law_fault)))
    (L__law_fault : K.lookup g__law_fault = some ⟨xo__law_fault, xd__law_fault, .func (PySem.W.fnOf "_law_fault" "_law_fault" (defArgs s__law_fault) (defBody s__law_fault) (defScope s__law_fault) .none xk__law_fault xc__law_fault xp__law_fault xa__law_fault xe__law_fault xt__law_fault), xs__law_fault⟩)
    (D__law_fault : PySem.W.codeIn K xe__law_fault "_law_fault" = true)
    (P__law_fault : PySem.W.keepIn K (.ref g__law_fault) = true)
    (A__law_filler : PySem.W.nsIn K mainGlobals "_law_filler" = some (some (.ref g__law_filler)))
    (L__law_filler : K.lookup g__law_filler = some ⟨xo__law_filler, xd__law_filler, .func (PySem.W.fnOf "_law_filler" "_law_filler" (defArgs s__law_filler) (defBody s__law_filler) (defScope s__law_filler) .none xk__law_filler xc__law_filler xp__law_filler xa__law_filler xe__law_filler xt__law_filler), xs__law_filler⟩)
    (D__law_filler : PySem.W.codeIn K xe__law_filler "_law_filler" = true)
    (P__law_filler : PySem.W.keepIn K (.ref g__law_filler) = true)
    (A__law_edit : PySem.W.nsIn K mainGlobals "_law_edit" = some (some (.ref g__law_edit)))
    (L__law_edit : K.lookup g__law_edit = some ⟨xo__law_edit, xd__law_edit, .func (PySem.W.fnOf "_law_edit" "_law_edit" (defArgs s__law_edit) (defBody s__law_edit) (defScope s__law_edit) .none xk__law_edit xc__law_edit xp__law_edit xa__law_edit xe__law_edit xt__law_edit), xs__law_edit⟩)
    (D__law_edit : PySem.W.codeIn K xe__law_edit "_law_edit" = true)
    (P__law_edit : PySem.W.keepIn K (.ref g__law_edit) = true)
    (A__law_bad_rows : PySem.W.nsIn K mainGlobals "_law_bad_rows" = some (some (.ref g__law_bad_rows)))
    (L__law_bad_rows : K.lookup g__law_bad_rows = some ⟨xo__law_bad_rows, xd__law_bad_rows, .func (PySem.W.fnOf "_law_bad_rows" "_law_bad_rows" (defArgs s__law_bad_rows) (defBody s__law_bad_rows) (defScope s__law_bad_rows) .none xk__law_bad_rows xc__law_bad_rows xp__law_bad_rows xa__law_bad_rows xe__law_bad_rows xt__law_bad_rows), xs__law_bad_rows⟩)
    (D__law_bad_rows : PySem.W.codeIn K xe__law_bad_rows "_law_bad_rows" = true)
    (P__law_bad_rows : PySem.W.keepIn K (.ref g__law_bad_rows) = true)
    (A__law_wrapped : PySem.W.nsIn K mainGlobals "_law_wrapped" = some (some (.ref g__law_wrapped)))
    (L__law_wrapped : K.lookup g__law_wrapped = some ⟨xo__law_wrapped, xd__law_wrapped, .func (PySem.W.fnOf "_law_wrapped" "_law_wrapped" (defArgs s__law_wrapped) (defBody s__law_wrapped) (defScope s__law_wrapped) .none xk__law_wrapped xc__law_wrapped xp__law_wrapped xa__law_wrapped xe__law_wrapped xt__law_wrapped), xs__law_wrapped⟩)
    (D__law_wrapped : PySem.W.codeIn K xe__law_wrapped "_law_wrapped" = true)
    (P__law_wrapped : PySem.W.keepIn K (.ref g__law_wrapped) = true)
    (A__law_many : PySem.W.nsIn K mainGlobals "_law_many" = some (some (.ref g__law_many)))
    (L__law_many : K.lookup g__law_many = some ⟨xo__law_many, xd__law_many, .func (PySem.W.fnOf "_law_many" "_law_many" (defArgs s__law_many) (defBody s__law_many) (defScope s__law_many) .none xk__law_many xc__law_many xp__law_many xa__law_many xe__law_many xt__law_many), xs__law_many⟩)
    (D__law_many : PySem.W.codeIn K xe__law_many "_law_many" = true)
    (P__law_many : PySem.W.keepIn K (.ref g__law_many) = true)
    (A__law_parts_bad : PySem.W.nsIn K mainGlobals "_law_parts_bad" = some (some (.ref g__law_parts_bad)))
    (L__law_parts_bad : K.lookup g__law_parts_bad = some ⟨xo__law_parts_bad, xd__law_parts_bad, .func (PySem.W.fnOf "_law_parts_bad" "_law_parts_bad" (defArgs s__law_parts_bad) (defBody s__law_parts_bad) (defScope s__law_parts_bad) .none xk__law_parts_bad xc__law_parts_bad xp__law_parts_bad xa__law_parts_bad xe__law_parts_bad xt__law_parts_bad), xs__law_parts_bad⟩)
    (D__law_parts_bad : PySem.W.codeIn K xe__law_parts_bad "_law_parts_bad" = true)
    (P__law_parts_bad : PySem.W.keepIn K (.ref g__law_parts_bad) = true)
    (A_law : PySem.W.nsIn K mainGlobals "law" = some (some (.ref g_law)))
    (L_law : K.lookup g_law = some ⟨xo_law, xd_law, .func (PySem.W.fnOf "law" "law" (defArgs s_law) (defBody s_law) (defScope s_law) .none xk_law xc_law xp_law xa_law xe_law xt_law), xs_law⟩)
    (D_law : PySem.W.codeIn K xe_law "law" = true)
    (P_law : PySem.W.keepIn K (.ref g_law) = true)
    (A_RowCheck : PySem.W.nsIn K mainGlobals "RowCheck" = some (some (.ref c_RowCheck)))
    (c1_RowCheck : PySem.W.plainGet K c_RowCheck Str.empty = true)
    (c2_RowCheck : PySem.W.hasDictIn K c_RowCheck = true)
    (c3_RowCheck : PySem.W.plainOver K c_RowCheck = true)
    (c4_RowCheck : PySem.W.findIn K (.ref c_RowCheck) "__setattr__" = some (some (.builtin "object.__setattr__")))
    (n_RowCheck_known_asks : PySem.W.findIn K (.ref c_RowCheck) "known_asks" = some none)
    (n_RowCheck_known_signals : PySem.W.findIn K (.ref c_RowCheck) "known_signals" = some none)
    (n_RowCheck_with_edits : PySem.W.findIn K (.ref c_RowCheck) "with_edits" = some none)
    (n_RowCheck_total : PySem.W.findIn K (.ref c_RowCheck) "total" = some none)
    (n_RowCheck_label_words : PySem.W.findIn K (.ref c_RowCheck) "label_words" = some none)
    (n_RowCheck_slot_words : PySem.W.findIn K (.ref c_RowCheck) "slot_words" = some none)
    (n_RowCheck_gate_words : PySem.W.findIn K (.ref c_RowCheck) "gate_words" = some none)
    (n_RowCheck_edit_words : PySem.W.findIn K (.ref c_RowCheck) "edit_words" = some none)
    (mk_RowCheck : PySem.W.makesIn K c_RowCheck = true)
    (kp_RowCheck : PySem.W.keepIn K (.ref c_RowCheck) = true)
    (at_RowCheck___init__ : PySem.W.findIn K (.ref c_RowCheck) "__init__" = some (some (.ref m_RowCheck___init__)))
    (fn_RowCheck___init__ : PySem.W.isFn K (.ref m_RowCheck___init__) = true)
    (L_RowCheck___init__ : K.lookup m_RowCheck___init__ = some ⟨xo_RowCheck___init__, xd_RowCheck___init__, .func (PySem.W.fnOf "__init__" "RowCheck.__init__" (defArgs s_RowCheck___init__) (defBody s_RowCheck___init__) (defScope s_RowCheck___init__) .none xk_RowCheck___init__ xc_RowCheck___init__ xp_RowCheck___init__ xa_RowCheck___init__ xe_RowCheck___init__ xt_RowCheck___init__), xs_RowCheck___init__⟩)
    (D_RowCheck___init__ : PySem.W.codeIn K xe_RowCheck___init__ "RowCheck.__init__" = true)
    (P_RowCheck___init__ : PySem.W.keepIn K (.ref m_RowCheck___init__) = true)
    (at_RowCheck_check : PySem.W.findIn K (.ref c_RowCheck) "check" = some (some (.ref m_RowCheck_check)))
    (fn_RowCheck_check : PySem.W.isFn K (.ref m_RowCheck_check) = true)
    (L_RowCheck_check : K.lookup m_RowCheck_check = some ⟨xo_RowCheck_check, xd_RowCheck_check, .func (PySem.W.fnOf "check" "RowCheck.check" (defArgs s_RowCheck_check) (defBody s_RowCheck_check) (defScope s_RowCheck_check) .none xk_RowCheck_check xc_RowCheck_check xp_RowCheck_check xa_RowCheck_check xe_RowCheck_check xt_RowCheck_check), xs_RowCheck_check⟩)
    (D_RowCheck_check : PySem.W.codeIn K xe_RowCheck_check "RowCheck.check" = true)
    (P_RowCheck_check : PySem.W.keepIn K (.ref m_RowCheck_check) = true)
    (at_RowCheck_check_sizes : PySem.W.findIn K (.ref c_RowCheck) "check_sizes" = some (some (.ref m_RowCheck_check_sizes)))
    (fn_RowCheck_check_sizes : PySem.W.isFn K (.ref m_RowCheck_check_sizes) = true)
    (L_RowCheck_check_sizes : K.lookup m_RowCheck_check_sizes = some ⟨xo_RowCheck_check_sizes, xd_RowCheck_check_sizes, .func (PySem.W.fnOf "check_sizes" "RowCheck.check_sizes" (defArgs s_RowCheck_check_sizes) (defBody s_RowCheck_check_sizes) (defScope s_RowCheck_check_sizes) .none xk_RowCheck_check_sizes xc_RowCheck_check_sizes xp_RowCheck_check_sizes xa_RowCheck_check_sizes xe_RowCheck_check_sizes xt_RowCheck_check_sizes), xs_RowCheck_check_sizes⟩)
    (D_RowCheck_check_sizes : PySem.W.codeIn K xe_RowCheck_check_sizes "RowCheck.check_sizes" = true)
    (P_RowCheck_check_sizes : PySem.W.keepIn K (.ref m_RowCheck_check_sizes) = true)
    (at_RowCheck_check_list : PySem.W.findIn K (.ref c_RowCheck) "check_list" = some (some (.ref m_RowCheck_check_list)))
    (fn_RowCheck_check_list : PySem.W.isFn K (.ref m_RowCheck_check_list) = true)
    (L_RowCheck_check_list : K.lookup m_RowCheck_check_list = some ⟨xo_RowCheck_check_list, xd_RowCheck_check_list, .func (PySem.W.fnOf "check_list" "RowCheck.check_list" (defArgs s_RowCheck_check_list) (defBody s_RowCheck_check_list) (defScope s_RowCheck_check_list) .none xk_RowCheck_check_list xc_RowCheck_check_list xp_RowCheck_check_list xa_RowCheck_check_list xe_RowCheck_check_list xt_RowCheck_check_list), xs_RowCheck_check_list⟩)
    (D_RowCheck_check_list : PySem.W.codeIn K xe_RowCheck_check_list "RowCheck.check_list" = true)
    (P_RowCheck_check_list : PySem.W.keepIn K (.ref m_RowCheck_check_list) = true)
    (at_RowCheck_fits : PySem.W.findIn K (.ref c_RowCheck) "fits" = some (some (.ref m_RowCheck_fits)))
    (fn_RowCheck_fits : PySem.W.isFn K (.ref m_RowCheck_fits) = true)
    (L_RowCheck_fits : K.lookup m_RowCheck_fits = some ⟨xo_RowCheck_fits, xd_RowCheck_fits, .func (PySem.W.fnOf "fits" "RowCheck.fits" (defArgs s_RowCheck_fits) (defBody s_RowCheck_fits) (defScope s_RowCheck_fits) .none xk_RowCheck_fits xc_RowCheck_fits xp_RowCheck_fits xa_RowCheck_fits xe_RowCheck_fits xt_RowCheck_fits), xs_RowCheck_fits⟩)
    (D_RowCheck_fits : PySem.W.codeIn K xe_RowCheck_fits "RowCheck.fits" = true)
    (P_RowCheck_fits : PySem.W.keepIn K (.ref m_RowCheck_fits) = true)
    (at_RowCheck_id_fits : PySem.W.findIn K (.ref c_RowCheck) "id_fits" = some (some (.ref m_RowCheck_id_fits)))
    (fn_RowCheck_id_fits : PySem.W.isFn K (.ref m_RowCheck_id_fits) = true)
    (L_RowCheck_id_fits : K.lookup m_RowCheck_id_fits = some ⟨xo_RowCheck_id_fits, xd_RowCheck_id_fits, .func (PySem.W.fnOf "id_fits" "RowCheck.id_fits" (defArgs s_RowCheck_id_fits) (defBody s_RowCheck_id_fits) (defScope s_RowCheck_id_fits) .none xk_RowCheck_id_fits xc_RowCheck_id_fits xp_RowCheck_id_fits xa_RowCheck_id_fits xe_RowCheck_id_fits xt_RowCheck_id_fits), xs_RowCheck_id_fits⟩)
    (D_RowCheck_id_fits : PySem.W.codeIn K xe_RowCheck_id_fits "RowCheck.id_fits" = true)
    (P_RowCheck_id_fits : PySem.W.keepIn K (.ref m_RowCheck_id_fits) = true)
    (at_RowCheck_part_fits : PySem.W.findIn K (.ref c_RowCheck) "part_fits" = some (some (.ref m_RowCheck_part_fits)))
    (fn_RowCheck_part_fits : PySem.W.isFn K (.ref m_RowCheck_part_fits) = true)
    (L_RowCheck_part_fits : K.lookup m_RowCheck_part_fits = some ⟨xo_RowCheck_part_fits, xd_RowCheck_part_fits, .func (PySem.W.fnOf "part_fits" "RowCheck.part_fits" (defArgs s_RowCheck_part_fits) (defBody s_RowCheck_part_fits) (defScope s_RowCheck_part_fits) .none xk_RowCheck_part_fits xc_RowCheck_part_fits xp_RowCheck_part_fits xa_RowCheck_part_fits xe_RowCheck_part_fits xt_RowCheck_part_fits), xs_RowCheck_part_fits⟩)
    (D_RowCheck_part_fits : PySem.W.codeIn K xe_RowCheck_part_fits "RowCheck.part_fits" = true)
    (P_RowCheck_part_fits : PySem.W.keepIn K (.ref m_RowCheck_part_fits) = true)
    (at_RowCheck_collect : PySem.W.findIn K (.ref c_RowCheck) "collect" = some (some (.ref m_RowCheck_collect)))
    (fn_RowCheck_collect : PySem.W.isFn K (.ref m_RowCheck_collect) = true)
    (L_RowCheck_collect : K.lookup m_RowCheck_collect = some ⟨xo_RowCheck_collect, xd_RowCheck_collect, .func (PySem.W.fnOf "collect" "RowCheck.collect" (defArgs s_RowCheck_collect) (defBody s_RowCheck_collect) (defScope s_RowCheck_collect) .none xk_RowCheck_collect xc_RowCheck_collect xp_RowCheck_collect xa_RowCheck_collect xe_RowCheck_collect xt_RowCheck_collect), xs_RowCheck_collect⟩)
    (D_RowCheck_collect : PySem.W.codeIn K xe_RowCheck_collect "RowCheck.collect" = true)
    (P_RowCheck_collect : PySem.W.keepIn K (.ref m_RowCheck_collect) = true)
    (A_Program : PySem.W.nsIn K mainGlobals "Program" = some (some (.ref c_Program)))
    (c1_Program : PySem.W.plainGet K c_Program Str.empty = true)
    (c2_Program : PySem.W.hasDictIn K c_Program = true)
    (c3_Program : PySem.W.plainOver K c_Program = true)
    (c4_Program : PySem.W.findIn K (.ref c_Program) "__setattr__" = some (some (.builtin "object.__setattr__")))
    (n_Program_ask_table : PySem.W.findIn K (.ref c_Program) "ask_table" = some none)
    (n_Program_signal_table : PySem.W.findIn K (.ref c_Program) "signal_table" = some none)
    (n_Program_input_words : PySem.W.findIn K (.ref c_Program) "input_words" = some none)
    (mk_Program : PySem.W.makesIn K c_Program = true)
    (kp_Program : PySem.W.keepIn K (.ref c_Program) = true)
    (at_Program___init__ : PySem.W.findIn K (.ref c_Program) "__init__" = some (some (.ref m_Program___init__)))
    (fn_Program___init__ : PySem.W.isFn K (.ref m_Program___init__) = true)
    (L_Program___init__ : K.lookup m_Program___init__ = some ⟨xo_Program___init__, xd_Program___init__, .func (PySem.W.fnOf "__init__" "Program.__init__" (defArgs s_Program___init__) (defBody s_Program___init__) (defScope s_Program___init__) .none xk_Program___init__ xc_Program___init__ xp_Program___init__ xa_Program___init__ xe_Program___init__ xt_Program___init__), xs_Program___init__⟩)
    (D_Program___init__ : PySem.W.codeIn K xe_Program___init__ "Program.__init__" = true)
    (P_Program___init__ : PySem.W.keepIn K (.ref m_Program___init__) = true)
    (A_Edited : PySem.W.nsIn K mainGlobals "Edited" = some (some (.ref c_Edited)))
    (c1_Edited : PySem.W.plainGet K c_Edited Str.empty = true)
    (c2_Edited : PySem.W.hasDictIn K c_Edited = true)
    (c3_Edited : PySem.W.plainOver K c_Edited = true)
    (c4_Edited : PySem.W.findIn K (.ref c_Edited) "__setattr__" = some (some (.builtin "object.__setattr__")))
    (n_Edited_ask_table : PySem.W.findIn K (.ref c_Edited) "ask_table" = some none)
    (n_Edited_signal_table : PySem.W.findIn K (.ref c_Edited) "signal_table" = some none)
    (n_Edited_input_words : PySem.W.findIn K (.ref c_Edited) "input_words" = some none)
    (n_Edited_row_list : PySem.W.findIn K (.ref c_Edited) "row_list" = some none)
    (n_Edited_edit_ids : PySem.W.findIn K (.ref c_Edited) "edit_ids" = some none)
    (mk_Edited : PySem.W.makesIn K c_Edited = true)
    (kp_Edited : PySem.W.keepIn K (.ref c_Edited) = true)
    (at_Edited___init__ : PySem.W.findIn K (.ref c_Edited) "__init__" = some (some (.ref m_Edited___init__)))
    (fn_Edited___init__ : PySem.W.isFn K (.ref m_Edited___init__) = true)
    (L_Edited___init__ : K.lookup m_Edited___init__ = some ⟨xo_Edited___init__, xd_Edited___init__, .func (PySem.W.fnOf "__init__" "Edited.__init__" (defArgs s_Edited___init__) (defBody s_Edited___init__) (defScope s_Edited___init__) .none xk_Edited___init__ xc_Edited___init__ xp_Edited___init__ xa_Edited___init__ xe_Edited___init__ xt_Edited___init__), xs_Edited___init__⟩)
    (D_Edited___init__ : PySem.W.codeIn K xe_Edited___init__ "Edited.__init__" = true)
    (P_Edited___init__ : PySem.W.keepIn K (.ref m_Edited___init__) = true)
    : ∃ fd : FuncData, (∀ (s : Shared) (v : Value), BindsTo s fd ⟨[v], []⟩ [("_law_script", v)]) ∧ ∀ base : Heap, K.In base → base.Ns mainGlobals mg → FnOk PP w K mg base CX0 16 fa fd ["_law_script"] (spLaw K) := by
  have e := hfa.symm.trans (PySem.W.mg_of X G A_law)
  cases e
  have X_InvalidProgram : XCls PP K c_InvalidProgram := ⟨⟨_, _, _, _, _, _, _, _, _, _, _, _, _, _, _, l_InvalidProgram, rfl⟩, sa_InvalidProgram, su_InvalidProgram, opq, sg, by decide +kernel⟩
  have Y_InvalidProgram : XFn PP K c_InvalidProgram i_InvalidProgram "InvalidProgram.__init__" (defArgs s_InvalidProgram___init__) (defBody s_InvalidProgram___init__) (defScope s_InvalidProgram___init__) := ⟨⟨_, _, _, _, _, _, _, _, _, _, _, _, _, _, _, _, _, _, _, lf_InvalidProgram, cf_InvalidProgram, lc_InvalidProgram, ld_InvalidProgram, v2_InvalidProgram, fe_InvalidProgram⟩, ii_InvalidProgram, ti_InvalidProgram⟩
  have xm_InvalidProgram := Xm_InvalidProgram (w := w) X_InvalidProgram Y_InvalidProgram no_part_InvalidProgram no_path_InvalidProgram
  have ex_InvalidProgram := exm_own hs_InvalidProgram ic_InvalidProgram ty_InvalidProgram ss_InvalidProgram
  have xf_InvalidProgram : XfC K c_InvalidProgram := ⟨hg_InvalidProgram, hk_InvalidProgram, hs_InvalidProgram, hd_InvalidProgram⟩
  have F_is_integer := fun_mk (st := s_is_integer) L_is_integer D_is_integer P_is_integer
  have B_is_integer := F_is_integer.binds (ps := ["value"]) fun _ _ _ _ _ _ us hl => match us, hl with | [_], _ => rfl
  have F_is_word := fun_mk (st := s_is_word) L_is_word D_is_word P_is_word
  have B_is_word := F_is_word.binds (ps := ["value"]) fun _ _ _ _ _ _ us hl => match us, hl with | [_], _ => rfl
  have F_are_words := fun_mk (st := s_are_words) L_are_words D_are_words P_are_words
  have B_are_words := F_are_words.binds (ps := ["value", "most"]) fun _ _ _ _ _ _ us hl => match us, hl with | [_, _], _ => rfl
  have F_is_branches := fun_mk (st := s_is_branches) L_is_branches D_is_branches P_is_branches
  have B_is_branches := F_is_branches.binds (ps := ["value"]) fun _ _ _ _ _ _ us hl => match us, hl with | [_], _ => rfl
  have F_inner_lists := fun_mk (st := s_inner_lists) L_inner_lists D_inner_lists P_inner_lists
  have B_inner_lists := F_inner_lists.binds (ps := ["row"]) fun _ _ _ _ _ _ us hl => match us, hl with | [_], _ => rfl
  have F_with_lists := fun_mk (st := s_with_lists) L_with_lists D_with_lists P_with_lists
  have B_with_lists := F_with_lists.binds (ps := ["row", "lists"]) fun _ _ _ _ _ _ us hl => match us, hl with | [_, _], _ => rfl
  have F_copy_row := fun_mk (st := s_copy_row) L_copy_row D_copy_row P_copy_row
  have B_copy_row := F_copy_row.binds (ps := ["row"]) fun _ _ _ _ _ _ us hl => match us, hl with | [_], _ => rfl
  have F_copy_rows := fun_mk (st := s_copy_rows) L_copy_rows D_copy_rows P_copy_rows
  have B_copy_rows := F_copy_rows.binds (ps := ["rows"]) fun _ _ _ _ _ _ us hl => match us, hl with | [_], _ => rfl
  have F_checked_asks := fun_mk (st := s_checked_asks) L_checked_asks D_checked_asks P_checked_asks
  have B_checked_asks := F_checked_asks.binds (ps := ["value"]) fun _ _ _ _ _ _ us hl => match us, hl with | [_], _ => rfl
  have F_is_box := fun_mk (st := s_is_box) L_is_box D_is_box P_is_box
  have B_is_box := F_is_box.binds (ps := ["value"]) fun _ _ _ _ _ _ us hl => match us, hl with | [_], _ => rfl
  have F_checked_signals := fun_mk (st := s_checked_signals) L_checked_signals D_checked_signals P_checked_signals
  have B_checked_signals := F_checked_signals.binds (ps := ["value"]) fun _ _ _ _ _ _ us hl => match us, hl with | [_], _ => rfl
  have F_checked_inputs := fun_mk (st := s_checked_inputs) L_checked_inputs D_checked_inputs P_checked_inputs
  have B_checked_inputs := F_checked_inputs.binds (ps := ["value"]) fun _ _ _ _ _ _ us hl => match us, hl with | [_], _ => rfl
  have F__law_pool := fun_mk (st := s__law_pool) L__law_pool D__law_pool P__law_pool
  have B__law_pool := F__law_pool.binds (ps := ["_law_script", "_law_k"]) fun _ _ _ _ _ _ us hl => match us, hl with | [_, _], _ => rfl
  have F__law_draw := fun_mk (st := s__law_draw) L__law_draw D__law_draw P__law_draw
  have B__law_draw := F__law_draw.binds (ps := ["_law_pool_here", "_law_many_here"]) fun _ _ _ _ _ _ us hl => match us, hl with | [_, _], _ => rfl
  have F__law_item := fun_mk (st := s__law_item) L__law_item D__law_item P__law_item
  have B__law_item := F__law_item.binds (ps := ["_law_pool_here", "_law_items"]) fun _ _ _ _ _ _ us hl => match us, hl with | [_, _], _ => rfl
  have F__law_names := fun_mk (st := s__law_names) L__law_names D__law_names P__law_names
  have B__law_names := F__law_names.binds (ps := ["_law_pool_here", "_law_many_here"]) fun _ _ _ _ _ _ us hl => match us, hl with | [_, _], _ => rfl
  have F__law_fault := fun_mk (st := s__law_fault) L__law_fault D__law_fault P__law_fault
  have B__law_fault := F__law_fault.binds (ps := ["_law_rows", "_law_asked", "_law_boxes", "_law_starts", "_law_edits"]) fun _ _ _ _ _ _ us hl => match us, hl with | [_, _, _, _, _], _ => rfl
  have F__law_filler := fun_mk (st := s__law_filler) L__law_filler D__law_filler P__law_filler
  have B__law_filler := F__law_filler.binds (ps := ["_law_pool_here", "_law_names_here", "_law_many_here"]) fun _ _ _ _ _ _ us hl => match us, hl with | [_, _, _], _ => rfl
  have F__law_edit := fun_mk (st := s__law_edit) L__law_edit D__law_edit P__law_edit
  have B__law_edit := F__law_edit.binds (ps := ["_law_word"]) fun _ _ _ _ _ _ us hl => match us, hl with | [_], _ => rfl
  have F__law_bad_rows := fun_mk (st := s__law_bad_rows) L__law_bad_rows D__law_bad_rows P__law_bad_rows
  have B__law_bad_rows := F__law_bad_rows.binds (ps := ["_law_pool_here", "_law_word"]) fun _ _ _ _ _ _ us hl => match us, hl with | [_, _], _ => rfl
  have F__law_wrapped := fun_mk (st := s__law_wrapped) L__law_wrapped D__law_wrapped P__law_wrapped
  have B__law_wrapped := F__law_wrapped.binds (ps := ["_law_pool_here", "_law_before", "_law_row", "_law_after"]) fun _ _ _ _ _ _ us hl => match us, hl with | [_, _, _, _], _ => rfl
  have F__law_many := fun_mk (st := s__law_many) L__law_many D__law_many P__law_many
  have B__law_many := F__law_many.binds (ps := ["_law_pool_here", "_law_word"]) fun _ _ _ _ _ _ us hl => match us, hl with | [_, _], _ => rfl
  have F__law_parts_bad := fun_mk (st := s__law_parts_bad) L__law_parts_bad D__law_parts_bad P__law_parts_bad
  have B__law_parts_bad := F__law_parts_bad.binds (ps := ["_law_pool_here"]) fun _ _ _ _ _ _ us hl => match us, hl with | [_], _ => rfl
  have F_law := fun_mk (st := s_law) L_law D_law P_law
  have cls_RowCheck : Cls K c_RowCheck := ⟨c1_RowCheck, c2_RowCheck, c3_RowCheck, c4_RowCheck⟩
  have F_RowCheck___init__ := fun_mk (st := s_RowCheck___init__) L_RowCheck___init__ D_RowCheck___init__ P_RowCheck___init__
  have B_RowCheck___init__ := F_RowCheck___init__.binds (ps := ["self", "asks", "signals", "with_edits"]) fun _ _ _ _ _ _ us hl => match us, hl with | [_, _, _, _], _ => rfl
  have M_RowCheck : Mk K c_RowCheck m_RowCheck___init__ := ⟨mk_RowCheck, at_RowCheck___init__, fn_RowCheck___init__, kp_RowCheck⟩
  have F_RowCheck_check := fun_mk (st := s_RowCheck_check) L_RowCheck_check D_RowCheck_check P_RowCheck_check
  have B_RowCheck_check := F_RowCheck_check.binds (ps := ["self", "rows"]) fun _ _ _ _ _ _ us hl => match us, hl with | [_, _], _ => rfl
  have M_RowCheck_check : Meth K c_RowCheck "check" m_RowCheck_check := ⟨at_RowCheck_check, fn_RowCheck_check, P_RowCheck_check⟩
  have F_RowCheck_check_sizes := fun_mk (st := s_RowCheck_check_sizes) L_RowCheck_check_sizes D_RowCheck_check_sizes P_RowCheck_check_sizes
  have B_RowCheck_check_sizes := F_RowCheck_check_sizes.binds (ps := ["self"]) fun _ _ _ _ _ _ us hl => match us, hl with | [_], _ => rfl
  have M_RowCheck_check_sizes : Meth K c_RowCheck "check_sizes" m_RowCheck_check_sizes := ⟨at_RowCheck_check_sizes, fn_RowCheck_check_sizes, P_RowCheck_check_sizes⟩
  have F_RowCheck_check_list := fun_mk (st := s_RowCheck_check_list) L_RowCheck_check_list D_RowCheck_check_list P_RowCheck_check_list
  have B_RowCheck_check_list := F_RowCheck_check_list.binds (ps := ["self", "rows", "prefix", "depth", "in_loop"]) fun _ _ _ _ _ _ us hl => match us, hl with | [_, _, _, _, _], _ => rfl
  have M_RowCheck_check_list : Meth K c_RowCheck "check_list" m_RowCheck_check_list := ⟨at_RowCheck_check_list, fn_RowCheck_check_list, P_RowCheck_check_list⟩
  have F_RowCheck_fits := fun_mk (st := s_RowCheck_fits) L_RowCheck_fits D_RowCheck_fits P_RowCheck_fits
  have B_RowCheck_fits := F_RowCheck_fits.binds (ps := ["self", "row", "depth", "in_loop"]) fun _ _ _ _ _ _ us hl => match us, hl with | [_, _, _, _], _ => rfl
  have M_RowCheck_fits : Meth K c_RowCheck "fits" m_RowCheck_fits := ⟨at_RowCheck_fits, fn_RowCheck_fits, P_RowCheck_fits⟩
  have F_RowCheck_id_fits := fun_mk (st := s_RowCheck_id_fits) L_RowCheck_id_fits D_RowCheck_id_fits P_RowCheck_id_fits
  have B_RowCheck_id_fits := F_RowCheck_id_fits.binds (ps := ["self", "row"]) fun _ _ _ _ _ _ us hl => match us, hl with | [_, _], _ => rfl
  have M_RowCheck_id_fits : Meth K c_RowCheck "id_fits" m_RowCheck_id_fits := ⟨at_RowCheck_id_fits, fn_RowCheck_id_fits, P_RowCheck_id_fits⟩
  have F_RowCheck_part_fits := fun_mk (st := s_RowCheck_part_fits) L_RowCheck_part_fits D_RowCheck_part_fits P_RowCheck_part_fits
  have B_RowCheck_part_fits := F_RowCheck_part_fits.binds (ps := ["self", "code", "part"]) fun _ _ _ _ _ _ us hl => match us, hl with | [_, _, _], _ => rfl
  have M_RowCheck_part_fits : Meth K c_RowCheck "part_fits" m_RowCheck_part_fits := ⟨at_RowCheck_part_fits, fn_RowCheck_part_fits, P_RowCheck_part_fits⟩
  have F_RowCheck_collect := fun_mk (st := s_RowCheck_collect) L_RowCheck_collect D_RowCheck_collect P_RowCheck_collect
  have B_RowCheck_collect := F_RowCheck_collect.binds (ps := ["self", "row"]) fun _ _ _ _ _ _ us hl => match us, hl with | [_, _], _ => rfl
  have M_RowCheck_collect : Meth K c_RowCheck "collect" m_RowCheck_collect := ⟨at_RowCheck_collect, fn_RowCheck_collect, P_RowCheck_collect⟩
  have cls_Program : Cls K c_Program := ⟨c1_Program, c2_Program, c3_Program, c4_Program⟩
  have F_Program___init__ := fun_mk (st := s_Program___init__) L_Program___init__ D_Program___init__ P_Program___init__
  have M_Program : Mk K c_Program m_Program___init__ := ⟨mk_Program, at_Program___init__, fn_Program___init__, kp_Program⟩
  have cls_Edited : Cls K c_Edited := ⟨c1_Edited, c2_Edited, c3_Edited, c4_Edited⟩
  have F_Edited___init__ := fun_mk (st := s_Edited___init__) L_Edited___init__ D_Edited___init__ P_Edited___init__
  have M_Edited : Mk K c_Edited m_Edited___init__ := ⟨mk_Edited, at_Edited___init__, fn_Edited___init__, kp_Edited⟩
  have T0 : Txt mg := { b_len := PySem.W.mg_none_of X G z_len, b_int := PySem.W.mg_none_of X G z_int, b_bool := PySem.W.mg_none_of X G z_bool, b_str := PySem.W.mg_none_of X G z_str, b_list := PySem.W.mg_none_of X G z_list, b_tuple := PySem.W.mg_none_of X G z_tuple, b_dict := PySem.W.mg_none_of X G z_dict, b_set := PySem.W.mg_none_of X G z_set, b_range := PySem.W.mg_none_of X G z_range, b_zip := PySem.W.mg_none_of X G z_zip, b_enumerate := PySem.W.mg_none_of X G z_enumerate, b_sorted := PySem.W.mg_none_of X G z_sorted, b_isinstance := PySem.W.mg_none_of X G z_isinstance, g_LETTERS := ⟨_, PySem.W.mg_of X G z_LETTERS⟩ }
  have T : TxtC PP w K mg p_SHAPES c_InvalidProgram := { T0 with g_SHAPES := PySem.W.mg_of X G A_SHAPES, w_SHAPES := ⟨_, _, L_SHAPES, E_SHAPES, S_SHAPES⟩, g_MOST_ROWS := ⟨_, PySem.W.mg_of X G z_MOST_ROWS⟩, g_MOST_LABELS := ⟨_, PySem.W.mg_of X G z_MOST_LABELS⟩, g_MOST_SLOTS := ⟨_, PySem.W.mg_of X G z_MOST_SLOTS⟩, g_MOST_GATES := ⟨_, PySem.W.mg_of X G z_MOST_GATES⟩, g_MOST_EDITS := ⟨_, PySem.W.mg_of X G z_MOST_EDITS⟩, g_DEEPEST := ⟨_, PySem.W.mg_of X G z_DEEPEST⟩, g_InvalidProgram := PySem.W.mg_of X G A_InvalidProgram, k_InvalidProgram := kp_InvalidProgram, mk_InvalidProgram := xm_InvalidProgram.1, r_InvalidProgram := fun _ _ k => ⟨PySem.W.looks_subIn k hs_InvalidProgram, PySem.W.looks_typeIn k ty_InvalidProgram⟩ }
  have rc : RcC K c_RowCheck := ⟨cls_RowCheck, n_RowCheck_known_asks, n_RowCheck_known_signals, n_RowCheck_with_edits, n_RowCheck_total, n_RowCheck_label_words, n_RowCheck_slot_words, n_RowCheck_gate_words, n_RowCheck_edit_words⟩
  have ec : EdC K c_Edited := ⟨cls_Edited, n_Edited_ask_table, n_Edited_signal_table, n_Edited_input_words, n_Edited_row_list, n_Edited_edit_ids⟩
  have pc : PrC K c_Program := ⟨cls_Program, n_Program_ask_table, n_Program_signal_table, n_Program_input_words⟩
  refine ⟨PySem.W.fnOf "law" "law" (defArgs s_law) (defBody s_law) (defScope s_law) .none xk_law xc_law xp_law xa_law xe_law xt_law, fun s v => .of_eq rfl, fun base _ _ => ?_⟩
  have c_is_integer : Cal PP w K mg base CX0 1 "is_integer" ["value"] (spInt K) := ⟨g_is_integer, _, PySem.W.mg_of X G A_is_integer, P_is_integer, B_is_integer, ok_is_integer F_is_integer T0⟩
  have c_is_word : Cal PP w K mg base CX0 1 "is_word" ["value"] (spWord K) := ⟨g_is_word, _, PySem.W.mg_of X G A_is_word, P_is_word, B_is_word, ok_is_word F_is_word T0⟩
  have c_are_words : Cal PP w K mg base CX0 2 "are_words" ["value", "most"] (spAreWords K) := ⟨g_are_words, _, PySem.W.mg_of X G A_are_words, P_are_words, B_are_words, ok_are_words F_are_words T0 c_is_word⟩
  have c_is_branches : Cal PP w K mg base CX0 1 "is_branches" ["value"] (spBr K) := ⟨g_is_branches, _, PySem.W.mg_of X G A_is_branches, P_is_branches, B_is_branches, ok_is_branches F_is_branches T0⟩
  have c_inner_lists : Cal PP w K mg base CX0 1 "inner_lists" ["row"] (spInner K) := ⟨g_inner_lists, _, PySem.W.mg_of X G A_inner_lists, P_inner_lists, B_inner_lists, ok_inner_lists F_inner_lists T0⟩
  have c_with_lists : Cal PP w K mg base CX0 1 "with_lists" ["row", "lists"] (spWith K) := ⟨g_with_lists, _, PySem.W.mg_of X G A_with_lists, P_with_lists, B_with_lists, ok_with_lists F_with_lists T0⟩
  have c_copy_rows : Cal PP w K mg base CX0 11 "copy_rows" ["rows"] (spCRows K 5) := ok_copies F_copy_rows F_copy_row T0 (PySem.W.mg_of X G A_copy_rows) (PySem.W.mg_of X G A_copy_row) P_copy_rows P_copy_row B_copy_rows B_copy_row c_inner_lists c_with_lists 5
  have c_checked_asks : Cal PP w K mg base (L2.CX PP w) 3 "checked_asks" ["value"] (spTab K c_InvalidProgram "asks" (areWords 4) 6) := ⟨g_checked_asks, _, PySem.W.mg_of X G A_checked_asks, P_checked_asks, B_checked_asks, ok_checked_asks F_checked_asks T c_is_word c_are_words⟩
  have c_is_box : Cal PP w K mg base CX0 3 "is_box" ["value"] (spBox K) := ⟨g_is_box, _, PySem.W.mg_of X G A_is_box, P_is_box, B_is_box, ok_is_box F_is_box T0 c_is_integer c_are_words⟩
  have c_checked_signals : Cal PP w K mg base (L2.CX PP w) 4 "checked_signals" ["value"] (spTab K c_InvalidProgram "signals" isBox 3) := ⟨g_checked_signals, _, PySem.W.mg_of X G A_checked_signals, P_checked_signals, B_checked_signals, ok_checked_signals F_checked_signals T c_is_word c_is_box⟩
  have c_checked_inputs : Cal PP w K mg base (L2.CX PP w) 3 "checked_inputs" ["value"] (spInputs K c_InvalidProgram) := ⟨g_checked_inputs, _, PySem.W.mg_of X G A_checked_inputs, P_checked_inputs, B_checked_inputs, ok_checked_inputs F_checked_inputs T c_are_words⟩
  have m_part_fits : Mcal PP w K mg base CX0 3 c_RowCheck "part_fits" ["self", "code", "part"] (spPF K) := ⟨m_RowCheck_part_fits, _, M_RowCheck_part_fits, B_RowCheck_part_fits, ok_part_fits F_RowCheck_part_fits T0 c_is_word c_are_words c_is_branches⟩
  have m_id_fits : Mcal PP w K mg base CX0 1 c_RowCheck "id_fits" ["self", "row"] (spID K) := ⟨m_RowCheck_id_fits, _, M_RowCheck_id_fits, B_RowCheck_id_fits, ok_id_fits F_RowCheck_id_fits⟩
  have m_collect : Mcal PP w K mg base CX0 1 c_RowCheck "collect" ["self", "row"] (spCol K) := ⟨m_RowCheck_collect, _, M_RowCheck_collect, B_RowCheck_collect, ok_collect F_RowCheck_collect T⟩
  have m_fits : Mcal PP w K mg base CX0 4 c_RowCheck "fits" ["self", "row", "depth", "in_loop"] (spFits K c_RowCheck) := ⟨m_RowCheck_fits, _, M_RowCheck_fits, B_RowCheck_fits, ok_fits F_RowCheck_fits T rc m_part_fits m_id_fits⟩
  have m_check_list : Mcal PP w K mg base (L2.CX PP w) 11 c_RowCheck "check_list" ["self", "rows", "prefix", "depth", "in_loop"] (spCL K c_RowCheck c_InvalidProgram 5) := ⟨m_RowCheck_check_list, _, M_RowCheck_check_list, B_RowCheck_check_list, ok_check_list F_RowCheck_check_list T rc M_RowCheck_check_list B_RowCheck_check_list m_fits m_collect c_inner_lists 5⟩
  have m_check_sizes : Mcal PP w K mg base (L2.CX PP w) 1 c_RowCheck "check_sizes" ["self"] (spSizes K c_RowCheck c_InvalidProgram) := ⟨m_RowCheck_check_sizes, _, M_RowCheck_check_sizes, B_RowCheck_check_sizes, ok_check_sizes F_RowCheck_check_sizes T rc⟩
  have m_check : Mcal PP w K mg base (L2.CX PP w) 12 c_RowCheck "check" ["self", "rows"] (spCheck K c_RowCheck c_InvalidProgram) := ⟨m_RowCheck_check, _, M_RowCheck_check, B_RowCheck_check, ok_check F_RowCheck_check T rc m_check_list m_check_sizes⟩
  have k_RowCheck : Kcal PP w K mg base CX0 1 "RowCheck" c_RowCheck ["self", "asks", "signals", "with_edits"] (spRcInit K c_RowCheck) := ⟨m_RowCheck___init__, _, M_RowCheck, PySem.W.mg_of X G A_RowCheck, B_RowCheck___init__, ok_rcinit F_RowCheck___init__ rc⟩
  have k_Edited : KcalN PP w K mg base (L2.CX PP w) 13 "Edited" c_Edited ["self", "rows", "asks", "signals", "inputs"] 1 ["asks", "signals", "inputs"] (spEdited K c_Edited c_InvalidProgram true) := ⟨m_Edited___init__, _, fun us ws => us ++ ws, M_Edited, PySem.W.mg_of X G A_Edited, ⟨fun s us ws _ l1 l2 => match us, l1, ws, l2 with | [_, _], _, [_, _, _], _ => .of_eq rfl, fun r1 r2 => vals_app r1 r2⟩, ok_edited F_Edited___init__ T ec rc c_checked_asks c_checked_signals c_checked_inputs k_RowCheck m_check c_copy_rows⟩
  have k_Program : KcalN PP w K mg base (L2.CX PP w) 13 "Program" c_Program ["self", "rows", "asks", "signals", "inputs"] 1 ["asks", "signals", "inputs"] (spProgBad K c_Program c_InvalidProgram) := ⟨m_Program___init__, _, fun us ws => us ++ ws, M_Program, PySem.W.mg_of X G A_Program, ⟨fun s us ws _ l1 l2 => match us, l1, ws, l2 with | [_, _], _, [_, _, _], _ => .of_eq rfl, fun r1 r2 => vals_app r1 r2⟩, ok_progBad F_Program___init__ T pc rc c_checked_asks c_checked_signals c_checked_inputs k_RowCheck m_check⟩
  have c__law_pool : Cal PP w K mg base CX0 1 "_law_pool" ["_law_script", "_law_k"] (spPool K) := ⟨g__law_pool, _, PySem.W.mg_of X G A__law_pool, P__law_pool, B__law_pool, ok_pool F__law_pool T0⟩
  have c__law_draw : Cal PP w K mg base CX0 1 "_law_draw" ["_law_pool_here", "_law_many_here"] spD := ⟨g__law_draw, _, PySem.W.mg_of X G A__law_draw, P__law_draw, B__law_draw, ok_draw2 (ok_draw F__law_draw T0)⟩
  have c__law_item : Cal PP w K mg base CX0 2 "_law_item" ["_law_pool_here", "_law_items"] (spItem K) := ⟨g__law_item, _, PySem.W.mg_of X G A__law_item, P__law_item, B__law_item, ok_item F__law_item T0 c__law_draw⟩
  have c__law_names : Cal PP w K mg base CX0 2 "_law_names" ["_law_pool_here", "_law_many_here"] spNames := ⟨g__law_names, _, PySem.W.mg_of X G A__law_names, P__law_names, B__law_names, ok_names F__law_names T0 c__law_draw⟩
  have c__law_edit : Cal PP w K mg base CX0 1 "_law_edit" ["_law_word"] (spEdit K) := ⟨g__law_edit, _, PySem.W.mg_of X G A__law_edit, P__law_edit, B__law_edit, ok_edit F__law_edit⟩
  have c__law_filler : Cal PP w K mg base CX0 3 "_law_filler" ["_law_pool_here", "_law_names_here", "_law_many_here"] (spFiller K) := ⟨g__law_filler, _, PySem.W.mg_of X G A__law_filler, P__law_filler, B__law_filler, ok_filler F__law_filler T0 c__law_draw c__law_item⟩
  have c__law_bad_rows : Cal PP w K mg base CX0 2 "_law_bad_rows" ["_law_pool_here", "_law_word"] (spBad K) := ⟨g__law_bad_rows, _, PySem.W.mg_of X G A__law_bad_rows, P__law_bad_rows, B__law_bad_rows, ok_bad F__law_bad_rows c__law_draw c__law_edit⟩
  have c__law_wrapped : Cal PP w K mg base CX0 2 "_law_wrapped" ["_law_pool_here", "_law_before", "_law_row", "_law_after"] (spWrap K) := ⟨g__law_wrapped, _, PySem.W.mg_of X G A__law_wrapped, P__law_wrapped, B__law_wrapped, ok_wrapped F__law_wrapped T0 c__law_draw⟩
  have c__law_many : Cal PP w K mg base CX0 2 "_law_many" ["_law_pool_here", "_law_word"] (spMany2 K) := ⟨g__law_many, _, PySem.W.mg_of X G A__law_many, P__law_many, B__law_many, ok_many2 (ok_many F__law_many T0 c__law_draw c__law_edit)⟩
  have c__law_parts_bad : Cal PP w K mg base CX0 2 "_law_parts_bad" ["_law_pool_here"] (spPB K) := ⟨g__law_parts_bad, _, PySem.W.mg_of X G A__law_parts_bad, P__law_parts_bad, B__law_parts_bad, ok_pb F__law_parts_bad c__law_draw⟩
  have c__law_fault : Cal PP w K mg base CX0 15 "_law_fault" ["_law_rows", "_law_asked", "_law_boxes", "_law_starts", "_law_edits"] (spFault K) := ⟨g__law_fault, _, PySem.W.mg_of X G A__law_fault, P__law_fault, B__law_fault, ok_fault F__law_fault T xf_InvalidProgram no_part_InvalidProgram no_path_InvalidProgram ex_InvalidProgram k_Edited k_Program⟩
  exact ok_law F_law T0 c__law_pool c__law_draw c__law_names c__law_parts_bad c__law_filler c__law_many c__law_bad_rows c__law_wrapped c__law_fault c__law_edit
theorem walk {q : Program} {loose : List Str} {XP : (Str → Option Value) → Heap → Prop} {YP : World → Heap → Prop} {d : DefRec} {K : Params → PySem.W.Frag} (hdf : d.params.defaults = [])
    (hY : ∀ (w : World) (h : Heap), YP w h → (K w.params).In h)
    (F : ∀ (w : World) (mg : Str → Option Value) (fa : Addr) (h : Heap), (K w.params).In h → h.Ns mainGlobals mg → mg d.name = some (.ref fa) →
      ∃ fd : FuncData, (∀ (s : Shared) (u : Value), BindsTo s fd ⟨[u], []⟩ [("_law_script", u)]) ∧ ∀ base : Heap, (K w.params).In base → base.Ns mainGlobals mg → FnOk PP w (K w.params) mg base CX0 16 fa fd ["_law_script"] (spLaw (K w.params))) :
    PySem.W.WalkO q loose XP YP PySem.Challenge.rw_openruns_k54_edited_refusals.row.toRowW d [] (fun f vs => PySem.call f vs) :=
  L2.walk_of (l := PySem.Challenge.rw_openruns_k54_edited_refusals) (n := 63) (k := 16) (x := "_law_script") (CX := fun _ => CX0) (sp := fun w => spLaw (K w.params)) rfl (by decide) hdf ⟨rfl, by decide, by decide⟩ hY F (fun _ _ a ns hl _ hS => ⟨a, ns, rfl, hS, hl, fun _ => rfl⟩) fun _ _ _ _ _ z => z
end Op
open PySem PySem.W PyProof.Rows
set_option maxRecDepth 100000 in
set_option maxHeartbeats 0 in
theorem PySem.Challenge.cw_openruns_k54_edited_refusals_holds : PySem.Challenge.rw_openruns_k54_edited_refusals.Holds := by
  w_on; o_law; k_head; (case hw => w_witness2)
  k_fill
  refine Op.walk rfl (fun w h Y => PySem.W.kIn_of Y) ?F
  case F =>
    intro w mg fa h KX G hmg
    refine' Op.all_mk KX G hmg ?z_len ?z_int ?z_bool ?z_str ?z_list ?z_tuple ?z_dict ?z_set ?z_range ?z_zip ?z_enumerate ?z_sorted ?z_isinstance ?z_LETTERS ?z_MOST_ROWS ?z_MOST_LABELS ?z_MOST_SLOTS ?z_MOST_GATES ?z_MOST_EDITS ?z_DEEPEST ?A_SHAPES ?L_SHAPES ?E_SHAPES ?S_SHAPES ?opq ?sg ?A_InputError ?A_OpenError ?A_InvalidProgram ?l_InvalidProgram ?sa_InvalidProgram ?su_InvalidProgram ?ii_InvalidProgram ?ti_InvalidProgram ?lf_InvalidProgram ?cf_InvalidProgram ?lc_InvalidProgram ?ld_InvalidProgram ?v2_InvalidProgram ?fe_InvalidProgram ?kp_InvalidProgram ?hg_InvalidProgram ?hk_InvalidProgram ?hs_InvalidProgram ?hd_InvalidProgram ?ty_InvalidProgram ?ic_InvalidProgram ?ss_InvalidProgram ?no_part_InvalidProgram ?no_path_InvalidProgram ?A_is_integer ?L_is_integer ?D_is_integer ?P_is_integer ?A_is_word ?L_is_word ?D_is_word ?P_is_word ?A_are_words ?L_are_words ?D_are_words ?P_are_words ?A_is_branches ?L_is_branches ?D_is_branches ?P_is_branches ?A_inner_lists ?L_inner_lists ?D_inner_lists ?P_inner_lists ?A_with_lists ?L_with_lists ?D_with_lists ?P_with_lists ?A_copy_row ?L_copy_row ?D_copy_row ?P_copy_row ?A_copy_rows ?L_copy_rows ?D_copy_rows ?P_copy_rows ?A_checked_asks ?L_checked_asks ?D_checked_asks ?P_checked_asks ?A_is_box ?L_is_box ?D_is_box ?P_is_box ?A_checked_signals ?L_checked_signals ?D_checked_signals ?P_checked_signals ?A_checked_inputs ?L_checked_inputs ?D_checked_inputs ?P_checked_inputs ?A__law_pool ?L__law_pool ?D__law_pool ?P__law_pool ?A__law_draw ?L__law_draw ?D__law_draw ?P__law_draw ?A__law_item ?L__law_item ?D__law_item ?P__law_item ?A__law_names ?L__law_names ?D__law_names ?P__law_names ?A__law_fault ?L__law_fault ?D__law_fault ?P__law_fault ?A__law_filler ?L__law_filler ?D__law_filler ?P__law_filler ?A__law_edit ?L__law_edit ?D__law_edit ?P__law_edit ?A__law_bad_rows ?L__law_bad_rows ?D__law_bad_rows ?P__law_bad_rows ?A__law_wrapped ?L__law_wrapped ?D__law_wrapped ?P__law_wrapped ?A__law_many ?L__law_many ?D__law_many ?P__law_many ?A__law_parts_bad ?L__law_parts_bad ?D__law_parts_bad ?P__law_parts_bad ?A_law ?L_law ?D_law ?P_law ?A_RowCheck ?c1_RowCheck ?c2_RowCheck ?c3_RowCheck ?c4_RowCheck ?n_RowCheck_known_asks ?n_RowCheck_known_signals ?n_RowCheck_with_edits ?n_RowCheck_total ?n_RowCheck_label_words ?n_RowCheck_slot_words ?n_RowCheck_gate_words ?n_RowCheck_edit_words ?mk_RowCheck ?kp_RowCheck ?at_RowCheck___init__ ?fn_RowCheck___init__ ?L_RowCheck___init__ ?D_RowCheck___init__ ?P_RowCheck___init__ ?at_RowCheck_check ?fn_RowCheck_check ?L_RowCheck_check ?D_RowCheck_check ?P_RowCheck_check ?at_RowCheck_check_sizes ?fn_RowCheck_check_sizes ?L_RowCheck_check_sizes ?D_RowCheck_check_sizes ?P_RowCheck_check_sizes ?at_RowCheck_check_list ?fn_RowCheck_check_list ?L_RowCheck_check_list ?D_RowCheck_check_list ?P_RowCheck_check_list ?at_RowCheck_fits ?fn_RowCheck_fits ?L_RowCheck_fits ?D_RowCheck_fits ?P_RowCheck_fits ?at_RowCheck_id_fits ?fn_RowCheck_id_fits ?L_RowCheck_id_fits ?D_RowCheck_id_fits ?P_RowCheck_id_fits ?at_RowCheck_part_fits ?fn_RowCheck_part_fits ?L_RowCheck_part_fits ?D_RowCheck_part_fits ?P_RowCheck_part_fits ?at_RowCheck_collect ?fn_RowCheck_collect ?L_RowCheck_collect ?D_RowCheck_collect ?P_RowCheck_collect ?A_Program ?c1_Program ?c2_Program ?c3_Program ?c4_Program ?n_Program_ask_table ?n_Program_signal_table ?n_Program_input_words ?mk_Program ?kp_Program ?at_Program___init__ ?fn_Program___init__ ?L_Program___init__ ?D_Program___init__ ?P_Program___init__ ?A_Edited ?c1_Edited ?c2_Edited ?c3_Edited ?c4_Edited ?n_Edited_ask_table ?n_Edited_signal_table ?n_Edited_input_words ?n_Edited_row_list ?n_Edited_edit_ids ?mk_Edited ?kp_Edited ?at_Edited___init__ ?fn_Edited___init__ ?L_Edited___init__ ?D_Edited___init__ ?P_Edited___init__
    (case z_len => k_is)
    (case z_int => k_is)
    (case z_bool => k_is)
    (case z_str => k_is)
    (case z_list => k_is)
    (case z_tuple => k_is)
    (case z_dict => k_is)
    (case z_set => k_is)
    (case z_range => k_is)
    (case z_zip => k_is)
    (case z_enumerate => k_is)
    (case z_sorted => k_is)
    (case z_isinstance => k_is)
    (case z_LETTERS => k_is)
    (case z_MOST_ROWS => k_is)
    (case z_MOST_LABELS => k_is)
    (case z_MOST_SLOTS => k_is)
    (case z_MOST_GATES => k_is)
    (case z_MOST_EDITS => k_is)
    (case z_DEEPEST => k_is)
    (case A_SHAPES => k_is)
    (case L_SHAPES => k_is)
    (case E_SHAPES => exact ⟨⟨_, rfl, rfl⟩, ⟨_, rfl⟩, ⟨⟨_, rfl, rfl⟩, ⟨_, rfl⟩, ⟨⟨_, rfl, rfl⟩, ⟨_, rfl⟩, ⟨⟨_, rfl, rfl⟩, ⟨_, rfl⟩, ⟨⟨_, rfl, rfl⟩, ⟨_, rfl⟩, ⟨⟨_, rfl, rfl⟩, ⟨_, rfl⟩, ⟨⟨_, rfl, rfl⟩, ⟨_, rfl⟩, ⟨⟨_, rfl, rfl⟩, ⟨_, rfl⟩, ⟨⟨_, rfl, rfl⟩, ⟨_, rfl⟩, ⟨⟨_, rfl, rfl⟩, ⟨_, rfl⟩, ⟨⟨_, rfl, rfl⟩, ⟨_, rfl⟩, ⟨⟨_, rfl, rfl⟩, ⟨_, rfl⟩, ⟨⟨_, rfl, rfl⟩, ⟨_, rfl⟩, ⟨⟨_, rfl, rfl⟩, ⟨_, rfl⟩, ⟨⟨_, rfl, rfl⟩, ⟨_, rfl⟩, ⟨⟨_, rfl, rfl⟩, ⟨_, rfl⟩, ⟨⟨_, rfl, rfl⟩, ⟨_, rfl⟩, ⟨⟨_, rfl, rfl⟩, ⟨_, rfl⟩, trivial⟩⟩⟩⟩⟩⟩⟩⟩⟩⟩⟩⟩⟩⟩⟩⟩⟩⟩)
    (case S_SHAPES => rfl)
    (case opq => k_is)
    (case sg => k_is)
    (case A_InputError => k_is)
    (case A_OpenError => k_is)
    (case A_InvalidProgram => k_is)
    (case l_InvalidProgram => k_is)
    (case sa_InvalidProgram => k_is)
    (case su_InvalidProgram => rfl)
    (case ii_InvalidProgram => k_is)
    (case ti_InvalidProgram => k_is)
    (case lf_InvalidProgram => k_is)
    (case cf_InvalidProgram => k_is)
    (case lc_InvalidProgram => k_is)
    (case ld_InvalidProgram => k_is)
    (case v2_InvalidProgram => rfl)
    (case fe_InvalidProgram => decide +kernel)
    (case kp_InvalidProgram => k_is)
    (case hg_InvalidProgram => k_is)
    (case hk_InvalidProgram => k_is)
    (case hs_InvalidProgram => k_is)
    (case hd_InvalidProgram => k_is)
    (case ty_InvalidProgram => k_is)
    (case ic_InvalidProgram => k_is)
    (case ss_InvalidProgram => k_is)
    (case no_part_InvalidProgram => k_is)
    (case no_path_InvalidProgram => k_is)
    (case A_is_integer => k_is)
    (case L_is_integer => k_is)
    (case D_is_integer => k_is)
    (case P_is_integer => k_is)
    (case A_is_word => k_is)
    (case L_is_word => k_is)
    (case D_is_word => k_is)
    (case P_is_word => k_is)
    (case A_are_words => k_is)
    (case L_are_words => k_is)
    (case D_are_words => k_is)
    (case P_are_words => k_is)
    (case A_is_branches => k_is)
    (case L_is_branches => k_is)
    (case D_is_branches => k_is)
    (case P_is_branches => k_is)
    (case A_inner_lists => k_is)
    (case L_inner_lists => k_is)
    (case D_inner_lists => k_is)
    (case P_inner_lists => k_is)
    (case A_with_lists => k_is)
    (case L_with_lists => k_is)
    (case D_with_lists => k_is)
    (case P_with_lists => k_is)
    (case A_copy_row => k_is)
    (case L_copy_row => k_is)
    (case D_copy_row => k_is)
    (case P_copy_row => k_is)
    (case A_copy_rows => k_is)
    (case L_copy_rows => k_is)
    (case D_copy_rows => k_is)
    (case P_copy_rows => k_is)
    (case A_checked_asks => k_is)
    (case L_checked_asks => k_is)
    (case D_checked_asks => k_is)
    (case P_checked_asks => k_is)
    (case A_is_box => k_is)
    (case L_is_box => k_is)
    (case D_is_box => k_is)
    (case P_is_box => k_is)
    (case A_checked_signals => k_is)
    (case L_checked_signals => k_is)
    (case D_checked_signals => k_is)
    (case P_checked_signals => k_is)
    (case A_checked_inputs => k_is)
    (case L_checked_inputs => k_is)
    (case D_checked_inputs => k_is)
    (case P_checked_inputs => k_is)
    (case A__law_pool => k_is)
    (case L__law_pool => k_is)
    (case D__law_pool => k_is)
    (case P__law_pool => k_is)
    (case A__law_draw => k_is)
    (case L__law_draw => k_is)
    (case D__law_draw => k_is)
    (case P__law_draw => k_is)
    (case A__law_item => k_is)
    (case L__law_item => k_is)
    (case D__law_item => k_is)
    (case P__law_item => k_is)
    (case A__law_names => k_is)
    (case L__law_names => k_is)
    (case D__law_names => k_is)
    (case P__law_names => k_is)
    (case A__law_fault => k_is)
    (case L__law_fault => k_is)
    (case D__law_fault => k_is)
    (case P__law_fault => k_is)
    (case A__law_filler => k_is)
    (case L__law_filler => k_is)
    (case D__law_filler => k_is)
    (case P__law_filler => k_is)
    (case A__law_edit => k_is)
    (case L__law_edit => k_is)
    (case D__law_edit => k_is)
    (case P__law_edit => k_is)
    (case A__law_bad_rows => k_is)
    (case L__law_bad_rows => k_is)
    (case D__law_bad_rows => k_is)
    (case P__law_bad_rows => k_is)
    (case A__law_wrapped => k_is)
    (case L__law_wrapped => k_is)
    (case D__law_wrapped => k_is)
    (case P__law_wrapped => k_is)
    (case A__law_many => k_is)
    (case L__law_many => k_is)
    (case D__law_many => k_is)
    (case P__law_many => k_is)
    (case A__law_parts_bad => k_is)
    (case L__law_parts_bad => k_is)
    (case D__law_parts_bad => k_is)
    (case P__law_parts_bad => k_is)
    (case A_law => k_is)
    (case L_law => k_is)
    (case D_law => k_is)
    (case P_law => k_is)
    (case A_RowCheck => k_is)
    (case c1_RowCheck => k_is)
    (case c2_RowCheck => k_is)
    (case c3_RowCheck => k_is)
    (case c4_RowCheck => k_is)
    (case n_RowCheck_known_asks => k_is)
    (case n_RowCheck_known_signals => k_is)
    (case n_RowCheck_with_edits => k_is)
    (case n_RowCheck_total => k_is)
    (case n_RowCheck_label_words => k_is)
    (case n_RowCheck_slot_words => k_is)
    (case n_RowCheck_gate_words => k_is)
    (case n_RowCheck_edit_words => k_is)
    (case mk_RowCheck => k_is)
    (case kp_RowCheck => k_is)
    (case at_RowCheck___init__ => k_is)
    (case fn_RowCheck___init__ => k_is)
    (case L_RowCheck___init__ => k_is)
    (case D_RowCheck___init__ => k_is)
    (case P_RowCheck___init__ => k_is)
    (case at_RowCheck_check => k_is)
    (case fn_RowCheck_check => k_is)
    (case L_RowCheck_check => k_is)
    (case D_RowCheck_check => k_is)
    (case P_RowCheck_check => k_is)
    (case at_RowCheck_check_sizes => k_is)
    (case fn_RowCheck_check_sizes => k_is)
    (case L_RowCheck_check_sizes => k_is)
    (case D_RowCheck_check_sizes => k_is)
    (case P_RowCheck_check_sizes => k_is)
    (case at_RowCheck_check_list => k_is)
    (case fn_RowCheck_check_list => k_is)
    (case L_RowCheck_check_list => k_is)
    (case D_RowCheck_check_list => k_is)
    (case P_RowCheck_check_list => k_is)
    (case at_RowCheck_fits => k_is)
    (case fn_RowCheck_fits => k_is)
    (case L_RowCheck_fits => k_is)
    (case D_RowCheck_fits => k_is)
    (case P_RowCheck_fits => k_is)
    (case at_RowCheck_id_fits => k_is)
    (case fn_RowCheck_id_fits => k_is)
    (case L_RowCheck_id_fits => k_is)
    (case D_RowCheck_id_fits => k_is)
    (case P_RowCheck_id_fits => k_is)
    (case at_RowCheck_part_fits => k_is)
    (case fn_RowCheck_part_fits => k_is)
    (case L_RowCheck_part_fits => k_is)
    (case D_RowCheck_part_fits => k_is)
    (case P_RowCheck_part_fits => k_is)
    (case at_RowCheck_collect => k_is)
    (case fn_RowCheck_collect => k_is)
    (case L_RowCheck_collect => k_is)
    (case D_RowCheck_collect => k_is)
    (case P_RowCheck_collect => k_is)
    (case A_Program => k_is)
    (case c1_Program => k_is)
    (case c2_Program => k_is)
    (case c3_Program => k_is)
    (case c4_Program => k_is)
    (case n_Program_ask_table => k_is)
    (case n_Program_signal_table => k_is)
    (case n_Program_input_words => k_is)
    (case mk_Program => k_is)
    (case kp_Program => k_is)
    (case at_Program___init__ => k_is)
    (case fn_Program___init__ => k_is)
    (case L_Program___init__ => k_is)
    (case D_Program___init__ => k_is)
    (case P_Program___init__ => k_is)
    (case A_Edited => k_is)
    (case c1_Edited => k_is)
    (case c2_Edited => k_is)
    (case c3_Edited => k_is)
    (case c4_Edited => k_is)
    (case n_Edited_ask_table => k_is)
    (case n_Edited_signal_table => k_is)
    (case n_Edited_input_words => k_is)
    (case n_Edited_row_list => k_is)
    (case n_Edited_edit_ids => k_is)
    (case mk_Edited => k_is)
    (case kp_Edited => k_is)
    (case at_Edited___init__ => k_is)
    (case fn_Edited___init__ => k_is)
    (case L_Edited___init__ => k_is)
    (case D_Edited___init__ => k_is)
    (case P_Edited___init__ => k_is)
