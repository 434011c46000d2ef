import PyProof.Rows.All
import Wide.All
import OpenK.AllK
import Wide.FinOn
import PyProof.EqAt
import PyProof.EqKinds
import PyProof.TupleCall
import KE.KExcSuper
import KE.KExcIs
import HandS.Base
import HandS.Call
import HandS.List
import HandS.Ends
import HandS.Exc
import HandS.ExcInit
import HandS.ExcSuper
import HandS.MakeKwOnly
import HandS.IsInst
import HandS.ForMost
import HandS.TryOnly
import HandS.WordsExc
import HandS.ExcOwn
import HandS.ExcField
import HandS.TupAny
import HandS.Zip
import KE.GoesMore
import KE.GoesZip
import KE.GoesEnum
import HandS.Strs
import HandS.More
import HandS.DictTup
import HandS.DictComp
import HandS.Walk
import HandS.Evl
import HandS.Text
import KE.KDictWalk
import KE.KDictCopyH
import HandS.OwnEq
import HandS.TupLen
import PySem.Challenge.RW_openruns_k04_parts_in_order
set_option Elab.async false
set_option linter.all false
set_option maxRecDepth 100000
set_option maxHeartbeats 4000000
namespace PySem
namespace XL
open PySem.W PySem.Calls PyProof.Rows
/-! ### C(args, kw = ..), C an own exception class -/
section
variable {M : Model} {prog : Program} {w : World} {A : Around} {E : Value → Shared → Prop} {R : Result → Shared → Prop} {h : Heap} {g : Array GenState} {d : Drawn} {t : Nat} {os : OsState}
variable {nm q : Str} {C N : Addr} {bs bm bmB : List Value} {hdct : Bool} {sn : List Str} {sub : List Value} {ab : Bool} {col : Option Bool} {dd : Option Addr} {k0 k1 k2 k3 k5 : Option Value} {B newId initId : String}
theorem check_newK (F : ExcBaseFacts B newId initId bmB) (hT : ∀ X : String, bm.contains (.type X) = bmB.contains (.type X)) {rest : List Value} {kw : List (Str × Value)} {Q : Unit → Shared → Prop}
    (hC : h.get? C = some (excClassObj nm q C N bs bm hdct sn sub ab col dd k0 k1 k2 k3 k5 newId)) (hq : Q () ⟨h, g, d, t, os⟩) : wpAny M A (checkBuiltinCall newId ⟨.ref C :: rest, kw⟩) Q E ⟨h, g, d, t, os⟩ := by
  have hcont : (Value.ref C :: bm).contains (.type B) = true := by rw [List.contains_cons, hT, F.hasB, Bool.or_true]
  have hstar := F.noStar
  simp only [checkBuiltinCall, F.newKind, F.newSplit, F.newRow]
  repeat (first | refine wpAny_loadPart_at hC ?_ | (refine wpAny_isSubtype_exc hC ?_; rw [hcont]) | refine wpAny_staticBase_exc hC ?_ | refine wpAny_madeBy_exc hC ?_ | simp only [bne_self_eq_false, Bool.false_eq_true, if_false] | wp_step)
  exact hq
theorem newK (F : ExcBaseFacts B newId initId bmB) (hT : ∀ X : String, bm.contains (.type X) = bmB.contains (.type X)) {rest : List Value} {kw : List (Str × Value)}
    (hC : h.get? C = some (excClassObj nm q C N bs bm hdct sn sub ab col dd k0 k1 k2 k3 k5 newId))
    (hq : R (.ok (.ret (.ref (h.objs.size + 1)))) ⟨(h.push { cls := .type "tuple", data := .seq rest.toArray }).push
      { cls := .ref C, data := .fields #[.ref h.objs.size, .none, .none, .none, .bool false, .none] }, g, d, t, os⟩) (hrest : rest.length ≤ sizeLine) :
    codeAny (model prog w) A (.builtin newId ⟨.ref C :: rest, kw⟩) R ⟨h, g, d, t, os⟩ := by
  have hends := F.ends
  have hcB : (Value.ref C :: bm).contains (.type B) = true := by rw [List.contains_cons, hT, F.hasB, Bool.or_true]
  have hcA : (Value.ref C :: bm).contains (.type "AttributeError") = false := by rw [List.contains_cons, hT, F.noAttr]; rfl
  have hcN : (Value.ref C :: bm).contains (.type "NameError") = false := by rw [List.contains_cons, hT, F.noName]; rfl
  refine codeAny_builtinAt F.entry ?_
  unfold Builtin.«BaseException.__new__»
  refine wpAt_bind ?_
  show wpAt _ _ _ (stack >>= _) _ _ _
  refine wpAt_bind (wpAt_stack fun p below => wpAt_of_wpAny ?_)
  wp_walk
  refine wpAt_of_wpAny ?_
  rw [F.owner]
  repeat (first | with_reducible refine wpAny_madeHere_exc F.canon hC ?_ | with_reducible refine wpAny_loadPart_at hC ?_ | (with_reducible refine wpAny_isSubtype_exc hC ?_; first | rw [hcB] | rw [hcA] | rw [hcN]) | wp_step)
  show R _ _
  rw [Heap.size_push]
  exact hq
theorem type_callK (F : ExcBaseFacts B newId initId bmB) (hT : ∀ X : String, bm.contains (.type X) = bmB.contains (.type X)) {rest : List Value} {kw : List (Str × Value)} {fI : Addr} {Q : Fin → Shared → Prop}
    (hC : h.get? C = some (excClassObj nm q C N bs bm hdct sn sub ab col dd k0 k1 k2 k3 k5 newId))
    (hi : W.Looks (model prog w) h (typeLookup (.ref C) "__init__") (some (.ref fI))) (hb : ∀ self, W.Looks (model prog w) h (bindSpecial (.ref fI) self) (.ref fI, [self])) (hrest : rest.length ≤ sizeLine)
    (hq : codeAny (model prog w) A (.call (.ref fI) ⟨.ref (h.objs.size + 1) :: rest, kw⟩)
      (fun r s' => match r with | .ok (.ret v) => v = .none ∧ Q (.done (.ret (.ref (h.objs.size + 1)))) s' | .ok _ => False | .error e => E e s')
      ⟨(h.push (W.kdv_tup rest)).push (HandSPX.excO C h.objs.size), g, d, t, os⟩) :
    wpAny (model prog w) A (Builtin.«type.__call__» ⟨.ref C :: rest, kw⟩) Q E ⟨h, g, d, t, os⟩ := by
  repeat (first | with_reducible refine wpAny_loadPart_at hC ?_ | with_reducible refine wpAny_madeBy_exc hC ?_ | wp_step)
  refine codeAny_call_builtin_code (Code.quiet_builtin _ F.quiet) (check_newK F hT hC ?_)
  refine newK F hT hC ?_ hrest
  show wpAny _ _ _ _ _ _
  have k : ∀ b o, h.get? b = some o → ((h.push (W.kdv_tup rest)).push (HandSPX.excO C h.objs.size)).get? b = some o := fun b o e => Heap.get?_push_of_some _ (Heap.get?_push_of_some _ e)
  have hC₁ := k _ _ hC
  have hget : ((h.push (W.kdv_tup rest)).push (HandSPX.excO C h.objs.size)).get? (h.objs.size + 1) = some (HandSPX.excO C h.objs.size) := by heap_get
  have hcC : (Value.ref C :: bm).contains (.ref C) = true := by simp
  have i1 := hi.keeps k
  have b1 := (hb (.ref (h.objs.size + 1))).keeps k
  unfold isInstance
  repeat (first | with_reducible refine wpAny_loadPart_at hget ?_ | (with_reducible refine wpAny_isSubtype_exc hC₁ ?_; rw [hcC]) | wp_step)
  show wpAny _ _ (typeLookup (.ref C) _) _ _ _
  refine i1.at ?_
  refine wpAny_holding (wpAny_bind (b1.at ?_))
  refine wpAny_bind (wpAny_call (codeAny_mono hq fun r s' z => ?_))
  rcases r with e | (v | _ | _ | _) <;> first | exact z | exact z.elim | skip
  obtain ⟨rfl, z⟩ := z
  first
    | exact wpAny_pure (wpAny_pure z)
    | (wp_walk; exact z)
theorem check_typeK {M : Model} {rest : List Value} {kw : List (Str × Value)} {Q : Unit → Shared → Prop} (hC : h.get? C = some (excClassObj nm q C N bs bm hdct sn sub ab col dd k0 k1 k2 k3 k5 newId))
    (hq : Q () ⟨h, g, d, t, os⟩) : wpAny M A (checkBuiltinCall "type.__call__" ⟨.ref C :: rest, kw⟩) Q E ⟨h, g, d, t, os⟩ := by
  have f3 := tc_sub
  have hT : (⟨h, g, d, t, os⟩ : Shared).TypeIs (.ref C) "type" := ⟨_, hC, rfl⟩
  simp only [checkBuiltinCall, tc_kind, tc_split]
  repeat (any_goals (first | assumption | with_reducible refine wpAny_loadPart_at hC ?_ | with_reducible refine wpAny_onRaise ?_ | with_reducible refine wpAny_map ?_ | wp_step))
theorem call_ownK (F : ExcBaseFacts B newId initId bmB) (hT : ∀ X : String, bm.contains (.type X) = bmB.contains (.type X)) {rest : List Value} {kw : List (Str × Value)} {fI : Addr}
    (hC : h.get? C = some (excClassObj nm q C N bs bm hdct sn sub ab col dd k0 k1 k2 k3 k5 newId))
    (hi : W.Looks (model prog w) h (typeLookup (.ref C) "__init__") (some (.ref fI))) (hb : ∀ self, W.Looks (model prog w) h (bindSpecial (.ref fI) self) (.ref fI, [self])) (hrest : rest.length ≤ sizeLine)
    (hq : codeAny (model prog w) (A.under (.builtin "type.__call__" ⟨.ref C :: rest, kw⟩)) (.call (.ref fI) ⟨.ref (h.objs.size + 1) :: rest, kw⟩) (W.InitBack (h.objs.size + 1) R)
      ⟨(h.push (W.kdv_tup rest)).push (HandSPX.excO C h.objs.size), g, d, t, os⟩) :
    codeAny (model prog w) A (.call (.ref C) ⟨rest, kw⟩) R ⟨h, g, d, t, os⟩ := by
  have f1 := tc_lookup
  have f2 := tc_bind (.ref C)
  have hTy : (⟨h, g, d, t, os⟩ : Shared).TypeIs (.ref C) "type" := ⟨_, hC, rfl⟩
  refine codeAny_of_tree ?_
  show wpAny _ _ (callAny (.ref C) _) _ _ _
  repeat (any_goals (first | assumption | with_reducible refine wpAny_loadPart_at hC ?_ | wp_step))
  refine ⟨rfl, ?_⟩
  refine codeAny_call_builtin_at (Code.quiet_builtin _ (by decide +kernel)) entry_typeCall (check_typeK hC (type_callK F hT hC hi hb hrest ?_))
  refine codeAny_mono hq fun r s' z => ?_
  rcases r with e | (v | _ | _ | _) <;> exact z
end
end XL
end PySem
namespace PySem
namespace XL
open PySem.W PySem.Calls PyProof.Rows Builtin Builtin.ObjectAttr
abbrev lkT : List Value := [.type "LookupError", .type "Exception", .type "BaseException", .type "object"]
theorem lk_ne {l : List Value} (e : excTail lkT l = true) : l.isEmpty = false := by
  rcases excTail_cases l e with ⟨c, r, rfl, _⟩ | rfl <;> rfl
/-! ### self.name = v on an exception over LookupError -/
section
variable {prog : Program} {w : World} {A : Around} {E : Value → Shared → Prop} {R : Result → Shared → Prop} {hp : Heap} {g : Array GenState} {d : Drawn} {t : Nat} {os : OsState}
theorem osa_walk {K : W.Frag} {name : Str} {tk : Tok} {v : Value} {x C : Addr} {ox : Obj} {od : Option Obj} {cd : ClassData}
    (X : K.In hp) (I : W.InstAt hp x ox C od) (hcd : W.clsIn K C = some cd) (hm : excTail lkT cd.mro = true) (ha : W.findIn K (.ref C) name = some none)
    (hq : wpAny (model prog w) A.in1 (Builtin.ObjectAttr.storeInOwnDict (.ref x) (.ref C) (.str name tk) name v false)
      (fun fin s' => match fin with | .done f => R (.ok f) s' | .again c' => c'.quiet = true ∧ codeAny (model prog w) A c' R s') (fun e s' => R (.error e) s') ⟨hp, g, d, t, os⟩) :
    codeAny (model prog w) A (.call (.builtin "object.__setattr__") ⟨[.ref x, .str name tk, v], []⟩) R ⟨hp, g, d, t, os⟩ := by
  have SF := F.store_LookupError
  have ne := lk_ne hm
  have hob : cd.mro.contains (.type "object") = true := (excTail_contains "object" _ hm).trans (by decide +kernel)
  have sub : W.Looks (model prog w) hp (isInstance (.ref x) (.type "object")) true := I.type.andThen (W.looks_mroIn X (by unfold W.mroIn; rw [hcd, Option.bind_some, if_neg (by rw [ne]; decide), hob]))
  refine codeAny_call_builtin SF.slot.plain SF.entry (@W.check_slot (model prog w) _ _ ⟨hp, g, d, t, os⟩ "object.__setattr__" "object" "__setattr__" (.ref x) [.str name tk, v] [] _ SF.kind SF.split sub (SF.args (.ref x) (.str name tk) v) ?_)
  have hmr : W.Looks (model prog w) hp (mroOf (.ref C)) cd.mro := (W.looks_clsIn X hcd).andThen .now
  have L3 : W.Looks (model prog w) hp (storeTaker? none) none := .now
  rw [W.osa_eq, refuse_eq]
  refine wpAny_bind (wpAny_bind (I.type.at (wpAny_bind (hmr.at ?_))))
  rw [excTail_pass _ (SF.passes _) _ hm]
  refine wpAny_pure (wpAny_bind (I.type.at (wpAny_bind ((W.looks_findIn X ha).at (wpAny_bind (L3.at ?_))))))
  exact hq
theorem osa_new {K : W.Frag} {name : Str} {tk : Tok} {v : Value} {x C : Addr} {fv : Array Value} {cd : ClassData}
    (X : K.In hp) (hx : hp.get? x = some { cls := .ref C, data := .fields fv }) (hcd : W.clsIn K C = some cd) (hm : excTail lkT cd.mro = true) (hh : cd.hasDict = true) (ha : W.findIn K (.ref C) name = some none)
    (hq : ∀ h' tk' dx, (∀ b o, b ≠ x → hp.get? b = some o → h'.get? b = some o) → hp.objs.size ≤ dx → dx ≠ x → h'.get? x = some { cls := .ref C, dict := some dx, data := .fields fv } →
      h'.Ns1 dx (fun y => if y = name then some v else none) → R (.ok (.ret .none)) ⟨h', g, d, tk', os⟩) :
    codeAny (model prog w) A (.call (.builtin "object.__setattr__") ⟨[.ref x, .str name tk, v], []⟩) R ⟨hp, g, d, t, os⟩ := by
  have I : W.InstAt hp x { cls := .ref C, data := .fields fv } C none := ⟨hx, rfl, rfl, trivial⟩
  have hxs : x ≠ hp.objs.size := Nat.ne_of_lt (Heap.lt_size hx)
  refine osa_walk X I hcd hm ha ?_
  have hcls : W.Looks (model prog w) hp (classData C) cd := W.looks_clsIn X hcd
  obtain ⟨nm, bs, mro, ns, qn, hd, sn, sb, ab, col, del⟩ := cd
  dsimp only at hh
  subst hh
  unfold Builtin.ObjectAttr.storeInOwnDict Builtin.ObjectAttr.ownDictForStores
  repeat (first | with_reducible refine HandSPX.store_in_new ?_ ?_ | with_reducible refine wpAny_loadPart_at hx ?_ | with_reducible refine hcls.at ?_ | wp_step)
  · exact ⟨_, #[], _, (Heap.get?_update_ne _ _ _ _ hxs.symm).trans (Heap.get?_push_at rfl rfl), rfl, fun e he => absurd he (by simp), fun _ => rfl⟩
  · intro h' tk' hn' hs
    have hx₁ : (hp.push { cls := .type "dict", data := .dict #[] }).get? x = some { cls := .ref C, data := .fields fv } := Heap.get?_push_of_some _ hx
    refine hq h' tk' hp.objs.size (fun b o hb ho => ?_) (Nat.le_refl _) hxs.symm ?_ hn'
    · exact (hs.2 b (Nat.ne_of_lt (Heap.lt_size ho))).trans ((Heap.get?_update_ne _ _ _ _ hb).trans (Heap.get?_push_of_some _ ho))
    · exact (hs.2 x hxs).trans (Heap.get?_update_self _ hx₁ rfl)
theorem osa_old {K : W.Frag} {name : Str} {tk : Tok} {v : Value} {x C dx : Addr} {fv : Array Value} {cd : ClassData} {m0 : Str → Option Value} {nl : List Str}
    (X : K.In hp) (hx : hp.get? x = some { cls := .ref C, dict := some dx, data := .fields fv }) (hns : hp.Ns1 dx m0) (hw : Within m0 nl) (hz : nl.length ≤ 1000) (hcd : W.clsIn K C = some cd) (hm : excTail lkT cd.mro = true) (hh : cd.hasDict = true)
    (ha : W.findIn K (.ref C) name = some none)
    (hq : ∀ h' tk', (∀ b o, b ≠ dx → hp.get? b = some o → h'.get? b = some o) → h'.Ns1 dx (fun y => if y = name then some v else m0 y) → R (.ok (.ret .none)) ⟨h', g, d, tk', os⟩) :
    codeAny (model prog w) A (.call (.builtin "object.__setattr__") ⟨[.ref x, .str name tk, v], []⟩) R ⟨hp, g, d, t, os⟩ := by
  obtain ⟨oD, esD, epD, hoD, hdD, _⟩ := hns.count hw
  have I : W.InstAt hp x { cls := .ref C, dict := some dx, data := .fields fv } C (some oD) := ⟨hx, rfl, rfl, hoD⟩
  refine osa_walk X I hcd hm ha ?_
  have hcls : W.Looks (model prog w) hp (classData C) cd := W.looks_clsIn X hcd
  obtain ⟨nm, bs, mro, ns, qn, hd, sn, sb, ab, col, del⟩ := cd
  dsimp only at hh
  subst hh
  unfold Builtin.ObjectAttr.storeInOwnDict Builtin.ObjectAttr.ownDictForStores
  repeat (first | with_reducible refine OEX.store_in_old hns hw hz ?_ | with_reducible refine wpAny_loadPart_at hx ?_ | with_reducible refine hcls.at ?_ | wp_step)
  intro h' tk' hn' hs
  exact hq h' tk' (fun b o hb ho => (hs.2 b hb).trans ho) hn'
end
/-! ### the text of an own __init__ -/
section
variable {prog : Program} {w : World} {A : Around} {E : Value → Shared → Prop} {R : Result → Shared → Prop} {s : Shared} {K : Frag}
/-- the __init__ of an own class at C (its cell __class__ at cc, its code at cda), over LookupError: what the written part says -/
structure XCls (prog : Program) (K : Frag) (C : Addr) : Prop where
  cls : ∃ nm q N bs bm sn sub ab col dd k0 k1 k2 k3 k5, K.lookup C = some (excClassObj nm q C N bs bm true sn sub ab col dd k0 k1 k2 k3 k5 "LookupError.__new__") ∧ excTail lkT bm = true
  sa : findIn K (.ref C) "__setattr__" = some (some (.builtin "object.__setattr__"))
  sup : ks_superIn K C C "__init__" = some (some (.builtin "LookupError.__init__"))
  opq : nsIn K cStatics "thirdparty.any" = some none
  sg : nsIn K mainGlobals "super" = some none
  top : (prog.main.scope.names.lookup ("super" : Str)).isSome = false
/-- .. of the function object at fI -/
structure XFn (prog : Program) (K : Frag) (C fI : Addr) (qual : Str) (params : Arguments) (body : List Stmt) (scope : Scope) : Prop where
  fn : ∃ (oc : Value) (od : Option Addr) (kV doc pm : Value) (an : Option Addr) (cda : Addr) (ct : Value) (cc : Addr) (osl : Array (Option Value)) (cl ccl : Value) (cld cdd : Option Addr) (csl ccs : Array (Option Value)) (vs : Array Value) (file : Str) (tf : Tok),
    K.lookup fI = some ⟨oc, od, .func (ksFn "__init__" qual params body scope .none kV doc pm an (.ref cda) ct cc), osl⟩ ∧ codeIn K (.ref cda) qual = true ∧
    K.lookup cc = some ⟨cl, cld, .cell (some (.ref C)), csl⟩ ∧ K.lookup cda = some ⟨ccl, cdd, .fields vs, ccs⟩ ∧ vs[2]? = some (.str file tf) ∧ ((prog.main.file : Str) == file) = true
  iC : findIn K (.ref C) "__init__" = some (some (.ref fI))
  tI : typeIn K (.ref fI) = some (.type "function")
/-- a module's parts -/
structure XTop (h : Heap) : Prop where
  g : ∃ mg, h.Ns mainGlobals mg
  b : ∃ mb, h.Ns builtinsNs mb ∧ ∀ x : Str, x ≠ "__name__" → mb x = bootBuiltins x
  nolimit : h.NoLimit
theorem XTop.keeps {h h' : Heap} (T : XTop h) (k : ∀ b o, h.get? b = some o → h'.get? b = some o) : XTop h' :=
  ⟨let ⟨mg, q⟩ := T.g; ⟨mg, q.keeps k⟩, let ⟨mb, q, r⟩ := T.b; ⟨mb, q.keeps k, r⟩, T.nolimit.keeps k⟩
end
end XL
end PySem
namespace PySem
namespace XL
open PySem.W PySem.Calls PyProof.Rows
/-! ### super().__init__('..') in an own __init__ -/
/-- where the statement stands -/
structure SupPos where
  (p0 p1 p2 p3 p4 p5 : Pos) (j : String)
section
variable {prog : Program} {w : World} {A : Around} {E : Value → Shared → Prop} {R : Result → Shared → Prop} {s : Shared} {K : Frag}
theorem call_mw {x C u t0 : Addr} {rest : List Value} {Q : Value → Shared → Prop} (T : XCls prog K C) (X : K.In s.heap) (hx : s.heap.get? x = some (HandSPX.excO C t0)) (hu : KxsAt "LookupError.__init__" u x s.heap) (hz : rest.length ≤ sizeLine)
    (hq : ∀ h' t1, (∀ b o, b ≠ x → s.heap.get? b = some o → h'.get? b = some o) → h'.get? x = some (HandSPX.excO C t1) → Q .none { s with heap := h' }) :
    wpAny (model prog w) A (call (.ref u) rest) Q E s := by
  obtain ⟨nm, q, N, bs, bm, sn, sub, ab, col, dd, k0, k1, k2, k3, k5, hC, hbm⟩ := T.cls
  have FB := F.excBase_LookupError
  obtain ⟨hh, g, d, tk, os⟩ := s
  unfold KxsAt at hu
  refine wpAny_call (codeAny_of_tree ?_)
  show wpAny _ A.in1 (callAny (.ref u) ⟨rest, []⟩) _ _ _
  simp only [callAny]
  refine wpAny_bind (wpAny_load hu ?_)
  simp only [kxs_mw, show (Value.type "method-wrapper" == Value.type "method" || Value.type "method-wrapper" == Value.type "builtin_function_or_method" || Value.type "method-wrapper" == Value.type "method-wrapper") = true by decide, if_true]
  refine KFB.if_so (by decide) ?_
  refine wpAny_bind (check_bound_init FB.toExcCallFacts (X _ _ hC) hx rfl ?_)
  refine wpAny_bind (wpAny_pure (wpAny_pure ?_))
  refine ⟨plainId_quiet FB.init.plain _, codeAny_builtin FB.initEntry ?_⟩
  exact exc_init_tree (cls := .ref C) (t0 := t0) (dv := none) (c2 := .none) (c3 := .none) (b4 := .bool false) hx hz fun h' k e _ => hq h' _ k e
theorem sup_stmt {x C fI L : Addr} {t0 : Addr} {qual : Str} {body : List Stmt} {scope : Scope} {cda cc : Addr} {oc cl ccl : Value} {od cld cdd : Option Addr} {osl csl ccs : Array (Option Value)} {fd : FuncData} {vs : Array Value} {file : Str} {tf : Tok} {ar : Arg}
    {m : Str → Option Value} {p0 p1 p2 p3 p4 p5 : Pos} {tx : Str} {j} {Q : Flow → Shared → Prop}
    (T : XCls prog K C) (X : K.In s.heap) (P : XTop s.heap) (hn : s.heap.Ns L m) (hv : m ar.arg = some (.ref x)) (hx : s.heap.get? x = some (HandSPX.excO C t0)) (hL : L ≠ x)
    (hf : K.lookup fI = some ⟨oc, od, .func fd, osl⟩) (hp : (fd.params.posonlyargs ++ fd.params.args).head? = some ar) (hcode : K.lookup cda = some ⟨ccl, cdd, .fields vs, ccs⟩) (hvs : vs[2]? = some (.str file tf)) (hfile : ((prog.main.file : Str) == file) = true)
    (hcell : K.lookup cc = some ⟨cl, cld, .cell (some (.ref C)), csl⟩)
    (hks : scope.names.lookup ("super" : Str) = some .globalImplicit) (hkc : scope.names.lookup ("__class__" : Str) = some .free) (hka : scope.names.lookup ar.arg = some .local) (hk : scope.kind = .function)
    (hq : ∀ h' tk t1, (∀ b o, b ≠ x → s.heap.get? b = some o → h'.get? b = some o) → h'.get? x = some (HandSPX.excO C t1) → Q .next { s with heap := h', toks := tk })
    {pl : Sem Bool}
    (he : eval (.Call (.Attribute (.Call (.Name "super" p0) [] [] p1) "__init__" p2) [.Constant (.str tx) j p3] [] p4) (ksEnv qual scope L fI (.ref cda) cc) = (do
      let ov ← attributeBase (.Call (.Name "super" p0) [] [] p1) "__init__" (ksEnv qual scope L fI (.ref cda) cc) (eval (.Call (.Name "super" p0) [] [] p1) (ksEnv qual scope L fI (.ref cda) cc))
      standAt p2.atName
      let (f, first) ← holding [ov] (getMethod ov "__init__" pl)
      callWith p4 f first (backTo p4 (starEach [.Constant (.str tx) j p3] (ksEnv qual scope L fI (.ref cda) cc))) []) := by rfl)
    (hi : interactive (ksEnv qual scope L fI (.ref cda) cc) = false := by rfl)
    (hw : swapsWith (.Call (.Attribute (.Call (.Name "super" p0) [] [] p1) "__init__" p2) [.Constant (.str tx) j p3] [] p4) none p5.line (ksEnv qual scope L fI (.ref cda) cc) = pure false := by rfl) :
    _root_.PySem.wpAt (model prog w) A (.func body (ksEnv qual scope L fI (.ref cda) cc)) (exec (.Expr (.Call (.Attribute (.Call (.Name "super" p0) [] [] p1) "__init__" p2) [.Constant (.str tx) j p3] [] p4) p5) (ksEnv qual scope L fI (.ref cda) cc)) Q E s := by
  obtain ⟨nm, q, N, bs, bm, sn, sub, ab, col, dd, k0, k1, k2, k3, k5, hC, hbm⟩ := T.cls
  have hcl : clsIn K C = some { name := nm, bases := bs, mro := .ref C :: bm, ns := N, qualname := q, hasDict := true, slotNames := sn, subclasses := sub, abstract := ab, collection := col, hasDel := false } := by unfold clsIn; rw [hC] <;> rfl
  have hmC : mroIn K C (.ref C) = some true := by unfold mroIn; rw [hcl, Option.bind_some, if_neg (by show ¬ (List.isEmpty (Value.ref C :: bm) = true); simp)]; simp
  have hD1 := X _ _ hC
  obtain ⟨hh, g, d, t, os⟩ := s
  refine ks_wpAt_Expr_any (ks_wpAt_MethodCall ?_ he) hi hw
  refine ks_wpAt_super_base (env := ksEnv qual scope L fI (.ref cda) cc) hks hkc (by decide) rfl (X _ _ hf) rfl hp rfl (X _ _ hcode) rfl hvs hfile T.top ?_
  obtain ⟨mg, hg⟩ := P.g
  obtain ⟨mb, hb, hbt⟩ := P.b
  refine ks_loadName_global hk hks (loadGlobal_builtin (env := ksEnv qual scope L fI (.ref cda) cc) hg (mg_none_of X hg T.sg) hb ((hbt _ (by decide +kernel)).trans (show bootBuiltins "super" = some (.type "super") from by decide +kernel)) ⟨rfl, ?_⟩)
  refine wpAny_loadName_free hk hkc rfl ⟨_, X _ _ hcell, rfl⟩ ?_
  refine wpAny_loadName_local hk hka hn hv ?_
  refine ks_wpAny_isType_cls hD1 rfl ⟨rfl, ?_⟩
  refine ks_wpAny_call_super hD1 rfl hx rfl (fun c e => nomatch e) (looks_mroIn X hmC) (fun h1 e1 kk1 => ?_)
  have k1' : ∀ b o, hh.get? b = some o → h1.get? b = some o := kk1
  have X1 : K.In h1 := X.keeps k1'
  have hI : Looks (model prog w) h1 (isInstance (.ref x) (.type "LookupError")) true := by
    have I : InstAt h1 x (HandSPX.excO C t0) C none := ⟨k1' _ _ hx, rfl, rfl, trivial⟩
    refine I.type.andThen (looks_mroIn X1 ?_)
    unfold mroIn
    rw [hcl, Option.bind_some, if_neg (by show ¬ (List.isEmpty (Value.ref C :: bm) = true); simp)]
    show some ((Value.ref C :: bm).contains (.type "LookupError")) = some true
    rw [List.contains_cons, excTail_contains "LookupError" _ hbm]
    rfl
  have hxC : x ≠ C := fun z => by
    rw [z] at hx
    have y := hD1.symm.trans hx
    cases y
  have hsup := T.sup
  unfold ks_superIn at hsup
  rw [hcl] at hsup
  refine kxs_getMethod kxs_LookupError e1 (looks_opaque X1 T.opq) (l₀ := .ref C :: bm) (fun A Q E s k q => wpAny_bind ((looks_clsIn X1 hcl) A _ E s k (wpAny_pure q))) rfl X1 hsup hI hxC (by decide) ?_
  have k2' : ∀ b o, hh.get? b = some o → (h1.push (kxs_mw "LookupError.__init__" x)).get? b = some o := fun b o z => Heap.get?_push_of_some _ (k1' b o z)
  show wpAny _ _ (callWith p4 (.ref h1.objs.size) [] (backTo p4 (starEach [.Constant (.str tx) j p3] (ksEnv qual scope L fI (.ref cda) cc))) []) _ _ _
  refine kxs_callWith (i := "LookupError.__init__") (x := x) (by rfl) (evalArgs_plain ?_)
  refine spliced_cons ?_
  show wpAny _ _ (eval (.Constant (.str tx) j p3) (ksEnv qual scope L fI (.ref cda) cc)) _ _ _
  refine Calls.Constant_str (spliced_nil ?_)
  refine ⟨Heap.get?_push_at rfl rfl, ?_⟩
  refine call_mw (s := ⟨h1.push (kxs_mw "LookupError.__init__" x), g, d, _, os⟩) T (X.keeps k2') (k2' _ _ hx) (Heap.get?_push_at rfl rfl) (by show 1 ≤ sizeLine; rw [sizeLine_eq]; decide) fun h' t1 k3 e3 => ?_
  exact hq h' _ t1 (fun b o hb z => k3 b o hb (k2' b o z)) e3
end
end XL
end PySem
namespace PySem
namespace XL
open PySem.W PySem.Calls PyProof.Rows
/-- where an __init__ of one, of two fields stands -/
structure Ps1 where
  (p0 p1 p2 p3 p4 p5 q1 q2 q3 q4 : Pos) (j : Nat)
structure Ps2 extends Ps1 where
  (r1 r2 r3 r4 : Pos)
abbrev supS (P : Ps1) (tx : Str) : Stmt := .Expr (.Call (.Attribute (.Call (.Name "super" P.p0) [] [] P.p1) "__init__" P.p2) [.Constant (.str tx) P.j P.p3] [] P.p4) P.p5
abbrev body1 (P : Ps1) (tx f : Str) : List Stmt := [supS P tx, .Assign [.Attribute (.Name "self" P.q1) f P.q2] (.Name f P.q3) P.q4]
abbrev body2 (P : Ps2) (tx f f2 : Str) : List Stmt := [supS P.toPs1 tx, .Assign [.Attribute (.Name "self" P.q1) f P.q2] (.Name f P.q3) P.q4, .Assign [.Attribute (.Name "self" P.r1) f2 P.r2] (.Name f2 P.r3) P.r4]
abbrev args1 (a1 a2 : Pos) (f : Str) : Arguments := { posonlyargs := [], args := [{ arg := "self", annotation := none, pos := a1 }, { arg := f, annotation := none, pos := a2 }], vararg := none, kwonlyargs := [], kw_defaults := [], kwarg := none, defaults := [] }
abbrev args2 (a1 a2 a3 : Pos) (f f2 : Str) : Arguments := { posonlyargs := [], args := [{ arg := "self", annotation := none, pos := a1 }, { arg := f, annotation := none, pos := a2 }, { arg := f2, annotation := none, pos := a3 }], vararg := none, kwonlyargs := [], kw_defaults := [], kwarg := none, defaults := [] }
abbrev scope1 (f : Str) : Scope := { kind := .function, names := [(Str.ofString "self", .local), (f, .local), (Str.ofString "__class__", .free), (Str.ofString "super", .globalImplicit)], isGenerator := false, isCoroutine := false, more := [] }
abbrev scope2 (f f2 : Str) : Scope := { kind := .function, names := [(Str.ofString "self", .local), (f, .local), (f2, .local), (Str.ofString "__class__", .free), (Str.ofString "super", .globalImplicit)], isGenerator := false, isCoroutine := false, more := [] }
/-- how the statement super().__init__('..') is run: rfl for a written scope -/
def EvOk (qual : Str) (scope : Scope) (fI : Addr) (P : Ps1) (tx : Str) : Prop := ∀ L cda cc : Addr, ∃ pl : Sem Bool,
  eval (.Call (.Attribute (.Call (.Name "super" P.p0) [] [] P.p1) "__init__" P.p2) [.Constant (.str tx) P.j P.p3] [] P.p4) (ksEnv qual scope L fI (.ref cda) cc) = (do
      let ov ← attributeBase (.Call (.Name "super" P.p0) [] [] P.p1) "__init__" (ksEnv qual scope L fI (.ref cda) cc) (eval (.Call (.Name "super" P.p0) [] [] P.p1) (ksEnv qual scope L fI (.ref cda) cc))
      standAt P.p2.atName
      let (f, first) ← holding [ov] (getMethod ov "__init__" pl)
      callWith P.p4 f first (backTo P.p4 (starEach [.Constant (.str tx) P.j P.p3] (ksEnv qual scope L fI (.ref cda) cc))) []) ∧
  interactive (ksEnv qual scope L fI (.ref cda) cc) = false ∧
  swapsWith (.Call (.Attribute (.Call (.Name "super" P.p0) [] [] P.p1) "__init__" P.p2) [.Constant (.str tx) P.j P.p3] [] P.p4) none P.p5.line (ksEnv qual scope L fI (.ref cda) cc) = pure false
/-- what __init__ leaves of a fresh exception at x -/
structure InitEnd (h h' : Heap) (x C dx : Addr) (mm : Str → Option Value) : Prop where
  keep : ∀ b o, b ≠ x → h.get? b = some o → h'.get? b = some o
  obj : ∃ t1 : Addr, h'.get? x = some { cls := .ref C, dict := some dx, data := .fields #[.ref t1, .none, .none, .none, .bool false, .none] }
  dbig : h.objs.size ≤ dx
  dne : dx ≠ x
  ns : h'.Ns1 dx mm
/-- a field's name is no name of the machine's -/
def okF (f : Str) : Bool := !(f == ("self" : Str)) && !(f == ("super" : Str)) && !(f == ("__class__" : Str)) && !(f == ("__debug__" : Str))
theorem okF_of {f : Str} (h : okF f = true) : (f == ("self" : Str)) = false ∧ (f == ("super" : Str)) = false ∧ (f == ("__class__" : Str)) = false ∧ (f == ("__debug__" : Str)) = false := by
  unfold okF at h
  simp only [Bool.and_eq_true, Bool.not_eq_true'] at h
  exact ⟨h.1.1.1, h.1.1.2, h.1.2, h.2⟩
theorem flip {a b : Str} (h : (a == b) = false) : (b == a) = false := by
  have := beq_eq_false_iff_ne.mp h
  exact beq_eq_false_iff_ne.mpr (Ne.symm this)
section
variable {prog : Program} {w : World} {A : Around} {E : Value → Shared → Prop} {R : Result → Shared → Prop} {s : Shared} {K : Frag} {C fI x t0 : Addr} {qual tx f f2 : Str} {v v2 : Value}
theorem init1 {P : Ps1} {a1 a2 : Pos} {args : Args} (T : XCls prog K C) (Fn : XFn prog K C fI qual (args1 a1 a2 f) (body1 P tx f) (scope1 f)) (hf : okF f = true) (nof : findIn K (.ref C) f = some none) (ev : EvOk qual (scope1 f) fI P tx)
    (X : K.In s.heap) (Tp : XTop s.heap) (hx : s.heap.get? x = some (HandSPX.excO C t0)) (hnx : K.lookup x = none) (hroom : A.depth < recursionLimit)
    (hb : ∀ (kV doc pm : Value) (an : Option Addr) (cdv ct : Value) (cc : Addr), BindsTo s (ksFn "__init__" qual (args1 a1 a2 f) (body1 P tx f) (scope1 f) .none kV doc pm an cdv ct cc) args [("self", .ref x), (f, v)])
    (hq : ∀ h' tk dx, InitEnd s.heap h' x C dx (fun y => if y = f then some v else none) → R (.ok (.ret .none)) { s with heap := h', toks := tk }) :
    codeAny (model prog w) A (.call (.ref fI) args) R s := by
  obtain ⟨oc, od, kV, doc, pm, an, cda, ct, cc, osl, cl, ccl, cld, cdd, csl, ccs, vs, file, tf, ho, hcd, hcell, hcode, hvs, hfile⟩ := Fn.fn
  obtain ⟨n1, n2, n3, n4⟩ := okF_of hf
  have l1 : (scope1 f).names.lookup f = some .local := by simp [List.lookup, n1]
  have l2 : (scope1 f).names.lookup ("super" : Str) = some .globalImplicit := by simp [List.lookup, flip n2]; rfl
  have l3 : (scope1 f).names.lookup ("__class__" : Str) = some .free := by simp [List.lookup, flip n3]; rfl
  have ls : (scope1 f).names.lookup ("self" : Str) = some .local := by simp [List.lookup]
  have hnc : ∀ y ∈ (scope1 f).names, y.2 ≠ .cell := by
    intro y hy
    simp only [scope1, List.mem_cons, List.mem_nil_iff, or_false] at hy
    rcases hy with rfl | rfl | rfl | rfl <;> simp
  have hlo : ∀ y ∈ ([("self", .ref x), (f, v)] : List (Str × Value)), (scope1 f).names.lookup y.1 = some .local := by
    intro y hy
    simp only [List.mem_cons, List.mem_nil_iff, or_false] at hy
    rcases hy with rfl | rfl
    · exact ls
    · exact l1
  obtain ⟨nm, q, N, bs, bm, sn, sub, ab, col, dd, k0, k1, k2, k3, k5, hC, hbm⟩ := T.cls
  have hcl : clsIn K C = some { name := nm, bases := bs, mro := .ref C :: bm, ns := N, qualname := q, hasDict := true, slotNames := sn, subclasses := sub, abstract := ab, collection := col, hasDel := false } := by unfold clsIn; rw [hC] <;> rfl
  refine ks_codeAny_call_defAt (fd := ksFn "__init__" qual (args1 a1 a2 f) (body1 P tx f) (scope1 f) .none kV doc pm an (.ref cda) ct cc) (body := body1 P tx f) (binds := [("self", .ref x), (f, v)]) hroom (X _ _ ho) rfl Tp.nolimit (codeRec_of X hcd) rfl (hb _ _ _ _ _ _ _) hnc hlo (fun h₁ hns hk₁ => ?_)
  have hLx : s.heap.objs.size ≠ x := Nat.ne_of_gt (Heap.lt_size hx)
  have ms : (fun y => ([("self", Value.ref x), (f, v)] : List (Str × Value)).reverse.lookup y) "self" = some (.ref x) := by simp [List.lookup, flip n1]
  have mf : (fun y => ([("self", Value.ref x), (f, v)] : List (Str × Value)).reverse.lookup y) f = some v := by simp [List.lookup]
  obtain ⟨pl, he, hi, hw⟩ := ev s.heap.objs.size cda cc
  refine ks_wpAt_execs_cons (sup_stmt (s := { s with heap := h₁, toks := s.toks + 2 }) (ar := { arg := "self", annotation := none, pos := a1 }) (t0 := t0) T (X.keeps hk₁) (Tp.keeps hk₁) hns ms (hk₁ _ _ hx) hLx ho rfl hcode hvs hfile hcell l2 l3 ls rfl (fun h₂ tk₂ t1 k₂ e₂ => ?_) he hi hw)
  refine wpAt_of_wpAny ?_
  have kk : ∀ b o, b ≠ x → s.heap.get? b = some o → h₂.get? b = some o := fun b o hb z => k₂ b o hb (hk₁ b o z)
  have X₂ : K.In h₂ := fun a o e => kk a o (fun z => by
    subst z
    rw [hnx] at e
    cases e) (X a o e)
  have hns₂ : h₂.Ns s.heap.objs.size (fun y => ([("self", Value.ref x), (f, v)] : List (Str × Value)).reverse.lookup y) := hns.at fun o z => k₂ _ o hLx z
  refine wpAny_execs_cons (plainObj_wpAny_Assign_Attribute ?_)
  refine ESX.ldL (v := v) hns₂ mf (ESX.ldL (v := .ref x) hns₂ ms ?_ rfl ls) rfl l1 n4
  refine set_plain X₂ (ox := HandSPX.excO C t1) (od := none) ⟨e₂, rfl, rfl, trivial⟩ T.sa ?_
  refine osa_new X₂ e₂ hcl (show excTail lkT (.ref C :: bm) = true from hbm) rfl nof (fun h₃ tk₃ dx k₃ dn dne hx₃ hn₃ => ?_)
  refine wpAny_execs_nil ?_
  have z1 : s.heap.objs.size < h₂.objs.size := hns₂.lt
  exact hq h₃ tk₃ dx ⟨fun b o hb e => k₃ b o hb (kk b o hb e), ⟨t1, hx₃⟩, Nat.le_of_lt (Nat.lt_of_lt_of_le z1 dn), dne, hn₃⟩
theorem init2 {P : Ps2} {a1 a2 a3 : Pos} {args : Args} (T : XCls prog K C) (Fn : XFn prog K C fI qual (args2 a1 a2 a3 f f2) (body2 P tx f f2) (scope2 f f2)) (hf : okF f = true) (hf2 : okF f2 = true) (h12 : (f == f2) = false) (nof : findIn K (.ref C) f = some none) (nof2 : findIn K (.ref C) f2 = some none) (ev : EvOk qual (scope2 f f2) fI P.toPs1 tx)
    (X : K.In s.heap) (Tp : XTop s.heap) (hx : s.heap.get? x = some (HandSPX.excO C t0)) (hnx : K.lookup x = none) (hroom : A.depth < recursionLimit)
    (hb : ∀ (kV doc pm : Value) (an : Option Addr) (cdv ct : Value) (cc : Addr), BindsTo s (ksFn "__init__" qual (args2 a1 a2 a3 f f2) (body2 P tx f f2) (scope2 f f2) .none kV doc pm an cdv ct cc) args [("self", .ref x), (f, v), (f2, v2)])
    (hq : ∀ h' tk dx, InitEnd s.heap h' x C dx (fun y => if y = f2 then some v2 else if y = f then some v else none) → R (.ok (.ret .none)) { s with heap := h', toks := tk }) :
    codeAny (model prog w) A (.call (.ref fI) args) R s := by
  obtain ⟨oc, od, kV, doc, pm, an, cda, ct, cc, osl, cl, ccl, cld, cdd, csl, ccs, vs, file, tf, ho, hcd, hcell, hcode, hvs, hfile⟩ := Fn.fn
  obtain ⟨n1, n2, n3, n4⟩ := okF_of hf
  obtain ⟨m1, m2, m3, m4⟩ := okF_of hf2
  have l1 : (scope2 f f2).names.lookup f = some .local := by simp [List.lookup, n1]
  have l1' : (scope2 f f2).names.lookup f2 = some .local := by simp [List.lookup, m1, flip h12]
  have l2 : (scope2 f f2).names.lookup ("super" : Str) = some .globalImplicit := by simp [List.lookup, flip n2, flip m2]; rfl
  have l3 : (scope2 f f2).names.lookup ("__class__" : Str) = some .free := by simp [List.lookup, flip n3, flip m3]; rfl
  have ls : (scope2 f f2).names.lookup ("self" : Str) = some .local := by simp [List.lookup]
  have hnc : ∀ y ∈ (scope2 f f2).names, y.2 ≠ .cell := by
    intro y hy
    simp only [scope1, List.mem_cons, List.mem_nil_iff, or_false] at hy
    rcases hy with rfl | rfl | rfl | rfl | rfl <;> simp
  have hlo : ∀ y ∈ ([("self", .ref x), (f, v), (f2, v2)] : List (Str × Value)), (scope2 f f2).names.lookup y.1 = some .local := by
    intro y hy
    simp only [List.mem_cons, List.mem_nil_iff, or_false] at hy
    rcases hy with rfl | rfl | rfl
    · exact ls
    · exact l1
    · exact l1'
  obtain ⟨nm, q, N, bs, bm, sn, sub, ab, col, dd, k0, k1, k2, k3, k5, hC, hbm⟩ := T.cls
  have hcl : clsIn K C = some { name := nm, bases := bs, mro := .ref C :: bm, ns := N, qualname := q, hasDict := true, slotNames := sn, subclasses := sub, abstract := ab, collection := col, hasDel := false } := by unfold clsIn; rw [hC] <;> rfl
  refine ks_codeAny_call_defAt (fd := ksFn "__init__" qual (args2 a1 a2 a3 f f2) (body2 P tx f f2) (scope2 f f2) .none kV doc pm an (.ref cda) ct cc) (body := body2 P tx f f2) (binds := [("self", .ref x), (f, v), (f2, v2)]) hroom (X _ _ ho) rfl Tp.nolimit (codeRec_of X hcd) rfl (hb _ _ _ _ _ _ _) hnc hlo (fun h₁ hns hk₁ => ?_)
  have hLx : s.heap.objs.size ≠ x := Nat.ne_of_gt (Heap.lt_size hx)
  have ms : (fun y => ([("self", Value.ref x), (f, v), (f2, v2)] : List (Str × Value)).reverse.lookup y) "self" = some (.ref x) := by simp [List.lookup, flip n1, flip m1]
  have mf : (fun y => ([("self", Value.ref x), (f, v), (f2, v2)] : List (Str × Value)).reverse.lookup y) f = some v := by simp [List.lookup, h12]
  have mf2 : (fun y => ([("self", Value.ref x), (f, v), (f2, v2)] : List (Str × Value)).reverse.lookup y) f2 = some v2 := by simp [List.lookup]
  obtain ⟨pl, he, hi, hw⟩ := ev s.heap.objs.size cda cc
  refine ks_wpAt_execs_cons (sup_stmt (s := { s with heap := h₁, toks := s.toks + 3 }) (ar := { arg := "self", annotation := none, pos := a1 }) (t0 := t0) T (X.keeps hk₁) (Tp.keeps hk₁) hns ms (hk₁ _ _ hx) hLx ho rfl hcode hvs hfile hcell l2 l3 ls rfl (fun h₂ tk₂ t1 k₂ e₂ => ?_) he hi hw)
  refine wpAt_of_wpAny ?_
  have kk : ∀ b o, b ≠ x → s.heap.get? b = some o → h₂.get? b = some o := fun b o hb z => k₂ b o hb (hk₁ b o z)
  have X₂ : K.In h₂ := fun a o e => kk a o (fun z => by
    subst z
    rw [hnx] at e
    cases e) (X a o e)
  have hns₂ : h₂.Ns s.heap.objs.size (fun y => ([("self", Value.ref x), (f, v), (f2, v2)] : List (Str × Value)).reverse.lookup y) := hns.at fun o z => k₂ _ o hLx z
  refine wpAny_execs_cons (plainObj_wpAny_Assign_Attribute ?_)
  refine ESX.ldL (v := v) hns₂ mf (ESX.ldL (v := .ref x) hns₂ ms ?_ rfl ls) rfl l1 n4
  refine set_plain X₂ (ox := HandSPX.excO C t1) (od := none) ⟨e₂, rfl, rfl, trivial⟩ T.sa ?_
  refine osa_new X₂ e₂ hcl (show excTail lkT (.ref C :: bm) = true from hbm) rfl nof (fun h₃ tk₃ dx k₃ dn dne hx₃ hn₃ => ?_)
  have z1 : s.heap.objs.size < h₂.objs.size := hns₂.lt
  have hns₃ : h₃.Ns s.heap.objs.size (fun y => ([("self", Value.ref x), (f, v), (f2, v2)] : List (Str × Value)).reverse.lookup y) := hns₂.at fun o z => k₃ _ o hLx z
  have X₃ : K.In h₃ := fun a o e => k₃ a o (fun z => by
    subst z
    rw [hnx] at e
    cases e) (X₂ a o e)
  refine wpAny_execs_cons (plainObj_wpAny_Assign_Attribute ?_)
  refine ESX.ldL (v := v2) hns₃ mf2 (ESX.ldL (v := .ref x) hns₃ ms ?_ rfl ls) rfl l1' m4
  have hwi : Within (fun y => if y = f then some v else none) [f] := fun y hy => by
    by_cases e : y = f
    · rw [e]; exact List.mem_cons_self ..
    · exact absurd (if_neg e) hy
  obtain ⟨oD, _, _, hoD, _, _⟩ := hn₃.count hwi
  refine set_plain X₃ (ox := { cls := .ref C, dict := some dx, data := .fields #[.ref t1, .none, .none, .none, .bool false, .none] }) (od := some oD) ⟨hx₃, rfl, rfl, hoD⟩ T.sa ?_
  refine osa_old X₃ hx₃ hn₃ hwi (by show 1 ≤ 1000; decide) hcl (show excTail lkT (.ref C :: bm) = true from hbm) rfl nof2 (fun h₄ tk₄ k₄ hn₄ => ?_)
  refine wpAny_execs_nil ?_
  have nd : ∀ {b : Addr} {o : Obj}, s.heap.get? b = some o → b ≠ dx := fun {b o} q => Nat.ne_of_lt (Nat.lt_of_lt_of_le (Heap.lt_size q) (Nat.le_of_lt (Nat.lt_of_lt_of_le z1 dn)))
  exact hq h₄ tk₄ dx ⟨fun b o hb e => k₄ b o (nd e) (k₃ b o hb (kk b o hb e)), ⟨t1, k₄ _ _ (Ne.symm dne) hx₃⟩, Nat.le_of_lt (Nat.lt_of_lt_of_le z1 dn), dne, hn₄⟩

/-- a made exception at e -/
structure OwnMade (h h' : Heap) (e C d : Addr) (mm : Str → Option Value) : Prop where
  keep : ∀ b o, h.get? b = some o → h'.get? b = some o
  new : h.objs.size ≤ e
  obj : ∃ t1 : Addr, h'.get? e = some { cls := .ref C, dict := some d, data := .fields #[.ref t1, .none, .none, .none, .bool false, .none] }
  dbig : h.objs.size ≤ d
  dne : d ≠ e
  ns : h'.Ns1 d mm
theorem made {params : Arguments} {body : List Stmt} {scope : Scope} {rest : List Value} {kw : List (Str × Value)} {mm : Str → Option Value} (T : XCls prog K C) (Fn : XFn prog K C fI qual params body scope) (X : K.In s.heap) (Tp : XTop s.heap) (hz : rest.length ≤ sizeLine)
    (hi : ∀ (s' : Shared) (A' : Around) (x t0 : Addr) (R' : Result → Shared → Prop), K.In s'.heap → XTop s'.heap → s'.heap.get? x = some (HandSPX.excO C t0) → K.lookup x = none → A'.depth ≤ A.depth + 1 →
      (∀ h' tk dx, InitEnd s'.heap h' x C dx mm → R' (.ok (.ret .none)) { s' with heap := h', toks := tk }) → codeAny (model prog w) A' (.call (.ref fI) ⟨.ref x :: rest, kw⟩) R' s')
    (hq : ∀ h' tk e d, OwnMade s.heap h' e C d mm → R (.ok (.ret (.ref e))) { s with heap := h', toks := tk }) :
    codeAny (model prog w) A (.call (.ref C) ⟨rest, kw⟩) R s := by
  obtain ⟨nm, q, N, bs, bm, sn, sub, ab, col, dd, k0, k1, k2, k3, k5, hC, hbm⟩ := T.cls
  obtain ⟨hp, g, dr, tk, os⟩ := s
  have k : ∀ b o, hp.get? b = some o → ((hp.push (kdv_tup rest)).push (HandSPX.excO C hp.objs.size)).get? b = some o := fun b o e => Heap.get?_push_of_some _ (Heap.get?_push_of_some _ e)
  have hget : ((hp.push (kdv_tup rest)).push (HandSPX.excO C hp.objs.size)).get? (hp.objs.size + 1) = some (HandSPX.excO C hp.objs.size) := by heap_get
  have hnx : K.lookup (hp.objs.size + 1) = none := by
    cases e : K.lookup (hp.objs.size + 1) with
    | none => rfl
    | some o =>
      have z : hp.get? (hp.objs.size + 1) = some o := X _ _ e
      exact absurd (Nat.lt_of_succ_lt (Heap.lt_size z)) (Nat.lt_irrefl _)
  refine call_ownK F.excBase_LookupError (fun Y => excTail_contains Y bm hbm) (X _ _ hC) (looks_findIn X Fn.iC) (fun self => bind_fn X self Fn.tI) hz ?_
  refine hi ⟨(hp.push (kdv_tup rest)).push (HandSPX.excO C hp.objs.size), g, dr, tk, os⟩ _ (hp.objs.size + 1) hp.objs.size _ (X.keeps k) (Tp.keeps k) hget hnx (Nat.le_refl _) fun h' tk' dx IE => ?_
  have old : ∀ b o, hp.get? b = some o → h'.get? b = some o := fun b o e => IE.keep b o (Nat.ne_of_lt (Nat.lt_succ_of_lt (Heap.lt_size e))) (k b o e)
  have z : hp.objs.size + 1 + 1 ≤ dx := by
    have q := IE.dbig
    rw [show ({ heap := (hp.push (kdv_tup rest)).push (HandSPX.excO C hp.objs.size), gens := g, drawn := dr, toks := tk, os := os } : Shared).heap.objs.size = hp.objs.size + 1 + 1 from by rw [Heap.size_push, Heap.size_push]] at q
    exact q
  exact ⟨rfl, hq h' tk' (hp.objs.size + 1) dx ⟨old, Nat.le_succ _, IE.obj, Nat.le_trans (Nat.le_trans (Nat.le_succ _) (Nat.le_succ _)) z, IE.dne, IE.ns⟩⟩
end
end XL
end PySem
namespace L2
open PySem PySem.Spec PyProof.Rows
/-! ### exceptions of own classes (over LookupError) as values: made, their fields read, isinstance -/
section
variable {X : Cx} {pins : List (Addr × Obj)} {σ : St} {H : Hp} {s : Shared}
theorem Inv.xtop (I : Inv X pins σ H s) : XL.XTop s.heap :=
  ⟨⟨_, I.mod.glob.keeps I.bk⟩, let ⟨mb, h1, h2⟩ := I.mod.blt; ⟨mb, h1.keeps I.bk, h2⟩, I.nolimit⟩
/-- two objects that are new -/
theorem Inv.laid2 {a d : Addr} {oa od : HO} {t' : Nat} {h' : Heap} (I : Inv X pins σ H s) (k : ∀ b u, s.heap.get? b = some u → h'.get? b = some u) (ha : s.heap.objs.size ≤ a) (hd : s.heap.objs.size ≤ d) (hne : d ≠ a)
    (na : ObjOk X.prog X.w (upd (upd H d od) a oa) h' a oa) (nd : ObjOk X.prog X.w (upd (upd H d od) a oa) h' d od) : Inv X pins σ (upd (upd H d od) a oa) { s with heap := h', toks := t' } := by
  have fa := I.hok.fresh ha
  have fd := I.hok.fresh hd
  have la : ∀ {b : Addr} {u : Obj}, s.heap.get? b = some u → b ≠ a := fun q => Nat.ne_of_lt (Nat.lt_of_lt_of_le (Heap.lt_size q) ha)
  have ld : ∀ {b : Addr} {u : Obj}, s.heap.get? b = some u → b ≠ d := fun q => Nat.ne_of_lt (Nat.lt_of_lt_of_le (Heap.lt_size q) hd)
  have up : ∀ {b : Addr} {u : HO}, H b = some u → upd (upd H d od) a oa b = some u := fun q => by rw [upd_ne (ne_of_none q fa), upd_ne (ne_of_none q fd)]; exact q
  refine I.un (t' := t') (h' := h') {
    keep := fun b u q _ _ _ => k b u q
    slot := fun b u q _ _ _ => ⟨u.slots, k b u q⟩
    free := fun b u q n _ => by rw [upd_ne (la q), upd_ne (ld q)]; exact n
    there := fun b u q _ => ⟨u, k b u q⟩
    tups := fun b xs q => up q
    frzs := fun b u xs q => up q
    tbls := fun b ps q => ⟨#[], by rw [up q]; simp⟩ } fun b u e => ?_
  by_cases hb : b = a
  · subst hb; rw [upd_same] at e; cases e; exact na
  · rw [upd_ne hb] at e
    by_cases hb' : b = d
    · subst hb'; rw [upd_same] at e; cases e; exact nd
    · rw [upd_ne hb'] at e
      exact (I.hok b u e).stay (fun c v _ q => k c v q) (fun c q => up q) fun c xs q => up q
end
theorem pe_gref {X : Cx} {x : Str} {C : Addr} {pos : Pos} (hg : Gl X x) (hm : X.mg x = some (.ref C)) (hd : (x == ("__debug__" : Str)) = false := by decide) : PE X (.Name x pos) (tC (.ref C)) := pe_glob hg hm rfl hd
/-- C(us, ks = ws) can be made; its fields then are gV's -/
def XMk (P : Program) (w : World) (K : PySem.W.Frag) (C : Addr) (n : Nat) (ks : List Str) (gV : List V → List V → List (Str × V)) : Prop :=
  ∀ (A : Around) (s : Shared) (R : Result → Shared → Prop) (us ws : List Value) (vs zs : List V), Vals vs us → Vals zs ws → us.length = n → ws.length = ks.length → K.In s.heap → XL.XTop s.heap → A.depth + 2 < recursionLimit →
    (∀ h' tk e d mm, XL.OwnMade s.heap h' e C d mm → (∀ f, RelO ((gV vs zs).lookup f) (mm f)) → R (.ok (.ret (.ref e))) { s with heap := h', toks := tk }) →
    codeAny (model P w) A (.call (.ref C) ⟨us, ks.zip ws⟩) R s
/-- a new exception of the class C with the fields gV -/
def tXv (C : Addr) (n m : Nat) (gV : List V → List V → List (Str × V)) (ta tk : TA) : TE := fun σ H Q => ta σ H fun vs H1 => tk σ H1 fun zs H2 => vs.length = n ∧ zs.length = m ∧
  ∀ a d, H2 a = none → H2 d = none → d ≠ a → Q (.ref a) (upd (upd H2 d (exd d (gV vs zs))) a (exo a C (some d)))
section
variable {X : Cx} {n k : Nat} {C : Addr} {ks : List Str} {x : Str} {p pos : Pos} {e : Expr} {es : List Expr} {kws : List Keyword} {t tk : TA} {gV : List V → List V → List (Str × V)}
theorem run_xv {pins : List (Addr × Obj)} {σ : St} {H : Hp} {s : Shared} {Q : VK} {us ws : List Value} {vs zs : List V} (M : XMk X.prog X.w X.K C n ks gV) (hr : Room k X.A) (I : Inv X pins σ H s) (r : Vals vs us) (rz : Vals zs ws) (l1 : vs.length = n) (l2 : zs.length = ks.length)
    (h : ∀ a d, H a = none → H d = none → d ≠ a → Q (.ref a) (upd (upd H d (exd d (gV vs zs))) a (exo a C (some d)))) :
    wpAny (model X.prog X.w) X.A (call (.ref C) us (ks.zip ws)) (EP X pins σ Q) X.xe s := by
  refine wpAny_call (M _ s _ us ws vs zs r rz (r.length.symm.trans l1) (rz.length.symm.trans l2) I.kIn I.xtop (by have := hr.dp; omega) fun h' tk' e' d mm O rel => ?_)
  obtain ⟨t1, ho⟩ := O.obj
  exact ⟨.ref e', _, I.laid2 (t' := tk') O.keep O.new O.dbig O.dne (exo_ok ho) (exd_ok O.ns rel), rfl, h e' d (I.hok.fresh O.new) (I.hok.fresh O.dbig) O.dne⟩
/-- C(e, .., k = v, ..) -/
theorem pe_xv (M : XMk X.prog X.w X.K C n ks gV) (hr : Room k X.A) (hg : Gl X x) (hm : X.mg x = some (.ref C)) (kp : PySem.W.keepIn X.K (.ref C) = true) (ha : PA X (e :: es) t) (hkw : PK X kws tk)
    (hall : (backToKw pos (keywordEach kws X.env)).all (·.1.isSome) = true := by rfl) (hks : (backToKw pos (keywordEach kws X.env)).filterMap (·.1) = ks := by rfl) (hdb : (x == ("__debug__" : Str)) = false := by decide)
    (he : starEach (e :: es) X.env = (false, eval e X.env) :: starEach es X.env := by rfl) (hpl : ((backTo pos (starEach (e :: es) X.env)).any (·.1) || (backToKw pos (keywordEach kws X.env)).any (·.1.isNone)) = false := by rfl) :
    PE X (.Call (.Name x p) (e :: es) kws pos) (tXv C n ks.length gV t tk) := by
  refine ⟨fun pins s σ H Q I h => ?_⟩
  refine wpAny_Call_Name_kw (ld_glob I hg hm ?_ hdb)
  refine PySem.W.callWith_KW (h₀ := X.base) I.ok.mod.kin kp hall (thn (ha.run pos pins s σ H _ I h) fun us s1 ⟨vs, H1, I1, r, q⟩ => ?_) hpl he
  refine thn (hkw.run pos pins s1 σ H1 _ I1 q) fun ws s2 ⟨zs, H2, I2, rz, l1, l2, q2⟩ => ⟨I2.kIn, ?_⟩
  rw [hks]
  exact run_xv M hr I2 r rz l1 l2 q2
/-- C(k = v, ..) -/
theorem pe_xv0 (M : XMk X.prog X.w X.K C 0 ks gV) (hr : Room k X.A) (hg : Gl X x) (hm : X.mg x = some (.ref C)) (kp : PySem.W.keepIn X.K (.ref C) = true) (hkw : PK X kws tk)
    (hall : (backToKw pos (keywordEach kws X.env)).all (·.1.isSome) = true := by rfl) (hks : (backToKw pos (keywordEach kws X.env)).filterMap (·.1) = ks := by rfl) (hdb : (x == ("__debug__" : Str)) = false := by decide)
    (hpl : ((backTo pos (starEach [] X.env)).any (·.1) || (backToKw pos (keywordEach kws X.env)).any (·.1.isNone)) = false := by rfl) :
    PE X (.Call (.Name x p) [] kws pos) (tXv C 0 ks.length gV tNil tk) := by
  refine ⟨fun pins s σ H Q I h => ?_⟩
  refine wpAny_Call_Name_kw (ld_glob I hg hm ?_ hdb)
  refine PySem.W.callWith_KW0 (h₀ := X.base) I.ok.mod.kin kp hall ?_ hpl
  refine thn (hkw.run pos pins s σ H _ I h) fun ws s2 ⟨zs, H2, I2, rz, l1, l2, q2⟩ => ⟨I2.kIn, ?_⟩
  rw [hks]
  exact run_xv (us := []) (vs := []) M hr I2 .nil rz rfl l2 q2
end
section
variable {P : Program} {w : World} {K : PySem.W.Frag} {C fI : Addr} {qual tx f f2 : Str}
open PySem.XL in
theorem xmk1 {Ps : Ps1} {a1 a2 : Pos} (T : XCls P K C) (Fn : XFn P K C fI qual (args1 a1 a2 f) (body1 Ps tx f) (scope1 f)) (hf : okF f = true) (nof : PySem.W.findIn K (.ref C) f = some none) (ev : EvOk qual (scope1 f) fI Ps tx)
    (hb : ∀ (s : Shared) (x : Addr) (v : Value) (kV doc pm : Value) (an : Option Addr) (cdv ct : Value) (cc : Addr), BindsTo s (PySem.W.ksFn "__init__" qual (args1 a1 a2 f) (body1 Ps tx f) (scope1 f) .none kV doc pm an cdv ct cc) ⟨[.ref x, v], []⟩ [("self", .ref x), (f, v)]) :
    XMk P w K C 1 [] (fun vs _ => [(f, vs.headD .non)]) := by
  intro A s R us ws vs zs r rz l1 l2 X Tp dp hq
  cases r with
  | nil => cases l1
  | @cons v u vs' us' ru rr =>
    cases rr with
    | cons _ _ => cases l1
    | nil =>
      show codeAny _ _ (.call (.ref C) ⟨[u], []⟩) _ _
      refine made (mm := fun y => if y = f then some u else none) T Fn X Tp (by show 1 ≤ sizeLine; rw [sizeLine_eq]; decide) (fun s' A' x t0 R' X' Tp' hx hnx hA hq' => ?_) fun h' tk e d O => hq h' tk e d _ O fun g => ?_
      · exact init1 T Fn hf nof ev X' Tp' hx hnx (by omega) (hb s' x u) hq'
      · rw [lookup_put]
        by_cases e : g = f
        · rw [if_pos e, if_pos e]; exact ru
        · rw [if_neg e, if_neg e]; exact True.intro
open PySem.XL in
theorem xmk1k {Ps : Ps1} {a1 a2 : Pos} (T : XCls P K C) (Fn : XFn P K C fI qual (args1 a1 a2 f) (body1 Ps tx f) (scope1 f)) (hf : okF f = true) (nof : PySem.W.findIn K (.ref C) f = some none) (ev : EvOk qual (scope1 f) fI Ps tx)
    (hb : ∀ (s : Shared) (x : Addr) (v : Value) (kV doc pm : Value) (an : Option Addr) (cdv ct : Value) (cc : Addr), BindsTo s (PySem.W.ksFn "__init__" qual (args1 a1 a2 f) (body1 Ps tx f) (scope1 f) .none kV doc pm an cdv ct cc) ⟨[.ref x], [(f, v)]⟩ [("self", .ref x), (f, v)]) :
    XMk P w K C 0 [f] (fun _ zs => [(f, zs.headD .non)]) := by
  intro A s R us ws vs zs r rz l1 l2 X Tp dp hq
  cases r with
  | cons _ _ => cases l1
  | nil =>
    cases rz with
    | nil => cases l2
    | @cons v u vs' us' ru rr =>
      cases rr with
      | cons _ _ => cases l2
      | nil =>
        show codeAny _ _ (.call (.ref C) ⟨[], [(f, u)]⟩) _ _
        refine made (mm := fun y => if y = f then some u else none) T Fn X Tp (by show 0 ≤ sizeLine; omega) (fun s' A' x t0 R' X' Tp' hx hnx hA hq' => ?_) fun h' tk e d O => hq h' tk e d _ O fun g => ?_
        · exact init1 T Fn hf nof ev X' Tp' hx hnx (by omega) (hb s' x u) hq'
        · rw [lookup_put]
          by_cases e : g = f
          · rw [if_pos e, if_pos e]; exact ru
          · rw [if_neg e, if_neg e]; exact True.intro
theorem rel2 {v v2 : V} {u u2 : Value} (r : RelV v u) (r2 : RelV v2 u2) (g : Str) : RelO (([(f2, v2), (f, v)] : List (Str × V)).lookup g) (if g = f2 then some u2 else if g = f then some u else none) := by
  rw [lookup_put]
  by_cases e : g = f2
  · rw [if_pos e, if_pos e]; exact r2
  · rw [if_neg e, if_neg e, lookup_put]
    by_cases e' : g = f
    · rw [if_pos e', if_pos e']; exact r
    · rw [if_neg e', if_neg e']; exact True.intro
open PySem.XL in
theorem xmk2 {Ps : Ps2} {a1 a2 a3 : Pos} (T : XCls P K C) (Fn : XFn P K C fI qual (args2 a1 a2 a3 f f2) (body2 Ps tx f f2) (scope2 f f2)) (hf : okF f = true) (hf2 : okF f2 = true) (h12 : (f == f2) = false) (nof : PySem.W.findIn K (.ref C) f = some none) (nof2 : PySem.W.findIn K (.ref C) f2 = some none) (ev : EvOk qual (scope2 f f2) fI Ps.toPs1 tx)
    (hb : ∀ (s : Shared) (x : Addr) (v v2 : Value) (kV doc pm : Value) (an : Option Addr) (cdv ct : Value) (cc : Addr), BindsTo s (PySem.W.ksFn "__init__" qual (args2 a1 a2 a3 f f2) (body2 Ps tx f f2) (scope2 f f2) .none kV doc pm an cdv ct cc) ⟨[.ref x, v, v2], []⟩ [("self", .ref x), (f, v), (f2, v2)]) :
    XMk P w K C 2 [] (fun vs _ => [(f2, vs.getD 1 .non), (f, vs.getD 0 .non)]) := by
  intro A s R us ws vs zs r rz l1 l2 X Tp dp hq
  cases r with
  | nil => cases l1
  | @cons v u vs' us' ru rr =>
    cases rr with
    | nil => cases l1
    | @cons v2 u2 vs' us' ru2 rr =>
      cases rr with
      | cons _ _ => cases l1
      | nil =>
        show codeAny _ _ (.call (.ref C) ⟨[u, u2], []⟩) _ _
        refine made (mm := fun y => if y = f2 then some u2 else if y = f then some u else none) T Fn X Tp (by show 2 ≤ sizeLine; rw [sizeLine_eq]; decide) (fun s' A' x t0 R' X' Tp' hx hnx hA hq' => ?_) fun h' tk e d O => hq h' tk e d _ O fun g => rel2 ru ru2 g
        exact init2 T Fn hf hf2 h12 nof nof2 ev X' Tp' hx hnx (by omega) (hb s' x u u2) hq'
open PySem.XL in
/-- by keywords, the second one first -/
theorem xmk2k {Ps : Ps2} {a1 a2 a3 : Pos} (T : XCls P K C) (Fn : XFn P K C fI qual (args2 a1 a2 a3 f f2) (body2 Ps tx f f2) (scope2 f f2)) (hf : okF f = true) (hf2 : okF f2 = true) (h12 : (f == f2) = false) (nof : PySem.W.findIn K (.ref C) f = some none) (nof2 : PySem.W.findIn K (.ref C) f2 = some none) (ev : EvOk qual (scope2 f f2) fI Ps.toPs1 tx)
    (hb : ∀ (s : Shared) (x : Addr) (v v2 : Value) (kV doc pm : Value) (an : Option Addr) (cdv ct : Value) (cc : Addr), BindsTo s (PySem.W.ksFn "__init__" qual (args2 a1 a2 a3 f f2) (body2 Ps tx f f2) (scope2 f f2) .none kV doc pm an cdv ct cc) ⟨[.ref x], [(f2, v2), (f, v)]⟩ [("self", .ref x), (f, v), (f2, v2)]) :
    XMk P w K C 0 [f2, f] (fun _ zs => [(f2, zs.getD 0 .non), (f, zs.getD 1 .non)]) := by
  intro A s R us ws vs zs r rz l1 l2 X Tp dp hq
  cases r with
  | cons _ _ => cases l1
  | nil =>
  cases rz with
  | nil => cases l2
  | @cons v2 u2 vs' us' ru2 rr =>
    cases rr with
    | nil => cases l2
    | @cons v u vs' us' ru rr =>
      cases rr with
      | cons _ _ => cases l2
      | nil =>
        show codeAny _ _ (.call (.ref C) ⟨[], [(f2, u2), (f, u)]⟩) _ _
        refine made (mm := fun y => if y = f2 then some u2 else if y = f then some u else none) T Fn X Tp (by show 0 ≤ sizeLine; omega) (fun s' A' x t0 R' X' Tp' hx hnx hA hq' => ?_) fun h' tk e d O => hq h' tk e d _ O fun g => rel2 ru ru2 g
        exact init2 T Fn hf hf2 h12 nof nof2 ev X' Tp' hx hnx (by omega) (hb s' x u u2) hq'
end
/-- what an own exception class must say for its instances to be read and asked -/
structure XAsk (K : PySem.W.Frag) (D : Addr) : Prop where
  hg : PySem.W.findIn K (.ref D) "__getattribute__" = some (some (.builtin "BaseException.__getattribute__"))
  hk : PySem.W.findIn K (.ref D) "__getattr__" = some none
  hs : PySem.W.subIn K (.ref D) (.type "BaseException") = some true
  hd : PySem.W.hasDictIn K D = true
  ha : PySem.W.findIn K (.ref D) "__class__" = some (some (.builtin "object.__class__"))
  hn : PySem.W.specialIn K (.builtin "object.__class__") "__get__" = some (some (.builtin "getset_descriptor.__get__"))
  ht : PySem.W.takesIn K (.builtin "object.__class__") = some true
  hm : PySem.W.mroIn K D (.type "object") = some true
/-- e.f, e an exception that is held as a value -/
def tXat (K : PySem.W.Frag) (f : Str) (te : TE) : TE := fun σ H Q => te σ H fun x H1 => ∃ (a C d : Addr) (fs : List (Str × V)) (v : V), x = .ref a ∧ H1 a = some (exo a C (some d)) ∧ H1 d = some (exd d fs) ∧ XAsk K C ∧ PySem.W.findIn K (.ref C) f = some none ∧ fs.lookup f = some v ∧ Q v H1
/-- isinstance(e, c) -/
def rXis (K : PySem.W.Frag) : List V → Hp → VK → Prop := fun xs H Q => ∃ (a C d : Addr) (fs : List (Str × V)) (c : V) (u : Value) (b : Bool), xs = [.ref a, c] ∧ ClsV c u ∧ H a = some (exo a C (some d)) ∧ H d = some (exd d fs) ∧ XAsk K C ∧ PySem.W.kitOne K (.ref C) u = some b ∧ Q (.bl b) H
section
variable {X : Cx} {pins : List (Addr × Obj)} {σ : St} {H : Hp} {s : Shared}
theorem Inv.inst {a C d : Addr} {fs : List (Str × V)} (I : Inv X pins σ H s) (ea : H a = some (exo a C (some d))) (ed : H d = some (exd d fs)) :
    ∃ (oe od : Obj) (mA : Str → Option Value), PySem.W.InstAt s.heap a oe C (some od) ∧ (∀ f, RelO (fs.lookup f) (mA f)) ∧ ∀ f, PySem.W.lookIn f od = some (mA f) := by
  obtain ⟨t1, ho⟩ := exo_at I.hok ea
  obtain ⟨mA, hns, hr⟩ := exd_at I.hok ed
  obtain ⟨od, hod, hl⟩ := lookIn_ns hns
  exact ⟨_, od, mA, ⟨ho, rfl, rfl, hod⟩, hr, hl⟩
theorem pe_xat {e : Expr} {te : TE} {pos : Pos} {f : Str} (he : PE X e te) (hb : attributeBase e f X.env (eval e X.env) = eval e X.env := by rfl) : PE X (.Attribute e f pos) (tXat X.K f te) := by
  refine ⟨fun pins s σ H Q I h => ?_⟩
  refine attr_of hb (thn (he.run pins s σ H _ I h) fun u s1 ⟨x, H1, I1, rx, a, C, d, fs, v, ex, ea, ed, T, hno, l, q⟩ => ?_)
  subst ex
  obtain rfl : u = Value.ref a := rx
  obtain ⟨oe, od, mA, J, hr, hl⟩ := I1.inst ea ed
  obtain ⟨u, hu, ru⟩ := RelO.some_of (v := v) (o := mA f) (by rw [← l]; exact hr f)
  exact HandSPX.exc_get I1.kIn J T.hg T.hk T.hs (PySem.W.findObj_own T.hd hno rfl (by rw [hl, hu])) (handed_of ru) ⟨v, H1, I1.tok _, ru, q⟩
theorem call_xis : CallR X (.builtin "isinstance") (rXis X.K) := by
  intro pins s σ H xs us Q I r h
  obtain ⟨a, C, d, fs, c, u, b, rfl, k, ea, ed, T, e, q⟩ := h
  obtain ⟨u1, u2, rfl, r1, r2⟩ := vals2 r
  have e2 := k.eq r2
  subst e2
  obtain rfl : u1 = Value.ref a := r1
  obtain ⟨oe, od, mA, J, hr, hl⟩ := I.inst ea ed
  obtain ⟨cd, hc, _⟩ := PySem.W.any_some T.hd
  exact PySem.W.kia_one (PySem.W.kitx_exc (by rw [hc]; rfl) T.hg T.hk T.hs T.ha T.hn T.ht T.hm) I.kIn J e (fun z => nomatch z) fun tk => ⟨.bl b, H, I.tok tk, rfl, q⟩
end
end L2
namespace L2
open PySem PySem.Spec PyProof.Rows
/-! ### raise C(e, ..), C an own class over LookupError -/
/-- C(e, ..) to be raised: its own dict d, new, holds the fields -/
def tXmk (C : Addr) (n : Nat) (gV : List V → List V → List (Str × V)) (ta : TA) : L2.St → Hp → XK → Prop := fun σ H Q => ta σ H fun vs H1 => vs.length = n ∧ ∀ d, H1 d = none → Q (.ref C) (some d) (upd H1 d (.xd (gV vs [])))
theorem pmk_x {X : Cx} {x : Str} {C : Addr} {n k : Nat} {e : Expr} {es : List Expr} {ta : TA} {p pos : Pos} {gV : List V → List V → List (Str × V)} (M : XMk X.prog X.w X.K C n [] gV) (hr : Room k X.A) (hg : Gl X x) (hm : X.mg x = some (.ref C)) (kp : PySem.W.keepIn X.K (.ref C) = true) (rs : Raises X (.ref C)) (ha : PA X (e :: es) ta)
    (hdb : (x == ("__debug__" : Str)) = false := by decide) (he : starEach (e :: es) X.env = (false, eval e X.env) :: starEach es X.env := by rfl) (hpl : (backTo pos (starEach es X.env)).any (·.1) = false := by rfl) :
    PMk X (.Call (.Name x p) (e :: es) [] pos) (tXmk C n gV ta) := by
  intro pins s σ H Q I h
  refine wpAny_Call_Name_kw (ld_glob I hg hm ?_ hdb)
  refine PySem.W.callWith_K (h₀ := X.base) I.ok.mod.kin kp (thn (ha.run pos pins s σ H _ I h) fun us s1 ⟨vs, H1, I1, r1, l1, q1⟩ => ⟨I1.kIn, ?_⟩) he hpl
  show wpAny _ _ (call (.ref C) us) _ _ _
  refine wpAny_call (M _ s1 _ us [] vs [] r1 .nil (r1.length.symm.trans l1) rfl I1.kIn I1.xtop (by have := hr.dp; omega) fun h' tk' e' d mm O rel => ?_)
  obtain ⟨hp, g, dr, tk, os⟩ := s1
  obtain ⟨t1, hoe⟩ := O.obj
  obtain ⟨G', g1, g2⟩ := restrict h' fun b => decide (b ≠ e')
  have gk : ∀ b, b ≠ e' → G'.get? b = h'.get? b := fun b hb => g1 b (decide_eq_true hb)
  have ge : G'.get? e' = none := g2 e' (by simp)
  have old : ∀ b o, hp.get? b = some o → G'.get? b = some o := fun b o q => (gk b (Nat.ne_of_lt (Nat.lt_of_lt_of_le (Heap.lt_size q) O.new))).trans (O.keep b o q)
  have ob : ObjOk X.prog X.w (upd H1 d (.xd (gV vs []))) G' d (.xd (gV vs [])) := ⟨_, O.ns.at (fun o q => (gk d O.dne).trans q), rel⟩
  have J : Inv X pins σ (upd H1 d (.xd (gV vs []))) ⟨G', g, dr, tk', os⟩ := I1.laid (t' := tk') old O.dbig ob
  refine ⟨e', _, _, ⟨G', g, dr, tk', os⟩, _, .ref C, some d, rfl, J, fun b o q => ?_, ge, hoe, ⟨rfl, rfl⟩, rfl, rfl, ?_, rfl, I1.bare, rs, q1 d (I1.hok.fresh O.dbig)⟩
  · by_cases hb : b = e'
    · have q' : G'.get? b = some o := q
      rw [hb, ge] at q'; cases q'
    · exact (gk b hb).symm.trans q
  · rw [upd_ne (Ne.symm O.dne)]
    exact I1.hok.fresh O.new
end L2
namespace L2
open PySem PySem.Spec PyProof.Rows
/-! ### zip of a text and a tuple -/
/-- the text x and the tuple at b, the items in new pairs -/
def ItzS (K : PySem.W.Frag) (x : Str) (b : Addr) : It :=
  ⟨fun i H => ∃ (ys : List V) (c : Nat) (y : V), SqT K H b ys ∧ x.cps[i]? = some c ∧ ys[i]? = some y ∧ i ≤ x.cps.size ∧ i ≤ ys.length,
    fun i H v H' => ∃ T c y, v = .ref T ∧ H T = none ∧ H' = upd H T (.tup [.str ⟨#[c]⟩, y]) ∧ x.cps[i]? = some c ∧ ∀ ys, SqT K H b ys → ys[i]? = some y,
    fun i H => ∃ ys : List V, SqT K H b ys ∧ i ≤ x.cps.size ∧ i ≤ ys.length ∧ (i = x.cps.size ∨ i = ys.length)⟩
theorem draws_text {prog : Program} {w : World} {A : Around} (hh : A.handled = none) (it : Addr) (x : Str) (t : Tok) (ty : String) (hty : ty = "str_ascii_iterator" ∨ ty = "str_iterator") :
    Draws prog w A it [it] x.cps.size (fun i v => ∃ c u, x.cps[i]? = some c ∧ v = .str ⟨#[c]⟩ u) (fun i h => h.IsStrIter it ty x t i) := by
  rcases hty with rfl | rfl
  · exact Draws.strAscii hh it x t
  · exact Draws.strWide hh it x t
theorem turn_zipS {P : Program} {w : World} {K : PySem.W.Frag} {elts : List Expr} {kk : Nat} {tpos : Pos} {b z TI TO i1 i2 : Addr} {x : Str} {t : Tok} {ty : String} (hty : ty = "str_ascii_iterator" ∨ ty = "str_iterator") (D : ZipSep2 z TI TO i1 i2 [i1] [i2, b]) (hb : b ≠ i2) :
    Turn P w K (.Tuple elts kk tpos) (ItzS K x b) [z, TI, TO, i1, i2] z (fun i h => IsZip h z TI TO .none ∧ IsTupOf2 h TI (.ref i1) (.ref i2) ∧ (∃ x y, IsTupOf2 h TO x y) ∧ h.IsStrIter i1 ty x t i ∧ h.IsTupleIter i2 b i) where
  mem := by simp
  obj := fun i h st c hc => by
    obtain ⟨hz, hTI, ⟨x, y, hTO⟩, ⟨o1, e1, _, d1⟩, ⟨o2, e2, _, d2⟩⟩ := st
    have e' : c = z ∨ c = TI ∨ c = TO ∨ c = i1 ∨ c = i2 := by simpa using hc
    rcases e' with q | q | q | q | q
    · rw [q]; exact ⟨_, hz, fun v q => nomatch q⟩
    · rw [q]; exact ⟨_, hTI, fun v q => nomatch q⟩
    · rw [q]; exact ⟨_, hTO, fun v q => nomatch q⟩
    · rw [q]; exact ⟨o1, e1, fun v q => by rw [d1] at q; cases q⟩
    · rw [q]; exact ⟨o2, e2, fun v q => by rw [d2] at q; cases q⟩
  keep := fun i h h' st k => by
    obtain ⟨hz, hTI, ⟨x, y, hTO⟩, ⟨o, ho, r⟩, h2⟩ := st
    exact ⟨k z (by simp) _ hz, k TI (by simp) _ hTI, ⟨x, y, k TO (by simp) _ hTO⟩, ⟨o, k i1 (by simp) o ho, r⟩, h2.at fun o q => k i2 (by simp) o q⟩
  item := by
    intro X hP hw hK hc i pins s σ H E I hf st hg
    subst hP hw hK
    obtain ⟨hz, hTI, ⟨x0, y0, hTO⟩, h1, h2⟩ := st
    obtain ⟨ys, c, y, hqy, hx, hy, l1, l2⟩ := hg
    obtain ⟨its2, rv2, p2, _⟩ := I.tuple hqy
    obtain ⟨u2, hu2, ru2⟩ := rv2.get hy
    have hzl : z < s.heap.objs.size := Heap.lt_size hz
    have hlt1 : i < x.cps.size := (Array.getElem?_eq_some_iff.mp hx).1
    have hlt2 : i < its2.toArray.size := by simpa using (List.getElem?_eq_some_iff.mp hu2).1
    have d1 := draws_text (prog := X.prog) (w := X.w) (A := X.A.in1) (I.ok.hd hc) i1 x t ty hty
    have d2 := Draws.tuple (prog := X.prog) (w := X.w) (A := X.A.in1) (I.ok.hd hc) i2 b hb its2.toArray
    refine wpAny_pyNext_zipD2_item (St1 := fun i h => h.IsStrIter i1 ty x t i) (St2 := fun i h => h.IsTupleIter i2 b i ∧ h.IsTuple b its2.toArray) D d1 d2 hz hTI hTO h1 ⟨h2, p2⟩ hlt1 hlt2 fun x1 x2 h' tk q1 q2 z' TO' h1' h2' hT hsz hk => ?_
    obtain ⟨c', u, hc', rfl⟩ := q1
    rw [hx] at hc'
    cases hc'
    have hx2 : x2 = u2 := by
      have q2' : its2[i]? = some x2 := by simpa using q2
      rw [hu2] at q2'
      exact (Option.some.inj q2').symm
    subst hx2
    refine ⟨_, rfl, wpAny_letOwnedTupleGo_zip (s := { s with heap := h', toks := tk }) z' fun h'' z'' sb => ?_⟩
    have hT2 : h''.get? s.heap.objs.size = some { cls := .type "tuple", data := .seq #[.str ⟨#[c]⟩ u, x2] } := (sb.2 _ (Nat.ne_of_gt hzl)).trans hT
    have new : ObjOk X.prog X.w (upd H s.heap.objs.size (.tup [.str ⟨#[c]⟩, y])) h'' s.heap.objs.size (.tup [.str ⟨#[c]⟩, y]) :=
      ⟨by show 2 ≤ sizeLine; decide, [.str ⟨#[c]⟩ u, x2], .cons ⟨u, rfl⟩ (.cons ru2 .nil), ⟨_, hT2, rfl, _, rfl⟩⟩
    have I1 : Inv X pins σ (upd H s.heap.objs.size (.tup [.str ⟨#[c]⟩, y])) { s with heap := h'', toks := tk } :=
      I.turnedNew (t' := tk) (ch := [z, TI, TO, i1, i2]) (fun c o hb q => (sb.2 c (fun q' => hb (by simp [q']))).trans (hk c o (fun q' => hb (by simp [q'])) (fun q' => hb (by simp [q'])) (fun q' => hb (by simp [q'])) (fun q' => hb (by simp [q'])) q)) hf (Nat.le_refl _) new
    refine ⟨.ref s.heap.objs.size, _, I1, rfl, ⟨_, c, y, rfl, I.hok.fresh (Nat.le_refl _), rfl, hx, fun l hl => by rw [I.tuple_inj hl hqy]; exact hy⟩, ⟨z'', ?_, ⟨.str ⟨#[c]⟩ u, x2, ?_⟩, ?_, ?_⟩, fun c hcm => ?_⟩
    · exact (sb.2 _ D.TIz).trans (hk _ _ D.TIz D.TITO D.TIi1 D.TIi2 hTI)
    · exact (sb.2 _ D.TOz).trans TO'
    · obtain ⟨o, ho, r⟩ := h1'
      exact ⟨o, (sb.2 _ D.zi1.symm).trans ho, r⟩
    · exact h2'.1.at fun o q => (sb.2 _ D.zi2.symm).trans q
    · have hlt : c < s.heap.objs.size := by
        have e' : c = z ∨ c = TI ∨ c = TO ∨ c = i1 ∨ c = i2 := by simpa using hcm
        rcases e' with q | q | q | q | q
        · rw [q]; exact hzl
        · rw [q]; exact Heap.lt_size hTI
        · rw [q]; exact Heap.lt_size hTO
        · rw [q]; obtain ⟨_, e1, _⟩ := h1; exact Heap.lt_size e1
        · rw [q]; obtain ⟨_, e2, _⟩ := h2; exact Heap.lt_size e2
      rw [upd_ne (Nat.ne_of_lt hlt)]
      exact (hf c hcm).1
  done := by
    intro X hP hw hK hc i pins s σ H E I hf st hg
    subst hP hw hK
    obtain ⟨hz, hTI, ⟨x0, y0, hTO⟩, h1, h2⟩ := st
    obtain ⟨ys, hqy, l1, l2, hend⟩ := hg
    obtain ⟨its2, rv2, p2, _⟩ := I.tuple hqy
    have ll := rv2.length
    have l2' : i ≤ its2.toArray.size := by simp; omega
    have he : i = x.cps.size ∨ i = its2.toArray.size := by
      rcases hend with q | q
      · exact .inl q
      · exact .inr (by simp; omega)
    have d1 := draws_text (prog := X.prog) (w := X.w) (A := X.A.in1) (I.ok.hd hc) i1 x t ty hty
    have d2 := Draws.tuple (prog := X.prog) (w := X.w) (A := X.A.in1) (I.ok.hd hc) i2 b hb its2.toArray
    exact wpAny_pyNext_zipD2_end (St1 := fun i h => h.IsStrIter i1 ty x t i) (St2 := fun i h => h.IsTupleIter i2 b i ∧ h.IsTuple b its2.toArray) D d1 d2 hz hTI hTO h1 ⟨h2, p2⟩ l1 l2' he fun h' tk hk => ⟨rfl, I.turnedL (t' := tk) (ch := [z, TI, TO, i1, i2]) (fun c o hb q =>
      hk c o (fun q' => hb (by simp [q'])) (fun q' => hb (by simp [q'])) (fun q' => hb (by simp [q'])) (fun q' => hb (by simp [q'])) q) hf⟩
  self := fun A i s Q E st h => wpAny_pyIter_zip st.1 h
def iZipS (K : PySem.W.Frag) (ta : TA) : TI := fun σ H R => ta σ H fun vs H1 => ∃ (x : Str) (b : Addr) (ys : List V), vs = [.str x, .ref b] ∧ SqT K H1 b ys ∧ R (ItzS K x b) H1
theorem pi_zipS {X : Cx} {e e2 : Expr} {ta : TA} {p pos tpos : Pos} {elts : List Expr} {kk : Nat} (hg : Gl X "zip") (hm : X.mg "zip" = none) (ha : PA X [e, e2] ta)
    (hs : starEach [e, e2] X.env = (false, eval e X.env) :: starEach [e2] X.env := by rfl) (hpl : (backTo pos (starEach [e2] X.env)).any (·.1) = false := by rfl) :
    PI X (.Tuple elts kk tpos) (.Call (.Name "zip" p) [e, e2] [] pos) (iZipS X.K ta) := by
  refine ⟨fun pins s σ H R I h => ?_⟩
  refine Call_ (ld_blt I hg hm PyProof.Rows.boot_zip (PyProof.Rows.callWith_type1 (thn (ha.run pos pins s σ H _ I h) fun us s1 ⟨vs, H1, I1, r1, q1⟩ => ?_) hs hpl))
  obtain ⟨x, b, ys, ex, hqy, q⟩ := q1
  subst ex
  obtain ⟨u1, u2, rfl, r, r'⟩ := vals2 r1
  obtain ⟨t, rfl⟩ := r
  cases r'
  have fresh5 : ∀ c, c ∈ [s1.heap.objs.size + 4, s1.heap.objs.size + 2, s1.heap.objs.size + 3, s1.heap.objs.size, s1.heap.objs.size + 1] → FpOk X pins H1 c := fun c hcm => by
    have e' : c = s1.heap.objs.size + 4 ∨ c = s1.heap.objs.size + 2 ∨ c = s1.heap.objs.size + 3 ∨ c = s1.heap.objs.size ∨ c = s1.heap.objs.size + 1 := by simpa using hcm
    have hle : s1.heap.objs.size ≤ c := by omega
    exact I1.fpOk hle (I1.hok.fresh hle)
  obtain ⟨its2, rv2, p2, _⟩ := I1.tuple hqy
  obtain ⟨o2, ho2, _⟩ := id p2
  have hblt := Heap.lt_size ho2
  refine zip_begins2 (begins_text x t) (begins_tuple b its2.toArray) trivial (show s1.heap.IsTuple b its2.toArray from p2) fun h' hz hTI hTO h1 h2 hsz hk => wpAny_pyIter_zip hz ?_
  have I2 : Inv X pins σ H1 { s1 with heap := h' } := I1.kept (t' := s1.toks) hk
  have sep := zip_sep2 (N := s1.heap.objs.size) (fp1 := []) (fp2 := [b]) (fun _ q => nomatch q) (fun c q => by
    have e : c = b := by simpa using q
    rw [e]; exact hblt)
  have hty : strIterType x = "str_ascii_iterator" ∨ strIterType x = "str_iterator" := by
    unfold strIterType
    split
    · exact .inl rfl
    · exact .inr rfl
  exact ⟨s1.heap.objs.size + 4, [s1.heap.objs.size + 4, s1.heap.objs.size + 2, s1.heap.objs.size + 3, s1.heap.objs.size, s1.heap.objs.size + 1], _, _, H1, rfl, I2, turn_zipS (x := x) (t := t) hty sep (Nat.ne_of_lt (Nat.lt_succ_of_lt hblt)), ⟨hz, hTI, ⟨_, _, hTO⟩, ⟨_, h1, rfl, rfl⟩, ⟨_, h2, rfl, rfl⟩⟩, fresh5, q⟩
/-- a loop over zip of a text and a tuple of one length -/
theorem for_zipS {K : PySem.W.Frag} {b : Addr} {x : Str} {ys : List V} {g : TG} {tb : TS} {D : Ends} {σ : L2.St} {H : Hp} (hl : x.cps.size = ys.length) (Pv : Nat → L2.St → Hp → Prop) (h0 : Pv 0 σ H) (hq : ∀ i σ H, Pv i σ H → SqT K H b ys)
    (hs : ∀ (i c : Nat) (y : V) (T : Addr) (σ : L2.St) (H : Hp), x.cps[i]? = some c → ys[i]? = some y → Pv i σ H → H T = none → g (.ref T) σ (upd H T (.tup [.str ⟨#[c]⟩, y])) fun σ2 H2 => tb { D with nx := Pv (i + 1), ct := Pv (i + 1), bk := D.nx } σ2 H2) (hd : ∀ σ H, Pv ys.length σ H → D.nx σ H) :
    ∃ W : Nat → Nat → L2.St → Hp → Prop, (∃ m, W 0 m σ H) ∧ ∀ i m σ H, W i m σ H →
      ((ItzS K x b).stop i H ∧ D.nx σ H) ∨ ((ItzS K x b).go i H ∧ ∃ N : L2.St → Hp → Prop, (∀ σ' H', N σ' H' → ∃ m', m' < m ∧ W (i + 1) m' σ' H') ∧ ∀ v H', (ItzS K x b).yld i H v H' → g v σ H' fun σ2 H2 => tb { D with nx := N, ct := N, bk := D.nx } σ2 H2) := by
  refine ⟨fun i m σ H => m = ys.length - i ∧ i ≤ ys.length ∧ Pv i σ H, ⟨ys.length, rfl, Nat.zero_le _, h0⟩, ?_⟩
  rintro i m σ H ⟨rfl, hi, p⟩
  have qy := hq i σ H p
  by_cases hlt : i < ys.length
  · have hy : ys[i]? = some ys[i] := List.getElem?_eq_getElem hlt
    have hx : x.cps[i]? = some (x.cps[i]'(by omega)) := Array.getElem?_eq_getElem _
    refine .inr ⟨⟨ys, _, _, qy, hx, hy, by omega, hi⟩, Pv (i + 1), fun σ' H' p' => ⟨ys.length - (i + 1), by omega, rfl, hlt, p'⟩, fun v H' y => ?_⟩
    obtain ⟨T, c, y', rfl, hT, rfl, f1, f2⟩ := y
    exact hs i c y' T σ H f1 (f2 ys qy) p hT
  · have e : i = ys.length := by omega
    subst e
    exact .inl ⟨⟨ys, qy, by omega, Nat.le_refl _, .inr rfl⟩, hd σ H p⟩
end L2
namespace L2
namespace TS
open PySem PySem.Spec PyProof.Rows
/-! ### the set of the texts of a tuple: how many they are -/
/-- how many different ones are among the first i -/
def dist (xs : List Str) : Nat → Nat
  | 0 => 0
  | i + 1 => if (xs.take i).any (· == xs.getD i Str.empty) = true then dist xs i else dist xs i + 1
theorem dist_succ (xs : List Str) (i : Nat) : (if (xs.take i).any (· == xs.getD i Str.empty) = true then dist xs i else dist xs i + 1) = dist xs (i + 1) := rfl
theorem dist_le (xs : List Str) : ∀ i, dist xs i ≤ i
  | 0 => Nat.le_refl _
  | i + 1 => by
    unfold dist
    have := dist_le xs i
    split <;> omega
theorem take_one {α : Type} : ∀ {l : List α} {i : Nat} {x : α}, l[i]? = some x → l.take (i + 1) = l.take i ++ [x]
  | [], i, x, h => by simp at h
  | a :: l, 0, x, h => by
    have e : a = x := Option.some.inj h
    subst e
    rfl
  | a :: l, i + 1, x, h => by
    have ih := take_one (l := l) (i := i) (x := x) h
    show a :: l.take (i + 1) = a :: l.take i ++ [x]
    rw [ih]
    rfl
section
variable {prog : Program} {w : World} {A : Around} {R : Result → Shared → Prop} {I : Addr} {fp wr : List Addr} {G : Array GenState → Array GenState → Prop} {n : Nat} {P : Nat → Value → Prop} {St : Nat → Shared → Prop}
theorem loop_strs (W : WalksS prog w A.in1 I fp wr G n P St) (S : Addr) (hSf : S ∉ fp) (xs : List Str) (hsz : xs.length = n) (hn1 : n < 1000)
    (hval : ∀ i v, P i v → ∃ t, v = .str (xs.getD i Str.empty) t) :
    ∀ (k i : Nat) (s : Shared), n - i = k → i ≤ n → St i s →
      s.heap.SetOf (PySem.strKind prog w) S (fun k' => (xs.take i).any (· == k')) (dist xs i) →
      (∀ s', Moved (S :: wr) G s s' → s'.heap.SetOf (PySem.strKind prog w) S (fun k' => (xs.take n).any (· == k')) (dist xs n) → R (.ok (.ret .none)) s') →
      codeAny (model prog w) A (.builtin "set.update.loop" ⟨[.ref S, .ref I], []⟩) R s := by
  have hSw : S ∉ wr := fun h => hSf (W.sub _ h)
  have hsub : ∀ b ∈ wr, b ∈ S :: wr := fun b hb => List.mem_cons_of_mem _ hb
  intro k
  induction k with
  | zero =>
    intro i s hk hi hst hS hR
    have hin : i = n := by omega
    subst hin
    refine codeAny_builtin PyProof.Rows.F.entry_set_update_loop ?_
    rw [Around.under_plainId PyProof.Rows.F.plain_set_update_loop _]
    show wpAny _ A.in1 (pyNext (.ref I) >>= _) _ _ s
    refine wpAny_bind (W.done s _ _ hst fun s' hm => ?_)
    show wpAny _ A.in1 (ret Value.none) _ _ s'
    exact wpAny_pure (hR s' (hm.mono hsub) (by
      obtain ⟨o, es, ep, t, ho, rest⟩ := hS
      exact ⟨o, es, ep, t, hm.heap S _ hSw ho, rest⟩))
  | succ k ih =>
    intro i s hk hi hst hS hR
    have hlt : i < n := by omega
    have hdi := dist_le xs i
    refine codeAny_builtin PyProof.Rows.F.entry_set_update_loop ?_
    rw [Around.under_plainId PyProof.Rows.F.plain_set_update_loop _]
    show wpAny _ A.in1 (pyNext (.ref I) >>= _) _ _ s
    refine wpAny_bind (W.item i s _ _ hlt hst fun v s' hP hst' hm => ?_)
    obtain ⟨t, rfl⟩ := hval i v hP
    have hS' : s'.heap.SetOf (PySem.strKind prog w) S (fun k' => (xs.take i).any (· == k')) (dist xs i) := by
      obtain ⟨o, es, ep, tb, ho, rest⟩ := hS
      exact ⟨o, es, ep, tb, hm.heap S _ hSw ho, rest⟩
    show wpAny _ A.in1 (holding [Value.str (xs.getD i Str.empty) t] (setAdd S (.str (xs.getD i Str.empty) t)) >>= _) _ _ s'
    refine wpAny_bind (wpAny_holding ?_)
    unfold setAdd
    refine wpAny_holding ?_
    refine wpAny_bind ((PySem.strKind prog w).pyHash (k := xs.getD i Str.empty) (strKind_is _ _ _ _) ?_)
    refine wpAny_setAddHashed_of (knd := PySem.strKind prog w) (s := { s' with toks := s'.toks + 1 }) (strKind_is _ _ _ _) rfl hS' (by unfold scanBound; omega) fun h' hsb hS2 => ?_
    have hSi : h'.SetOf (PySem.strKind prog w) S (fun k' => (xs.take (i + 1)).any (· == k')) (dist xs (i + 1)) := by
      have hix : xs[i]? = some (xs.getD i Str.empty) := by
        rw [List.getD_eq_getElem?_getD, List.getElem?_eq_getElem (by omega)]
        rfl
      refine PyProof.Rows.SetOf_congr hS2 (fun k' => ?_) (dist_succ xs i)
      rw [take_one hix, List.any_append]
      congr 1
      by_cases e : k' = xs.getD i Str.empty
      · rw [e]; simp
      · have hb : (xs.getD i Str.empty == k') = false := by simpa [beq_iff_eq] using (fun h' : xs.getD i Str.empty = k' => e h'.symm)
        simp only [List.any_cons, List.any_nil, hb, Bool.or_false]
        exact decide_eq_false e
    refine wpAny_pure ⟨plainId_quiet PyProof.Rows.F.plain_set_update_loop _, ih (i + 1) _ (by omega) hlt (W.frame _ s' _ _ hst' (Nat.le_succ _) fun b hb o e => ?_) hSi fun s'' hm'' hS'' => ?_⟩
    · rw [hsb.2 b (fun h : b = S => hSf (by rw [← h]; exact hb))]; exact e
    · refine hR s'' (Moved.trans W.gtrans ((hm.mono hsub).then_heap (Nat.le_succ _) fun b o hb e => ?_) hm'') hS''
      rw [hsb.2 b (fun h : b = S => hb (by rw [h]; exact List.mem_cons_self))]; exact e
end
section
variable {prog : Program} {w : World} {A : Around} {E : Value → Shared → Prop} {s : Shared}
theorem call_set_strs {l : Addr} {items : Array Value} {xs : List Str} {Q : Value → Shared → Prop}
    (hh : A.handled = none) (hl : s.heap.IsTuple l items) (hi : PyProof.Rows.StrsAre items.toList xs) (hn1 : xs.length < 1000)
    (h : ∀ (h' : Heap) (tk : Nat), h'.SetOf (PySem.strKind prog w) s.heap.objs.size (fun k' => (xs.take items.size).any (· == k')) (dist xs items.size) →
      (∀ b o, b < s.heap.objs.size → s.heap.get? b = some o → h'.get? b = some o) → Q (.ref s.heap.objs.size) { s with heap := h', toks := tk }) :
    wpAny (model prog w) A (call (.type "set") [.ref l]) Q E s := by
  obtain ⟨c, tl, hmro⟩ := PySem.F.called_set.mro
  have hmade := PySem.F.called_set.made
  have hsub := PySem.F.called_set.sub
  refine wpAny_call (codeAny_of_tree ?_)
  show wpAny _ _ (callAny (.type "set") _) _ _ _
  refine wpAny_pure ⟨Code.quiet_builtin _ (by decide +kernel), codeAny_builtin PySem.F.entry_type_call ?_⟩
  rw [Around.under_plain (weight_type_call_type "set" [.ref l] []) rfl]
  have h1 := PySem.F.called_set.notType
  have h2 := PySem.F.called_set.canCreate
  have hct := PySem.F.typeCall_set_1 (.ref l)
  repeat (any_goals (first | assumption | wp_step))

  refine codeAny_mono (code_set_new_1 (.ref l) (E := E) (Q₁ := fun obj s₁ => ∃ led : Bool, obj = .ref s.heap.objs.size ∧ s₁ = { s with heap := s.heap.push { cls := .type "set", dict := none, data := .set #[] 0 (.fresh 0 0 led) } }) fun led => ⟨led, rfl, rfl⟩) fun r s₁ hr => ?_
  cases r with
  | error e => exact hr
  | ok fl =>
    cases fl with
    | ret obj =>
      obtain ⟨led, rfl, rfl⟩ := hr
      have hS : (s.heap.push { cls := .type "set", dict := none, data := .set #[] 0 (.fresh 0 0 led) }).get? s.heap.objs.size = some { cls := .type "set", dict := none, data := .set #[] 0 (.fresh 0 0 led) } := Heap.get?_push_size _ rfl
      have hT : Shared.TypeIs { s with heap := s.heap.push { cls := .type "set", dict := none, data := .set #[] 0 (.fresh 0 0 led) } } (.ref s.heap.objs.size) "set" := ⟨_, hS, rfl⟩
      have hli := PySem.F.called_set.init.lookup
      have hbi := PySem.F.called_set.init.bind (.ref s.heap.objs.size)
      repeat (any_goals (first | assumption | wp_step))

      refine codeAny_mono (codeAny_call_builtin (R := wants (fun r s₂ => r = .none ∧ ∃ h' tk, s₂ = { s with heap := h', toks := tk } ∧
          h'.SetOf (PySem.strKind prog w) s.heap.objs.size (fun k' => (xs.take items.size).any (· == k')) (dist xs items.size) ∧
          (∀ b o, b < s.heap.objs.size → s.heap.get? b = some o → h'.get? b = some o)) E) PySem.F.called_set.init.plain PySem.F.entry_set_init (check_set_init_1 hT ?_)) fun r₂ s₂ hr₂ => ?_
      · obtain ⟨ol, hol, hcl, nl, hdl⟩ := hl
        obtain ⟨ocls, odict, odata, oslots⟩ := ol
        simp only at hcl hdl
        subst hcl; subst hdl
        have hol' : (s.heap.push { cls := .type "set", dict := none, data := .set #[] 0 (.fresh 0 0 led) }).get? l = some { cls := .type "tuple", dict := odict, data := .seq items nl, slots := oslots } := Heap.get?_push_of_some _ hol
        have hsls := PySem.F.sub_tuple_set
        have hslf := PySem.F.sub_tuple_frozenset
        have hne : (Value.type "tuple" == Value.type "dict") = false := by decide
        have hl1 : (s.heap.push { cls := .type "set", dict := none, data := .set #[] 0 (.fresh 0 0 led) }).IsTuple l items := ⟨_, hol', rfl, nl, rfl⟩
        unfold Builtin.«set.__init__» noKeywords Builtin.Frozenset.updateFrom
        generalize hPI : pyIter = PI
        wp_walk
        subst hPI

        refine wpAny_pyIter_tuple hl1 ?_
        refine wpAny_bind (wpAny_runValue ?_)
        have hlS : l < s.heap.objs.size := Heap.lt_size hol
        have hh3 : A.in1.in1.in1.handled = none := by simp [hh]
        have hneI : l ≠ (s.heap.push { cls := .type "set", dict := none, data := .set #[] 0 (.fresh 0 0 led) }).objs.size := by
          rw [Heap.size_push]; exact Nat.ne_of_lt (Nat.lt_succ_of_lt hlS)
        have hSf : s.heap.objs.size ∉ [(s.heap.push { cls := .type "set", dict := none, data := .set #[] 0 (.fresh 0 0 led) }).objs.size, l] := by
          rw [Heap.size_push]; simp only [List.mem_cons, List.mem_singleton, List.not_mem_nil, or_false, not_or]
          exact ⟨Nat.ne_of_lt (Nat.lt_succ_self _), Nat.ne_of_gt hlS⟩
        have hsz : xs.length = items.size := by rw [← StrsAre.len_eq hi, Array.length_toList]
        have hval : ∀ (i : Nat) (v : Value), items[i]? = some v → ∃ t, v = .str (xs.getD i Str.empty) t := fun i v hv => SS.strs_at hi i v (by rw [Array.getElem?_toList]; exact hv)
        refine loop_strs ((Walks.tuple hh3 _ l hneI items).toS) s.heap.objs.size
          hSf xs hsz (by rw [← hsz]; exact hn1) hval (items.size - 0) 0 _ (by omega) (Nat.zero_le _)
          ⟨⟨_, Heap.get?_push_size _ rfl, rfl, rfl⟩, (hl1.push _)⟩ ?hS0 ?hR
        case hS0 =>
          have hget : ((s.heap.push { cls := .type "set", dict := none, data := .set #[] 0 (.fresh 0 0 led) }).push { cls := .type "tuple_iterator", data := .fields #[.ref l, .int 0 0] }).get? s.heap.objs.size
              = some { cls := .type "set", dict := none, data := .set #[] 0 (.fresh 0 0 led) } := Heap.get?_push_of_some _ hS
          exact PyProof.Rows.SetOf_congr ((PyProof.Rows.setObjOf_fresh (knd := PySem.strKind prog w) led).setOf hget (by unfold scanBound; omega)) (fun _ => rfl) rfl
        case hR =>
          intro s' hm hS'
          obtain ⟨h', g', d', tk', os'⟩ := s'
          have eg : g' = s.gens := hm.gens
          have ed : d' = s.drawn := hm.drawn
          have eo : os' = s.os := hm.os
          subst eg; subst ed; subst eo
          show wpAny _ _ _ _ _ _
          refine wpAny_pure ?_
          show wpAny _ _ (ret Value.none) _ _ _
          refine wpAny_pure ⟨rfl, h', tk', rfl, hS', fun b o hb e => ?_⟩
          have hb1 : b ≠ s.heap.objs.size := Nat.ne_of_lt hb
          have hb2 : b ≠ (s.heap.push { cls := .type "set", dict := none, data := .set #[] 0 (.fresh 0 0 led) }).objs.size := by
            rw [Heap.size_push]; exact Nat.ne_of_lt (Nat.lt_succ_of_lt hb)
          exact hm.heap b o (by simp only [List.mem_cons, List.mem_singleton, List.not_mem_nil, or_false, not_or]; exact ⟨hb1, hb2⟩) (Heap.get?_push_of_some _ (Heap.get?_push_of_some _ e))

      · cases r₂ with
        | error e => exact hr₂
        | ok fl₂ =>
          cases fl₂ with
          | ret r =>
            obtain ⟨rfl, h', tk, rfl, hS', hk'⟩ := hr₂
            repeat (any_goals (first | assumption | wp_step))
            exact h _ _ hS' hk'
          | _ => exact hr₂.elim
    | _ => exact hr.elim

end
/-- all are different exactly if none is left out -/
theorem dist_full (xs : List Str) : ∀ i, i ≤ xs.length → (dist xs i = i ↔ (xs.take i).Nodup)
  | 0, _ => by simp [dist]
  | i + 1, h => by
    have ih := dist_full xs i (by omega)
    have le := dist_le xs i
    have hix : xs[i]? = some (xs.getD i Str.empty) := by
      rw [List.getD_eq_getElem?_getD, List.getElem?_eq_getElem (by omega)]
      rfl
    rw [take_one hix, List.nodup_append]
    unfold dist
    by_cases e : (xs.take i).any (· == xs.getD i Str.empty) = true
    · rw [if_pos e]
      constructor
      · intro q; omega
      · rintro ⟨_, _, q⟩
        obtain ⟨y, hy, ey⟩ := List.any_eq_true.mp e
        exact absurd (beq_iff_eq.mp ey) (q y hy _ (by simp))
    · rw [if_neg e]
      constructor
      · intro q
        refine ⟨ih.mp (by omega), by simp, fun y hy z hz => ?_⟩
        have hz' : z = xs.getD i Str.empty := by simpa using hz
        rw [hz']
        intro ey
        exact e (List.any_eq_true.mpr ⟨y, hy, by simp [ey]⟩)
      · rintro ⟨q, _, _⟩
        rw [ih.mpr q]
end TS
open PySem in
/-- len(set(t)), t a tuple of texts -/
def tLenSetS (K : PySem.W.Frag) (ta : TE) : TE := fun σ H Q => ta σ H fun x H1 => ∃ (l : Addr) (xs : List Str), x = .ref l ∧ SqT K H1 l (xs.map V.str) ∧ xs.length < 1000 ∧ Q (.int (TS.dist xs xs.length : Nat)) H1
open PySem PySem.Spec PyProof.Rows in
theorem pe_lenSetS {X : Cx} {a : Expr} {ta : TE} {p p2 q pos : Pos} (hg : Gl X "len") (hm : X.mg "len" = none) (hg2 : Gl X "set") (hm2 : X.mg "set" = none) (ha : PE X a ta) (hc : X.calm = true := by rfl)
    (na : starEach [a] X.env = (false, eval a X.env) :: starEach [] X.env := by rfl) : PE X (.Call (.Name "len" p) [.Call (.Name "set" p2) [a] [] q] [] pos) (tLenSetS X.K ta) := by
  refine ⟨fun pins s σ H Q I h => ?_⟩
  refine Call_ (ld_blt I hg hm PySem.boot_len ?_)
  refine PyProof.Rows.callWith_builtin1 (PyProof.Rows.args_cons ?_ rfl) rfl rfl
  refine Call_ (ld_blt I hg2 hm2 PyProof.Rows.boot_set ?_)
  refine PyProof.Rows.callWith_type1 (PyProof.Rows.args_cons (thn (ha.run pins s σ H _ I h) fun v s1 ⟨x, H1, I1, r1, q1⟩ => PyProof.Rows.args_nil ?_) na) na rfl
  obtain ⟨l, xs, rfl, hq, h1, q1⟩ := q1
  cases r1
  obtain ⟨its, r, pl, hz⟩ := I1.tuple hq
  have hl : its.toArray.size = xs.length := by rw [List.size_toArray, ← r.length, List.length_map]
  refine TS.call_set_strs (I1.ok.hd hc) pl (by simpa using strsAre_of r) h1 fun h' tk hS hk => ?_
  refine PyProof.Rows.args_nil ?_
  rw [hl] at hS
  obtain ⟨o, es, ep, t, ho, hex, hd, _, _, _, hf, hn⟩ := hS
  have I2 : Inv X pins σ H1 { s1 with heap := h', toks := tk } := I1.kept fun b o e => hk b o (Heap.lt_size e) e
  have hdl := TS.dist_le xs xs.length
  exact call_len_set ho hex hd hf (by rw [hn] <;> omega) ⟨.int (TS.dist xs xs.length : Nat), H1, I2.tok _, ⟨_, by rw [hn]⟩, q1⟩
end L2
namespace L2
open PySem PySem.Spec PyProof.Rows
/-! ### a table of the written part, its keys texts -/
/-- the entries, key by key -/
def Ents (P : Params) : List DictEntry → List (Str × V) → Prop
  | [], [] => True
  | e :: r, (k, v) :: t => (∃ tk, e.key = .str k tk ∧ e.hash = PyData.keyHash P k) ∧ RelV v e.val ∧ Ents P r t
  | _, _ => False
/-- at a: the table tab -/
def WTab (K : PySem.W.Frag) (w : World) (a : Addr) (tab : List (Str × V)) : Prop :=
  ∃ es n, K.lookup a = some ⟨.type "dict", none, .dict es n, #[]⟩ ∧ Ents w.params es.toList tab ∧ (a == sysModules) = false
theorem Ents.lit {P : Params} : ∀ {es : List DictEntry} {tab : List (Str × V)}, Ents P es tab → PySem.W.KeysLit P es
  | [], [], _ => trivial
  | e :: r, (k, v) :: t, ⟨⟨tk, h1, h2⟩, _, h3⟩ => ⟨⟨k, tk, h1, h2⟩, h3.lit⟩
theorem Ents.noRef {P : Params} : ∀ {es : List DictEntry} {tab : List (Str × V)}, Ents P es tab → es.any (·.refKey) = false
  | [], [], _ => rfl
  | e :: r, (k, v) :: t, ⟨⟨tk, h1, _⟩, _, h3⟩ => by
    rw [List.any_cons, h3.noRef, Bool.or_false]
    unfold DictEntry.refKey
    rw [h1]
theorem Ents.find {P : Params} (z : Str) : ∀ {es : List DictEntry} {tab : List (Str × V)}, Ents P es tab → RelO (tab.lookup z) ((es.find? (·.key.isStr z)).map (·.val))
  | [], [], _ => trivial
  | e :: r, (k, v) :: t, ⟨⟨tk, h1, _⟩, h2, h3⟩ => by
    rw [List.find?_cons]
    by_cases q : z = k
    · have e1 : e.key.isStr z = true := by rw [h1, q]; exact (by show (k == k) = true; simp)
      have e2 : ((k, v) :: t).lookup z = some v := by rw [q]; simp [List.lookup]
      rw [e1, e2]
      exact h2
    · have e1 : e.key.isStr z = false := by
        rw [h1]
        show (k == z) = false
        simpa using fun h : k = z => q h.symm
      have e2 : ((k, v) :: t).lookup z = t.lookup z := by
        have : (z == k) = false := by simpa using q
        simp [List.lookup, this]
      rw [e1, e2]
      exact h3.find z
theorem WTab.ns {K : PySem.W.Frag} {w : World} {a : Addr} {tab : List (Str × V)} (T : WTab K w a tab) (z : Str) : ∃ r, PySem.W.nsIn K a z = some r ∧ RelO (tab.lookup z) r := by
  obtain ⟨es, n, hl, he, _⟩ := T
  have f := he.find z
  unfold PySem.W.nsIn
  rw [hl]
  show ∃ r, (match es.toList.find? (·.key.isStr z) with | some e => some (some e.val) | none => if es.toList.any (·.refKey) then none else some none) = some r ∧ _
  cases q : es.toList.find? (·.key.isStr z) with
  | some e =>
    rw [q] at f
    exact ⟨_, rfl, f⟩
  | none =>
    rw [q] at f
    exact ⟨none, by rw [he.noRef]; rfl, f⟩
/-- t[k], the key is there -/
def rIxW (K : PySem.W.Frag) (w : World) : R2 := fun x y H Q => ∃ p z tab v, x = .ref p ∧ y = .str z ∧ WTab K w p tab ∧ tab.lookup z = some v ∧ Q v H
def rNotInW (K : PySem.W.Frag) (w : World) : R2 := fun x y H Q => ∃ p z tab, x = .str z ∧ y = .ref p ∧ WTab K w p tab ∧ Q (.bl (!(tab.lookup z).isSome)) H
def rInW (K : PySem.W.Frag) (w : World) : R2 := fun x y H Q => ∃ p z tab, x = .str z ∧ y = .ref p ∧ WTab K w p tab ∧ Q (.bl (tab.lookup z).isSome) H
theorem RelO.isSome {a : Option V} {b : Option Value} (h : RelO a b) : b.isSome = a.isSome := by
  cases a <;> cases b <;> first | rfl | exact h.elim
section
variable {X : Cx}
theorem ix_wtab : IxR X (rIxW X.K X.w) := by
  intro value slice pins s σ H x y v u Q I rx ry h hs
  obtain ⟨p, z, tab, r, rfl, rfl, T, hlk, q⟩ := h
  obtain ⟨o, e, rel⟩ := T.ns z
  obtain ⟨es, n, hl, he, _⟩ := T
  rw [hlk] at rel
  cases o with
  | none => exact rel.elim
  | some u0 => exact ix_kdict value slice pins s σ H _ _ v u Q I rx ry ⟨p, z, r, rfl, rfl, ⟨es, n, u0, hl, he.lit, e, rel⟩, q⟩ hs
theorem op_notIn_wtab : OpR X (compareOp .NotIn) (rNotInW X.K X.w) := by
  intro pins s σ H x y v u Q I rx ry h
  obtain ⟨p, z, tab, rfl, rfl, T, q⟩ := h
  obtain ⟨o, e, rel⟩ := T.ns z
  obtain ⟨es, n, hl, he, lo⟩ := T
  obtain ⟨t, rfl⟩ := rx
  obtain rfl : u = Value.ref p := ry
  have hm := PySem.W.mapOf_K (prog := X.prog) (w := X.w) I.kIn hl he.lit
  refine wpAny_notIn_of (strKind_is X.prog X.w z t) lo hm ?_
  rw [PySem.W.find_K hl e, rel.isSome]
  exact ⟨.bl _, H, I.tok _, rfl, q⟩
theorem op_in_wtab : OpR X (compareOp .In) (rInW X.K X.w) := by
  intro pins s σ H x y v u Q I rx ry h
  obtain ⟨p, z, tab, rfl, rfl, T, q⟩ := h
  obtain ⟨o, e, rel⟩ := T.ns z
  obtain ⟨es, n, hl, he, lo⟩ := T
  obtain ⟨t, rfl⟩ := rx
  obtain rfl : u = Value.ref p := ry
  have hm := PySem.W.mapOf_K (prog := X.prog) (w := X.w) I.kIn hl he.lit
  refine wpAny_in_of (strKind_is X.prog X.w z t) lo hm ?_
  rw [PySem.W.find_K hl e, rel.isSome]
  exact ⟨.bl _, H, I.tok _, rfl, q⟩
end
/-! ### a method by its name, with its promise -/
def Mcal (P : Program) (w : World) (K : PySem.W.Frag) (mg : Str → Option Value) (base : Heap) (CX : CXT) (k : Nat) (C : Addr) (m : Str) (ps : List Str) (sp : Sp) : Prop :=
  ∃ (f : Addr) (fd : FuncData), Meth K C m f ∧ Binds K fd ps [] ∧ FnOk P w K mg base CX k f fd ps sp
theorem pe_mcal {X : Cx} {CX : CXT} {k : Nat} {C : Addr} {m : Str} {ps : List Str} {sp : Sp} {E : XK} {apos pos : Pos} {o e : Expr} {es : List Expr} {ta : TE} {t : TA} (ho : PE X o ta) (c : Cls X.K C) (M : Mcal X.prog X.w X.K X.mg X.base CX k C m ps sp) (hr : Room k X.A) (hx : Passes CX X E) (ha : PA X (e :: es) t)
    {pl : Sem Bool} (hc : eval (.Call (.Attribute o m apos) (e :: es) [] pos) X.env = (do
      let ov ← eval o X.env
      standAt apos.atName
      let (f, first) ← holding [ov] (getMethod ov m pl)
      callWith pos f first (backTo pos (starEach (e :: es) X.env)) (backToKw pos (keywordEach [] X.env))) := by rfl)
    (he : starEach (e :: es) X.env = (false, eval e X.env) :: starEach es X.env := by rfl) (hpl : (backTo pos (starEach es X.env)).any (·.1) = false := by rfl) :
    PE X (.Call (.Attribute o m apos) (e :: es) [] pos) (tMeth C m sp [] E ta t) := by
  obtain ⟨f, fd, h1, h2, h3⟩ := M
  exact pe_meth ho c h1 h3 hr h2 .nil hx ha he hpl hc
theorem pe_mcal0 {X : Cx} {CX : CXT} {k : Nat} {C : Addr} {m : Str} {ps : List Str} {sp : Sp} {E : XK} {apos pos : Pos} {o : Expr} {ta : TE} (ho : PE X o ta) (c : Cls X.K C) (M : Mcal X.prog X.w X.K X.mg X.base CX k C m ps sp) (hr : Room k X.A) (hx : Passes CX X E)
    {pl : Sem Bool} (hc : eval (.Call (.Attribute o m apos) [] [] pos) X.env = (do
      let ov ← eval o X.env
      standAt apos.atName
      let (f, first) ← holding [ov] (getMethod ov m pl)
      callWith pos f first (backTo pos (starEach [] X.env)) (backToKw pos (keywordEach [] X.env))) := by rfl) :
    PE X (.Call (.Attribute o m apos) [] [] pos) (tMeth C m sp [] E ta tNil) := by
  obtain ⟨f, fd, h1, h2, h3⟩ := M
  exact pe_meth0 ho c h1 h3 hr h2 .nil hx hc
end L2
namespace L2
open PySem PySem.Spec PyProof.Rows
/-! ### d.keys() as a value, and sorted of it -/
/-- the view d.keys() at p -/
def keysO (p d : Addr) : HO := .ext fun h => PySem.W.KdlKeysView h p d
theorem keysO_ok {P : Program} {w : World} {H : Hp} {h : Heap} {p d : Addr} (e : h.get? p = some { cls := .type "dict_keys", data := .fields #[.ref d] }) : ObjOk P w H h p (keysO p d) :=
  ⟨⟨_, e, rfl, rfl⟩, ⟨_, e⟩, fun h1 h2 x k => let ⟨o, ho, r⟩ := x; ⟨o, k o ho, r⟩⟩
section
variable {X : Cx}
def rKeysV : V → List V → Hp → VK → Prop := fun x xs H Q => ∃ (a : Addr) (kvs : List (Key × V)), x = .ref a ∧ xs = [] ∧ Rd H a (.dK kvs) ∧ ∀ p, H p = none → Q (.ref p) (upd H p (keysO p a))
theorem mt_keysV : MtR X "dict.keys" rKeysV := by
  intro pins s σ H x xs v us Q I rx rxs h
  obtain ⟨a, kvs, rfl, rfl, ha, q⟩ := h
  cases rx
  cases rxs
  obtain ⟨z, lo, vs, rel, dd⟩ := dk_rd I.hok ha
  have hf : H s.heap.objs.size = none := I.hok.fresh (Nat.le_refl _)
  refine call_meetsIn PySem.F.slot_dict_keys dd.typeIs PySem.F.entry_dict_keys (PySem.F.args_dict_keys_1 _) (PySem.W.kdl_meets_keys (mixKind X.prog X.w) a lo) ⟨⟨vs, dd⟩, ?_⟩
  exact ⟨.ref s.heap.objs.size, upd H s.heap.objs.size (keysO s.heap.objs.size a), I.laid (t' := s.toks) (fun b u e => Heap.get?_push_of_some _ e) (Nat.le_refl _) (keysO_ok (Heap.get?_push_size _ rfl)), rfl, q _ hf⟩
/-- sorted(d.keys()), fewer than 64 keys, all texts -/
def rSortKV : List V → Hp → VK → Prop := fun xs H Q => ∃ (p a : Addr) (kvs : List (Key × V)) (ks : List Str), xs = [.ref p] ∧ H p = some (keysO p a) ∧ Rd H a (.dK kvs) ∧ kvs.map (·.1) = ks.map Sum.inr ∧ ks.length < 64 ∧
    ∀ ys q, ys.Perm ks → sortedS ys = true → H q = none → Q (.ref q) (upd H q (.lst (ys.map V.str)))
theorem call_sortedKV (hcalm : X.calm = true) : CallR X (.builtin "sorted") rSortKV := by
  intro pins s σ H xs us Q I r q
  obtain ⟨p, a, kvs, ks, rfl, hp, hd, hks, h64, q⟩ := q
  obtain ⟨u, rfl, rx⟩ := vals1 r
  cases rx
  have hview : PySem.W.KdlKeysView s.heap p a := (I.hok p _ hp).1
  obtain ⟨z, lo, vs, rel, dd⟩ := dk_rd I.hok hd
  obtain ⟨ep, hat⟩ := dd.dictAt
  have hkeys : vs.map (·.1) = ks.map Sum.inr := rel.keys.symm.trans hks
  have hl : vs.length = ks.length := by simpa using congrArg List.length hkeys
  refine Calls.call_function_entry PyProof.Rows.kind_sorted PyProof.Rows.plain_sorted PyProof.Rows.entry_sorted (PyProof.Rows.args_sorted1 _) ?_
  unfold Builtin.«sorted»
  refine wpAny_bind (m := checkCount "sorted" 1 1 _) (wpAny_pure ?_)
  refine wpAny_bind (PySem.W.kdu_collect (A := X.A.in1) (PySem.W.kdl_keys (knd := mixKind X.prog X.w) (r := p) (d := a) (kvs := vs) (ep := ep)) (I.ok.hd hcalm) ⟨hview, hat⟩ (by rw [hl, sizeLine_eq]; omega) fun h' tk acc hk hacc => ?_)
  have hal : acc.toList.length = ks.length := by rw [Array.length_toList, hacc.1, hl]
  have hS : StrsAre acc.toList ks := strs_at hal fun j v e => by
    obtain ⟨k, x, e1, e2⟩ := hacc.2 j v (by rw [← Array.getElem?_toList]; exact e)
    have e3 : (vs.map (·.1))[j]? = some k := by rw [List.getElem?_map, e1]; rfl
    rw [hkeys, List.getElem?_map] at e3
    cases e4 : ks[j]? with
    | none => rw [e4] at e3; cases e3
    | some y =>
      rw [e4] at e3
      obtain rfl : Sum.inr y = k := Option.some.inj e3
      obtain ⟨t, ev⟩ := Value.isStrOf_shape (x := y) (v := v) e2
      exact ⟨y, t, rfl, ev⟩
  have I1 : Inv X pins σ H { s with heap := h', toks := tk } := I.kept hk
  refine wpAny_bind (wpAny_newList ?_ (by rw [hal, sizeLine_eq]; omega))
  have hoL : (h'.push (seqObj "list" acc.toList.toArray 0)).get? h'.objs.size = some (seqObj "list" acc.toList.toArray 0) := Heap.get?_push_size _ rfl
  show wpAny _ _ _ _ _ { s with heap := h'.push (seqObj "list" acc.toList.toArray 0), toks := tk }
  refine wpAny_bind (wpAny_holding (wpAny_call_entry PyProof.Rows.slot_list_sort ⟨_, hoL, rfl⟩ PyProof.Rows.entry_list_sort
    (list_sort_treeK strKind_oneLt (s := { s with heap := h'.push (seqObj "list" acc.toList.toArray 0), toks := tk }) hoL hS.keysOf (fun v₁ v₂ rest e => keyKind_strs (by rw [← e]; exact hS)) (by rw [hal]; exact h64) fun st' hp' hs => ⟨_, rfl, ?_⟩)
    (PyProof.Rows.args_list_sort _)))
  obtain ⟨ys, g1, g2, g3⟩ := sorted_out_str hS hp' hs
  obtain ⟨e', he'⟩ := PyProof.Rows.sortedHeap_at (vs := acc.toList) (out := (arrOf st').map (·.2)) hoL
  have hlen : (ys.map V.str).length ≤ sizeLine := by
    rw [List.length_map, g2.length_eq, sizeLine_eq]
    omega
  refine wpAny_pure ⟨_, rfl, .ref h'.objs.size, upd H h'.objs.size (.lst (ys.map V.str)), I1.laid (t' := tk) (fun b u e => ?_) (Nat.le_refl _)
    (show ObjOk X.prog X.w _ _ _ (.lst (ys.map V.str)) from ⟨hlen, ((arrOf st').map (·.2)).toList, e', vals_of_strs g1, by rw [Array.toArray_toList]; exact he'⟩), rfl, q ys _ g2 g3 (I1.hok.fresh (Nat.le_refl _))⟩
  have hb : b < h'.objs.size := Heap.lt_size e
  rw [PyProof.Rows.sortedHeap_old (Nat.ne_of_lt hb) (by rw [size_push']; exact Nat.lt_succ_of_lt hb)]
  exact Heap.get?_push_of_some _ e
end
/-- a dict comprehension over what is walked -/
theorem dc_it {J : It} {n : Nat} {G : Hp → Prop} {Y : Nat → Hp → V → Hp → Prop} (w : Walk J n G Y) {g : TG} {tt : TT} {tk tv : TE} {vs : List Nat} {σ : L2.St} {H1 : Hp} {D : Addr} {Qd : Hp → Prop} (Pv : Nat → Hp → Prop) (h0 : Pv 0 (upd H1 D (.dK []))) (hG : ∀ i H, i ≤ n → Pv i H → G H)
    (hs : ∀ i x H H', i < n → Pv i H → Y i H x H' → g x (wipe σ vs) H' fun σ2 H2 => wipe σ2 vs = wipe σ vs ∧ tt σ2 H2 fun b H3 =>
      if b = true then tk σ2 H3 fun y H4 => tv σ2 H4 fun z H5 => ∃ kvs k, y = kV k ∧ H5 D = some (.dK kvs) ∧ kvs.length < sizeLine ∧ Pv (i + 1) (upd H5 D (.dK (putK kvs k z))) else Pv (i + 1) H3) (hd : ∀ H, Pv n H → Qd H) :
    ∃ W : Nat → Nat → Hp → Prop, (∃ m, W 0 m (upd H1 D (.dK []))) ∧ ∀ i m H, W i m H →
      (J.stop i H ∧ Qd H) ∨ (J.go i H ∧ ∃ Nx : Hp → Prop, (∀ H', Nx H' → ∃ m', m' < m ∧ W (i + 1) m' H') ∧ ∀ x H', J.yld i H x H' → g x (wipe σ vs) H' fun σ2 H2 => wipe σ2 vs = wipe σ vs ∧ tt σ2 H2 fun b H3 =>
        if b = true then tk σ2 H3 fun y H4 => tv σ2 H4 fun z H5 => ∃ kvs k, y = kV k ∧ H5 D = some (.dK kvs) ∧ kvs.length < sizeLine ∧ Nx (upd H5 D (.dK (putK kvs k z))) else Nx H3) := by
  refine ⟨fun i m H => m = n - i ∧ i ≤ n ∧ Pv i H, ⟨n, by simp, Nat.zero_le _, h0⟩, ?_⟩
  rintro i m H ⟨rfl, hi, p⟩
  have q := hG i H hi p
  by_cases hlt : i < n
  · exact .inr ⟨w.goes i H hlt q, Pv (i + 1), fun H' p' => ⟨n - (i + 1), by omega, rfl, hlt, p'⟩, fun x H' y => hs i x H H' hlt p (w.yields i H x H' hlt q y)⟩
  · have e : i = n := by omega
    subst e
    exact .inl ⟨w.stops H q, hd H p⟩
end L2
namespace Op
open PySem L2
abbrev PP : Program := PySem.Challenge.pw_openruns_k04_parts_in_order
def top (i : Nat) : Stmt := PySem.Challenge.pw_openruns_k04_parts_in_order.main.body.getD i (.Pass ⟨0, 0, 0, 0⟩)
abbrev s__wall : Stmt := top 0
abbrev s_InvalidProgram___init__ : Stmt := inClass (top 4) 0
abbrev s_is_integer : Stmt := top 14
abbrev s_is_word : Stmt := top 15
abbrev s_are_words : Stmt := top 16
abbrev s_inner_lists : Stmt := top 17
abbrev s_with_lists : Stmt := top 18
abbrev s_copy_row : Stmt := top 19
abbrev s_copy_rows : Stmt := top 20
abbrev s_checked_asks : Stmt := top 21
abbrev s_is_box : Stmt := top 22
abbrev s_checked_signals : Stmt := top 23
abbrev s_checked_inputs : Stmt := top 24
abbrev s_RowCheck___init__ : Stmt := inClass (top 25) 0
abbrev s_RowCheck_check : Stmt := inClass (top 25) 1
abbrev s_RowCheck_check_sizes : Stmt := inClass (top 25) 2
abbrev s_RowCheck_check_list : Stmt := inClass (top 25) 3
abbrev s_RowCheck_fits : Stmt := inClass (top 25) 4
abbrev s_RowCheck_id_fits : Stmt := inClass (top 25) 5
abbrev s_RowCheck_part_fits : Stmt := inClass (top 25) 6
abbrev s_RowCheck_collect : Stmt := inClass (top 25) 7
abbrev s_is_branches : Stmt := top 26
abbrev s_Program___init__ : Stmt := inClass (top 28) 0
abbrev s_Program_add_rows : Stmt := inClass (top 28) 1
abbrev s_Program___len__ : Stmt := inClass (top 28) 2
abbrev s_Program___eq__ : Stmt := inClass (top 28) 3
abbrev s_Program_rows : Stmt := inClass (top 28) 4
abbrev s_Program_asks : Stmt := inClass (top 28) 5
abbrev s_Program_signals : Stmt := inClass (top 28) 6
abbrev s_Program_inputs : Stmt := inClass (top 28) 7
abbrev s_Program_names : Stmt := inClass (top 28) 8
abbrev s_Program_paths : Stmt := inClass (top 28) 9
abbrev s_Program_row_at : Stmt := inClass (top 28) 10
abbrev s_Program_with_rows : Stmt := inClass (top 28) 11
abbrev s__law_bag : Stmt := top 30
abbrev s__law_draw : Stmt := top 31
abbrev s__law_one : Stmt := top 32
abbrev s__law_words : Stmt := top 33
abbrev s__law_same : Stmt := top 34
abbrev s__law_wrong_asks : Stmt := top 35
abbrev s__law_wrong_signals : Stmt := top 36
abbrev s__law_all_rows : Stmt := top 37
abbrev s__law_fault : Stmt := top 38
abbrev s_law : Stmt := top 39
end Op
namespace L2
open PySem PySem.Spec PyProof.Rows
/-! ### a def by its name, with its promise -/
def Cal (P : Program) (w : World) (K : PySem.W.Frag) (mg : Str → Option Value) (base : Heap) (CX : CXT) (k : Nat) (x : Str) (ps : List Str) (sp : Sp) : Prop :=
  ∃ (f : Addr) (fd : FuncData), mg x = some (.ref f) ∧ PySem.W.keepIn K (.ref f) = true ∧ Binds K fd ps [] ∧ FnOk P w K mg base CX k f fd ps sp
theorem pe_cal {X : Cx} {CX : CXT} {k : Nat} {x : Str} {ps : List Str} {sp : Sp} {E : XK} {p pos : Pos} {e : Expr} {es : List Expr} {t : TA} (c : Cal X.prog X.w X.K X.mg X.base CX k x ps sp) (hr : Room k X.A) (hg : Gl X x) (hx : Passes CX X E) (ha : PA X (e :: es) t)
    (hdb : (x == ("__debug__" : Str)) = false := by decide) (he : starEach (e :: es) X.env = (false, eval e X.env) :: starEach es X.env := by rfl) (hpl : (backTo pos (starEach es X.env)).any (·.1) = false := by rfl) :
    PE X (.Call (.Name x p) (e :: es) [] pos) (tCall sp [] E t) := by
  obtain ⟨f, fd, h1, h2, h3, h4⟩ := c
  exact pe_call h4 hr hg h1 h2 h3 .nil hx ha hdb he hpl
/-! ### data -/
theorem SqL.mono {K : PySem.W.Frag} {H H' : Hp} {a : Addr} {xs : List V} (h : SqL K H a xs) (s : Same H H') : SqL K H' a xs := Evl.ex_l s h
theorem SqT.mono {K : PySem.W.Frag} {H H' : Hp} {a : Addr} {xs : List V} (h : SqT K H a xs) (s : Same H H') : SqT K H' a xs := Evl.ex_t s h
mutual
theorem Dp.mono {K : PySem.W.Frag} {H H' : Hp} (s : Same H H') : ∀ {v : V} {d : PyData}, Dp K H v d → Dp K H' v d
  | _, _, .non => .non
  | _, _, .bl b => .bl b
  | _, _, .int i => .int i
  | _, _, .str x => .str x
  | _, _, .lst h a => .lst (h.mono s) (DpAll.mono s a)
  | _, _, .tup h a => .tup (h.mono s) (DpAll.mono s a)
theorem DpAll.mono {K : PySem.W.Frag} {H H' : Hp} (s : Same H H') : ∀ {vs : List V} {ds : List PyData}, DpAll K H vs ds → DpAll K H' vs ds
  | _, _, .nil => .nil
  | _, _, .cons h a => .cons (Dp.mono s h) (DpAll.mono s a)
end
theorem DpAll.len {K : PySem.W.Frag} {H : Hp} : ∀ {vs : List V} {ds : List PyData}, DpAll K H vs ds → vs.length = ds.length
  | _, _, .nil => rfl
  | _, _, .cons _ a => congrArg Nat.succ a.len
theorem DpAll.get {K : PySem.W.Frag} {H : Hp} : ∀ {vs : List V} {ds : List PyData} {i : Nat} {v : V}, DpAll K H vs ds → vs[i]? = some v → ∃ d, ds[i]? = some d ∧ Dp K H v d
  | _, _, i, _, .nil, h => by simp at h
  | _, _, 0, v, .cons (d := d) h a, e => by
    have e' := Option.some.inj e
    subst e'
    exact ⟨d, rfl, h⟩
  | _, _, i + 1, v, .cons h a, e => a.get (i := i) e
theorem DpAll.drop {K : PySem.W.Frag} {H : Hp} : ∀ {vs : List V} {ds : List PyData} (n : Nat), DpAll K H vs ds → DpAll K H (vs.drop n) (ds.drop n)
  | _, _, 0, h => h
  | _, _, _ + 1, .nil => .nil
  | _, _, n + 1, .cons _ a => DpAll.drop n a
/-- the name of a datum's class -/
def tyN : PyData → String
  | .none => "NoneType"
  | .bool _ => "bool"
  | .int _ => "int"
  | .str _ => "str"
  | .list _ => "list"
  | .tuple _ => "tuple"
  | .dict _ => "dict"
theorem ty_dp {K : PySem.W.Frag} {H : Hp} {v : V} {d : PyData} (h : Dp K H v d) : TyX K H v (.type (tyN d)) := by
  cases h with
  | non => exact .base .non
  | bl b => exact .base (.bl b)
  | int i => exact .base (.int i)
  | str x => exact .base (.str x)
  | lst hs _ => 
    rcases hs with (hs | ⟨o, hs⟩) | hs
    · exact .base (.lst hs)
    · exact .base (.frz hs)
    · obtain ⟨o, its, n, h1, h2, _⟩ := hs
      exact .kList h1 h2
  | tup hs _ => 
    rcases hs with (hs | ⟨o, hs⟩) | hs
    · exact .base (.tup hs)
    · exact .fTuple hs
    · obtain ⟨o, its, n, h1, h2, _⟩ := hs
      exact .kTuple h1 h2
end L2
namespace Op
open PySem L2 PyProof.Rows
theorem ifT {c : Bool} {A B : Prop} (hc : c = true) (h : A) : if c = true then A else B := by
  rw [if_pos hc]
  exact h
theorem ifF {c : Bool} {A B : Prop} (hc : c = false) (h : B) : if c = true then A else B := by
  rw [hc, if_neg Bool.false_ne_true]
  exact h
/-! ### the mirror: words -/
def letters : Str := "abcdefghijklmnopqrstuvwxyz"
def isWordS (x : Str) : Bool := decide (1 ≤ x.length ∧ x.length ≤ 8) && x.cps.toList.all fun c => decide (c ∈ letters.cps.toList)
def isWord : PyData → Bool
  | .str x => isWordS x
  | _ => false
def isStr : PyData → Bool
  | .str _ => true
  | _ => false
def isList : PyData → Bool
  | .list _ => true
  | _ => false
def isTup : PyData → Bool
  | .tuple _ => true
  | _ => false
def isInt : PyData → Bool
  | .int _ => true
  | _ => false
def strOf : PyData → Str
  | .str x => x
  | _ => ""
def areWords (most : Int) : PyData → Bool
  | .tuple ds => decide (1 ≤ ds.length ∧ (ds.length : Int) ≤ most) && (ds.all isWord && decide ((ds.map strOf).Nodup))
  | _ => false
def isBranches : PyData → Bool
  | .tuple ds => decide (2 ≤ ds.length ∧ ds.length ≤ 3) && ds.all isList
  | _ => false
section
variable {K : PySem.W.Frag} {H : Hp}
theorem kit_str (d : PyData) : PySem.W.kitOne K (.type (tyN d)) (.type "str") = some (isStr d) := by
  cases d with
  | none => exact kit_ty (show kitB "NoneType" "str" = some false by decide +kernel)
  | bool _ => exact kit_ty (show kitB "bool" "str" = some false by decide +kernel)
  | int _ => exact kit_ty (show kitB "int" "str" = some false by decide +kernel)
  | str _ => exact kit_ty (show kitB "str" "str" = some true by decide +kernel)
  | list _ => exact kit_ty (show kitB "list" "str" = some false by decide +kernel)
  | tuple _ => exact kit_ty (show kitB "tuple" "str" = some false by decide +kernel)
  | dict _ => exact kit_ty (show kitB "dict" "str" = some false by decide +kernel)
theorem kit_list (d : PyData) : PySem.W.kitOne K (.type (tyN d)) (.type "list") = some (isList d) := by
  cases d with
  | none => exact kit_ty (show kitB "NoneType" "list" = some false by decide +kernel)
  | bool _ => exact kit_ty (show kitB "bool" "list" = some false by decide +kernel)
  | int _ => exact kit_ty (show kitB "int" "list" = some false by decide +kernel)
  | str _ => exact kit_ty (show kitB "str" "list" = some false by decide +kernel)
  | list _ => exact kit_ty (show kitB "list" "list" = some true by decide +kernel)
  | tuple _ => exact kit_ty (show kitB "tuple" "list" = some false by decide +kernel)
  | dict _ => exact kit_ty (show kitB "dict" "list" = some false by decide +kernel)
theorem kit_tuple (d : PyData) : PySem.W.kitOne K (.type (tyN d)) (.type "tuple") = some (isTup d) := by
  cases d with
  | none => exact kit_ty (show kitB "NoneType" "tuple" = some false by decide +kernel)
  | bool _ => exact kit_ty (show kitB "bool" "tuple" = some false by decide +kernel)
  | int _ => exact kit_ty (show kitB "int" "tuple" = some false by decide +kernel)
  | str _ => exact kit_ty (show kitB "str" "tuple" = some false by decide +kernel)
  | list _ => exact kit_ty (show kitB "list" "tuple" = some false by decide +kernel)
  | tuple _ => exact kit_ty (show kitB "tuple" "tuple" = some true by decide +kernel)
  | dict _ => exact kit_ty (show kitB "dict" "tuple" = some false by decide +kernel)
theorem kit_int (d : PyData) : PySem.W.kitOne K (.type (tyN d)) (.type "int") = some (match d with | .int _ => true | .bool _ => true | _ => false) := by
  cases d with
  | none => exact kit_ty (show kitB "NoneType" "int" = some false by decide +kernel)
  | bool _ => exact kit_ty (show kitB "bool" "int" = some true by decide +kernel)
  | int _ => exact kit_ty (show kitB "int" "int" = some true by decide +kernel)
  | str _ => exact kit_ty (show kitB "str" "int" = some false by decide +kernel)
  | list _ => exact kit_ty (show kitB "list" "int" = some false by decide +kernel)
  | tuple _ => exact kit_ty (show kitB "tuple" "int" = some false by decide +kernel)
  | dict _ => exact kit_ty (show kitB "dict" "int" = some false by decide +kernel)
theorem kit_bool (d : PyData) : PySem.W.kitOne K (.type (tyN d)) (.type "bool") = some (match d with | .bool _ => true | _ => false) := by
  cases d with
  | none => exact kit_ty (show kitB "NoneType" "bool" = some false by decide +kernel)
  | bool _ => exact kit_ty (show kitB "bool" "bool" = some true by decide +kernel)
  | int _ => exact kit_ty (show kitB "int" "bool" = some false by decide +kernel)
  | str _ => exact kit_ty (show kitB "str" "bool" = some false by decide +kernel)
  | list _ => exact kit_ty (show kitB "list" "bool" = some false by decide +kernel)
  | tuple _ => exact kit_ty (show kitB "tuple" "bool" = some false by decide +kernel)
  | dict _ => exact kit_ty (show kitB "dict" "bool" = some false by decide +kernel)
theorem kit_dict (d : PyData) : PySem.W.kitOne K (.type (tyN d)) (.type "dict") = some (match d with | .dict _ => true | _ => false) := by
  cases d with
  | none => exact kit_ty (show kitB "NoneType" "dict" = some false by decide +kernel)
  | bool _ => exact kit_ty (show kitB "bool" "dict" = some false by decide +kernel)
  | int _ => exact kit_ty (show kitB "int" "dict" = some false by decide +kernel)
  | str _ => exact kit_ty (show kitB "str" "dict" = some false by decide +kernel)
  | list _ => exact kit_ty (show kitB "list" "dict" = some false by decide +kernel)
  | tuple _ => exact kit_ty (show kitB "tuple" "dict" = some false by decide +kernel)
  | dict _ => exact kit_ty (show kitB "dict" "dict" = some true by decide +kernel)
end
/-- the names of the module and of the machine that are read -/
structure Txt (mg : Str → Option Value) : Prop where
  b_len : mg "len" = none
  b_int : mg "int" = none
  b_bool : mg "bool" = none
  b_str : mg "str" = none
  b_list : mg "list" = none
  b_tuple : mg "tuple" = none
  b_dict : mg "dict" = none
  b_set : mg "set" = none
  b_range : mg "range" = none
  b_zip : mg "zip" = none
  b_enumerate : mg "enumerate" = none
  b_sorted : mg "sorted" = none
  b_isinstance : mg "isinstance" = none
  g_LETTERS : ∃ t, mg "LETTERS" = some (.str letters t)
def spWord (K : PySem.W.Frag) : Sp := fun vs H Q _ => ∃ (v : V) (d : PyData), vs = [v] ∧ Dp K H v d ∧ (∀ x, d = .str x → x.length ≤ 100000) ∧ Q (.bl (isWord d)) H
section
variable {P : Program} {w : World} {K : PySem.W.Frag} {mg : Str → Option Value} {base : Heap} {H : Hp}
theorem chain_le {σ : L2.St} {H : Hp} {Q : VK} {ta tb : TE} {lo hi n : Int} (tl : TE) (h1 : ∀ Q, Q (.int lo) H → ta σ H Q) (h : ∀ Q, Q (.int n) H → tl σ H Q) (h2 : ∀ Q, Q (.int hi) H → tb σ H Q) (q : Q (.bl (decide (lo ≤ n ∧ n ≤ hi))) H) :
    tChain (rI0 fun i j => .bl (decide (i ≤ j))) (rI0 fun i j => .bl (decide (i ≤ j))) ta tl tb σ H Q := by
  refine h1 _ (h _ ⟨_, _, rfl, rfl, _, rfl, ?_⟩)
  by_cases c : lo ≤ n
  · refine ifT (decide_eq_true c) (h2 _ ⟨_, _, rfl, rfl, ?_⟩)
    have e : decide (n ≤ hi) = decide (lo ≤ n ∧ n ≤ hi) := by simp [c]
    show Q (.bl (decide (n ≤ hi))) H
    rw [e]
    exact q
  · refine ifF (decide_eq_false c) ?_
    have e : false = decide (lo ≤ n ∧ n ≤ hi) := by simp [c]
    rw [e]
    exact q
theorem sc_is_word : FnScope ["value", "letter"] ["value"] (defScope s_is_word) := ⟨rfl, rfl, rfl, by decide +kernel, rfl, by decide +kernel, by decide +kernel⟩
theorem ok_is_word {f : Addr} {fd : FuncData} (F : Fun K "is_word" "is_word" s_is_word f fd) (T : Txt mg) : FnOk P w K mg base CX0 1 f fd ["value"] (spWord K) := by
  refine F.ok sc_is_word (fun vs H Q E h => ?_) (fun cdv A outer s H vs Q E hr h => ?_)
  · obtain ⟨v, d, rfl, _⟩ := h
    rfl
  · obtain ⟨v, d, rfl, hd, hl, k⟩ := h
    obtain ⟨tk, hL⟩ := T.g_LETTERS
    refine ⟨_, (pss_cons (ps_if (PW.pt (pw_or (pt_not (pt_val (pe_callB call_isi (by rfl) T.b_isinstance (by decide +kernel) (pa_cons (pv 0) (pa_cons (pe_bltn (v := .ty "str") (by rfl) T.b_str (by decide +kernel) rfl) pa_nil))))) (pw_or1 (pt_not (pt_chain op_le op_le pe_int (pe_callB call_len_str (by rfl) T.b_len (by decide +kernel) (pa_cons (pv 0) pa_nil)) pe_int))))) (pss_one (ps_ret pe_bl)) pss_nil)
      (pss_cons (ps_for PassesOwn.never rfl (pi_str (pv 0)) (pg_name (i := 1) sc_is_word.nd rfl (.inl rfl)) (pss_one (ps_if (pt_cmpR op_notIn_sign (pv 1) (pe_glob (v := .str letters) rfl hL ⟨_, rfl⟩) (by rfl)) (pss_one (ps_ret pe_bl)) pss_nil)))
      (pss_one (ps_ret pe_bl)))), ?_⟩
    refine ⟨_, rfl, v, _, _, _, _, rfl, .ty _, ty_dp hd, kit_str d, _, rfl, ?_⟩
    cases hd with
    | str x =>
      refine ifF rfl ?_
      refine chain_le _ (fun Q q => q) (fun Q q => ⟨_, rfl, x, rfl, Evl.sz_of (hl x rfl), q⟩) (fun Q q => q) ⟨_, rfl, ?_⟩
      by_cases c : (1 : Int) ≤ (x.length : Int) ∧ (x.length : Int) ≤ 8
      · rw [decide_eq_true c]
        refine ifF rfl ?_
        have eL : decide (1 ≤ x.length ∧ x.length ≤ 8) = true := decide_eq_true (by omega)
        refine ⟨_, rfl, x, rfl, for_it walk_str (fun i σ H' => H' = H ∧ (∃ y : Option V, σ = [some (.str x), y]) ∧ (x.cps.toList.take i).all (fun c => decide (c ∈ letters.cps.toList)) = true) ⟨rfl, ⟨none, rfl⟩, rfl⟩ (fun _ _ _ _ _ => trivial) ?_ ?_⟩
        · rintro i v σ H1 H2 hi ⟨rfl, ⟨y, rfl⟩, hp⟩ ⟨rfl, c, hc, rfl⟩
          have hc' : x.cps.toList[i]? = some c := by rw [Array.getElem?_toList]; exact hc
          refine ⟨_, rfl, c, letters, rfl, rfl, _, rfl, ?_⟩
          by_cases m : c ∈ letters.cps.toList
          · rw [decide_eq_true m]
            refine ifF rfl ⟨rfl, ⟨_, rfl⟩, ?_⟩
            rw [TS.take_one hc', List.all_append, hp, List.all_cons, List.all_nil, decide_eq_true m]
            rfl
          · rw [decide_eq_false m]
            refine ifT rfl ?_
            have e : isWord (.str x) = false := by
              show (decide (1 ≤ x.length ∧ x.length ≤ 8) && _) = false
              rw [eL, Bool.true_and]
              refine Bool.eq_false_iff.mpr fun q => ?_
              have := List.all_eq_true.mp q c (List.mem_of_getElem? hc')
              exact m (of_decide_eq_true this)
            rw [e] at k
            exact k
        · rintro σ H1 ⟨rfl, ⟨y, rfl⟩, hp⟩
          have e : isWord (.str x) = true := by
            show (decide (1 ≤ x.length ∧ x.length ≤ 8) && _) = true
            rw [eL, Bool.true_and]
            rw [List.take_of_length_le (by rw [Array.length_toList]; exact Nat.le_refl _)] at hp
            exact hp
          rw [e] at k
          exact k
      · rw [decide_eq_false c]
        refine ifT rfl ?_
        have e : isWord (.str x) = false := by
          show (decide (1 ≤ x.length ∧ x.length ≤ 8) && _) = false
          rw [decide_eq_false (by omega)]
          rfl
        rw [e] at k
        exact k
    | _ => exact ifT rfl k
/-! data that are of a size that is counted -/
mutual
def small : PyData → Bool
  | .str x => decide (x.length ≤ 100000)
  | .list xs => decide (xs.length ≤ 100000) && smalls xs
  | .tuple xs => decide (xs.length ≤ 100000) && smalls xs
  | _ => true
def smalls : List PyData → Bool
  | [] => true
  | x :: r => small x && smalls r
end
theorem smalls_get : ∀ {ds : List PyData} {i : Nat} {d : PyData}, smalls ds = true → ds[i]? = some d → small d = true
  | [], i, d, _, h => by simp at h
  | x :: r, 0, d, h, e => by
    have e' := Option.some.inj e
    subst e'
    exact (Bool.and_eq_true_iff.mp h).1
  | x :: r, i + 1, d, h, e => smalls_get (ds := r) (i := i) (Bool.and_eq_true_iff.mp h).2 e
theorem small_str {x : Str} (h : small (.str x) = true) : x.length ≤ 100000 := of_decide_eq_true h
theorem strs_of : ∀ {ds : List PyData} {xs : List V}, ds.all isWord = true → DpAll K H xs ds → ∃ zs : List Str, ds = zs.map PyData.str ∧ xs = zs.map V.str := by
  intro ds
  induction ds with
  | nil =>
    intro xs _ h
    cases h
    exact ⟨[], rfl, rfl⟩
  | cons d r ih =>
    intro xs h hp
    cases hp with
    | cons hd ha =>
      obtain ⟨h1, h2⟩ := Bool.and_eq_true_iff.mp h
      obtain ⟨zs, e1, e2⟩ := ih h2 ha
      cases hd with
      | str x => exact ⟨x :: zs, by rw [e1]; rfl, by rw [e2]; rfl⟩
      | _ => cases h1
def spAreWords (K : PySem.W.Frag) : Sp := fun vs H Q _ => ∃ (v : V) (d : PyData) (m : Int), vs = [v, .int m] ∧ Dp K H v d ∧ small d = true ∧ m < 100 ∧ Q (.bl (areWords m d)) H
theorem sc_are_words : FnScope ["value", "most", "item"] ["value", "most"] (defScope s_are_words) := ⟨rfl, rfl, rfl, by decide +kernel, rfl, by decide +kernel, by decide +kernel⟩
theorem ok_are_words {f : Addr} {fd : FuncData} (F : Fun K "are_words" "are_words" s_are_words f fd) (T : Txt mg) (c_is_word : Cal P w K mg base CX0 1 "is_word" ["value"] (spWord K)) : FnOk P w K mg base CX0 2 f fd ["value", "most"] (spAreWords K) := by
  refine F.ok sc_are_words (fun vs H Q E h => ?_) (fun cdv A outer s H vs Q E hr h => ?_)
  · obtain ⟨v, d, m, rfl, _⟩ := h
    rfl
  · obtain ⟨v, d, m, rfl, hd, hs, hm, k⟩ := h
    refine ⟨_, (pss_cons (ps_if (PW.pt (pw_or (pt_not (pt_val (pe_callB call_isi (by rfl) T.b_isinstance (by decide +kernel) (pa_cons (pv 0) (pa_cons (pe_bltn (v := .ty "tuple") (by rfl) T.b_tuple (by decide +kernel) rfl) pa_nil))))) (pw_or1 (pt_not (pt_chain op_le op_le pe_int (pe_callB call_len_seq (by rfl) T.b_len (by decide +kernel) (pa_cons (pv 0) pa_nil)) (pv 1)))))) (pss_one (ps_ret pe_bl)) pss_nil)
      (pss_cons (ps_for PassesOwn.never rfl (pi_tup (pv 0)) (pg_name (i := 2) sc_are_words.nd rfl (.inl rfl)) (pss_one (ps_if (pt_not (pt_val (pe_cal c_is_word (hr.mono (by omega)) rfl pass0 (pa_cons (pv 2) pa_nil)))) (pss_one (ps_ret pe_bl)) pss_nil)))
      (pss_one (ps_ret (pe_cmpR op_eq (pe_lenSetS (by rfl) T.b_len (by rfl) T.b_set (pv 0)) (pe_callB call_len_seq (by rfl) T.b_len (by decide +kernel) (pa_cons (pv 0) pa_nil)) (nomark _)))))), ?_⟩
    refine ⟨_, rfl, v, _, _, _, _, rfl, .ty _, ty_dp hd, kit_tuple d, _, rfl, ?_⟩
    cases hd with
    | @tup a xs ds hq ha =>
      refine ifF rfl ?_
      have hlen := ha.len
      refine chain_le _ (fun Q q => q) (fun Q q => ⟨_, rfl, a, xs, rfl, .inr hq, q⟩) (fun Q q => ⟨_, rfl, q⟩) ⟨_, rfl, ?_⟩
      by_cases c : (1 : Int) ≤ (xs.length : Int) ∧ (xs.length : Int) ≤ m
      · rw [decide_eq_true c]
        refine ifF rfl ?_
        have eL : decide (1 ≤ ds.length ∧ (ds.length : Int) ≤ m) = true := decide_eq_true (by omega)
        refine ⟨_, rfl, a, rfl, ⟨_, hq⟩, for_it walk_tup (fun i σ H' => H' = H ∧ (∃ y : Option V, σ = [some (.ref a), some (.int m), y]) ∧ (ds.take i).all isWord = true) ⟨rfl, ⟨none, rfl⟩, rfl⟩ (fun _ _ _ _ p => by rw [p.1]; exact hq) ?_ ?_⟩
        · rintro i x σ H1 H2 hi ⟨rfl, ⟨y, rfl⟩, hp⟩ ⟨rfl, hx⟩
          obtain ⟨d, hd1, hd2⟩ := ha.get hx
          have hsd := smalls_get (Bool.and_eq_true_iff.mp hs).2 hd1
          refine ⟨_, rfl, x, d, rfl, hd2, fun z e => small_str (by rw [← e]; exact hsd), _, rfl, ?_⟩
          by_cases mw : isWord d = true
          · rw [mw]
            refine ifF rfl ⟨rfl, ⟨_, rfl⟩, ?_⟩
            rw [TS.take_one hd1, List.all_append, hp]
            simp [mw]
          · rw [Bool.eq_false_iff.mpr mw]
            refine ifT rfl ?_
            have e : areWords m (.tuple ds) = false := by
              show (decide (1 ≤ ds.length ∧ (ds.length : Int) ≤ m) && (ds.all isWord && _)) = false
              rw [eL, Bool.true_and]
              refine Bool.eq_false_iff.mpr fun q => ?_
              exact mw (List.all_eq_true.mp (Bool.and_eq_true_iff.mp q).1 d (List.mem_of_getElem? hd1))
            rw [e] at k
            exact k
        · rintro σ H1 ⟨rfl, ⟨y, rfl⟩, hp⟩
          rw [List.take_of_length_le (by omega)] at hp
          obtain ⟨zs, rfl, rfl⟩ := strs_of hp ha
          rw [List.length_map] at hlen c
          refine ⟨_, rfl, a, zs, rfl, hq, by omega, _, rfl, a, _, rfl, .inr hq, rfl, ?_⟩
          have e : areWords m (.tuple (zs.map PyData.str)) = decide (V.int (TS.dist zs zs.length : Nat) = V.int ((zs.map V.str).length : Nat)) := by
            show (decide _ && ((zs.map PyData.str).all isWord && decide (((zs.map PyData.str).map strOf).Nodup))) = _
            rw [eL, hp, Bool.true_and, Bool.true_and, List.map_map]
            have e1 : zs.map (strOf ∘ PyData.str) = zs := by
              have : (strOf ∘ PyData.str) = id := by funext z; rfl
              rw [this, List.map_id]
            rw [e1, List.length_map]
            have f := TS.dist_full zs zs.length (Nat.le_refl _)
            rw [List.take_length] at f
            by_cases nd : zs.Nodup
            · rw [decide_eq_true nd, f.mpr nd]; simp
            · rw [decide_eq_false nd]
              refine (decide_eq_false fun q => nd (f.mp ?_)).symm
              have := V.int.inj q
              omega
          rw [e] at k
          exact k
      · rw [decide_eq_false c]
        refine ifT rfl ?_
        have e : areWords m (.tuple ds) = false := by
          show (decide (1 ≤ ds.length ∧ (ds.length : Int) ≤ m) && _) = false
          rw [decide_eq_false (by omega)]
          rfl
        rw [e] at k
        exact k
    | _ => exact ifT rfl k
def spBr (K : PySem.W.Frag) : Sp := fun vs H Q _ => ∃ (v : V) (d : PyData), vs = [v] ∧ Dp K H v d ∧ Q (.bl (isBranches d)) H
theorem sc_is_branches : FnScope ["value", "rows"] ["value"] (defScope s_is_branches) := ⟨rfl, rfl, rfl, by decide +kernel, rfl, by decide +kernel, by decide +kernel⟩
theorem ok_is_branches {f : Addr} {fd : FuncData} (F : Fun K "is_branches" "is_branches" s_is_branches f fd) (T : Txt mg) : FnOk P w K mg base CX0 1 f fd ["value"] (spBr K) := by
  refine F.ok sc_is_branches (fun vs H Q E h => ?_) (fun cdv A outer s H vs Q E hr h => ?_)
  · obtain ⟨v, d, rfl, _⟩ := h
    rfl
  · obtain ⟨v, d, rfl, hd, k⟩ := h
    refine ⟨_, (pss_cons (ps_if (PW.pt (pw_or (pt_not (pt_val (pe_callB call_isi (by rfl) T.b_isinstance (by decide +kernel) (pa_cons (pv 0) (pa_cons (pe_bltn (v := .ty "tuple") (by rfl) T.b_tuple (by decide +kernel) rfl) pa_nil))))) (pw_or1 (pt_not (pt_chain op_le op_le pe_int (pe_callB call_len_seq (by rfl) T.b_len (by decide +kernel) (pa_cons (pv 0) pa_nil)) pe_int))))) (pss_one (ps_ret pe_bl)) pss_nil)
      (pss_cons (ps_for PassesOwn.never rfl (pi_tup (pv 0)) (pg_name (i := 1) sc_is_branches.nd rfl (.inl rfl)) (pss_one (ps_if (pt_not (pt_val (pe_callB call_isi (by rfl) T.b_isinstance (by decide +kernel) (pa_cons (pv 1) (pa_cons (pe_bltn (v := .ty "list") (by rfl) T.b_list (by decide +kernel) rfl) pa_nil))))) (pss_one (ps_ret pe_bl)) pss_nil)))
      (pss_one (ps_ret pe_bl)))), ?_⟩
    refine ⟨_, rfl, v, _, _, _, _, rfl, .ty _, ty_dp hd, kit_tuple d, _, rfl, ?_⟩
    cases hd with
    | @tup a xs ds hq ha =>
      refine ifF rfl ?_
      have hlen := ha.len
      refine chain_le _ (fun Q q => q) (fun Q q => ⟨_, rfl, a, xs, rfl, .inr hq, q⟩) (fun Q q => q) ⟨_, rfl, ?_⟩
      by_cases c : (2 : Int) ≤ (xs.length : Int) ∧ (xs.length : Int) ≤ 3
      · rw [decide_eq_true c]
        refine ifF rfl ?_
        have eL : decide (2 ≤ ds.length ∧ ds.length ≤ 3) = true := decide_eq_true (by omega)
        refine ⟨_, rfl, a, rfl, ⟨_, hq⟩, for_it walk_tup (fun i σ H' => H' = H ∧ (∃ y : Option V, σ = [some (.ref a), y]) ∧ (ds.take i).all isList = true) ⟨rfl, ⟨none, rfl⟩, rfl⟩ (fun _ _ _ _ p => by rw [p.1]; exact hq) ?_ ?_⟩
        · rintro i x σ H1 H2 hi ⟨rfl, ⟨y, rfl⟩, hp⟩ ⟨rfl, hx⟩
          obtain ⟨d, hd1, hd2⟩ := ha.get hx
          refine ⟨_, rfl, x, _, _, _, _, rfl, .ty _, ty_dp hd2, kit_list d, _, rfl, ?_⟩
          by_cases mw : isList d = true
          · rw [mw]
            refine ifF rfl ⟨rfl, ⟨_, rfl⟩, ?_⟩
            rw [TS.take_one hd1, List.all_append, hp]
            simp [mw]
          · rw [Bool.eq_false_iff.mpr mw]
            refine ifT rfl ?_
            have e : isBranches (.tuple ds) = false := by
              show (decide (2 ≤ ds.length ∧ ds.length ≤ 3) && ds.all isList) = false
              rw [eL, Bool.true_and]
              refine Bool.eq_false_iff.mpr fun q => ?_
              exact mw (List.all_eq_true.mp q d (List.mem_of_getElem? hd1))
            rw [e] at k
            exact k
        · rintro σ H1 ⟨rfl, ⟨y, rfl⟩, hp⟩
          rw [List.take_of_length_le (by omega)] at hp
          have e : isBranches (.tuple ds) = true := by
            show (decide (2 ≤ ds.length ∧ ds.length ≤ 3) && ds.all isList) = true
            rw [eL, hp]
            rfl
          rw [e] at k
          exact k
      · rw [decide_eq_false c]
        refine ifT rfl ?_
        have e : isBranches (.tuple ds) = false := by
          show (decide (2 ≤ ds.length ∧ ds.length ≤ 3) && _) = false
          rw [decide_eq_false (by omega)]
          rfl
        rw [e] at k
        exact k
    | _ => exact ifT rfl k
end
end Op
namespace Op
open PySem L2 PyProof.Rows
/-! ### the mirror: one row -/
structure Chk where
  total : Int
  labels : List Str
  slots : List Str
  gates : List Str
  edits : List Str
/-- what a check knows: asks, signals, whether edit rows may be -/
structure Env0 where
  asks : List Str
  sigs : List Str
  we : Bool
def partFits (E : Env0) (code : Str) (d : PyData) : Bool :=
  if code = "a" then isWord d && decide (strOf d ∈ E.asks)
  else if code = "g" then isWord d && decide (strOf d ∈ E.sigs)
  else if code = "s" then isWord d && !decide (strOf d = "in")
  else if code = "m" ∨ code = "v" then areWords 3 d
  else if code = "b" then isList d
  else if code = "t" then isBranches d
  else isWord d
def idFits (c : Chk) (kind : Str) (parts : List PyData) : Bool :=
  if kind = "edit" then !decide (strOf (parts.headD .none) ∈ c.edits) && !decide (strOf (parts.headD .none) ∈ c.gates)
  else if kind = "gate" ∨ kind = "past" then !decide (strOf (parts.headD .none) ∈ c.edits)
  else true
def shapes : List (Str × Str) := [("ask", "al"), ("timer", "l"), ("await", "ls"), ("first", "ms"), ("drop", "l"), ("take", "gs"), ("note", "sv"), ("put", "sw"), ("if", "rwbb"), ("loop", "b"), ("leave", ""), ("part", "b"), ("both", "t"), ("gate", "ibb"), ("past", "ib"), ("edit", "ibb"), ("end", "r"), ("anew", "r")]
def putW (xs : List Str) (x : Str) : List Str := if x ∈ xs then xs else xs ++ [x]
/-! ### the object -/
structure RcA where
  C : Addr
  a : Addr
  dx : Addr
  ka : Addr
  ks : Addr
  l : Addr
  s : Addr
  g : Addr
  e : Addr
def dkT (xs : List Str) : List (Key × V) := xs.map fun x => (.inr x, .bl true)
theorem valV_dkT (x : Str) : ∀ xs : List Str, (valV (dkT xs) (.inr x)).isSome = decide (x ∈ xs)
  | [] => rfl
  | y :: r => by
    show (valV ((Sum.inr y, V.bl true) :: dkT r) (.inr x)).isSome = _
    by_cases e : y = x
    · rw [valV_pos (by rw [e])]; simp [e]
    · rw [valV_neg (fun q => e (Sum.inr.inj q)), valV_dkT x r]
      simp [Ne.symm e]
theorem dkT_put (xs : List Str) (x : Str) : putK (dkT xs) (.inr x) (.bl true) = dkT (putW xs x) := by
  unfold putW
  by_cases e : x ∈ xs
  · rw [if_pos e]
    unfold putK
    have h : ((dkT xs).any fun kv => decide (kv.1 = Sum.inr x)) = true := by rw [valV_any, valV_dkT]; exact decide_eq_true e
    rw [if_pos h]
    unfold dkT
    rw [List.map_map]
    refine List.map_congr_left fun y _ => ?_
    show (if (Sum.inr y : Key) = Sum.inr x then ((Sum.inr y : Key), V.bl true) else (Sum.inr y, V.bl true)) = _
    split <;> rfl
  · rw [if_neg e, putK_new _ (by
      have h := valV_dkT x xs
      rw [decide_eq_false e] at h
      cases q : valV (dkT xs) (.inr x) with
      | none => rfl
      | some v => rw [q] at h; cases h)]
    unfold dkT
    rw [List.map_append]
    rfl
theorem dkT_len (xs : List Str) : (dkT xs).length = xs.length := List.length_map _
def rcF (A : RcA) (E : Env0) (c : Chk) : List (Str × V) := [("known_asks", .ref A.ka), ("known_signals", .ref A.ks), ("with_edits", .bl E.we), ("total", .int c.total), ("label_words", .ref A.l), ("slot_words", .ref A.s), ("gate_words", .ref A.g), ("edit_words", .ref A.e)]
def Known (H : Hp) (p : Addr) (xs : List Str) : Prop := ∃ kvs, H p = some (.dK kvs) ∧ ∀ x, (valV kvs (.inr x)).isSome = decide (x ∈ xs)
structure RC (H : Hp) (A : RcA) (E : Env0) (c : Chk) : Prop where
  ob : H A.a = some (.ins A.C A.dx (rcF A E c))
  ka : Known H A.ka E.asks
  ks : Known H A.ks E.sigs
  dl : H A.l = some (.dK (dkT c.labels))
  ds : H A.s = some (.dK (dkT c.slots))
  dg : H A.g = some (.dK (dkT c.gates))
  de : H A.e = some (.dK (dkT c.edits))
  nd : [A.ka, A.l, A.s, A.g, A.e].Nodup
  nk : [A.ks, A.l, A.s, A.g, A.e].Nodup
/-- what the class must have -/
structure RcC (K : PySem.W.Frag) (C : Addr) : Prop where
  cls : Cls K C
  n1 : NoAttr K C "known_asks"
  n2 : NoAttr K C "known_signals"
  n3 : NoAttr K C "with_edits"
  n4 : NoAttr K C "total"
  n5 : NoAttr K C "label_words"
  n6 : NoAttr K C "slot_words"
  n7 : NoAttr K C "gate_words"
  n8 : NoAttr K C "edit_words"
mutual
def wt : PyData → Nat
  | .str x => 1 + x.length
  | .list xs => 1 + wts xs
  | .tuple xs => 1 + wts xs
  | _ => 1
def wts : List PyData → Nat
  | [] => 0
  | x :: r => wt x + wts r
end
theorem wt_pos (d : PyData) : 1 ≤ wt d := by cases d <;> unfold wt <;> omega
theorem wts_len : ∀ ds : List PyData, ds.length ≤ wts ds
  | [] => Nat.le_refl _
  | d :: r => by
    have := wts_len r
    have := wt_pos d
    show r.length + 1 ≤ wt d + wts r
    omega
theorem wts_mem {d : PyData} : ∀ {ds : List PyData}, d ∈ ds → wt d ≤ wts ds
  | x :: r, h => by
    show _ ≤ wt x + wts r
    rcases List.mem_cons.mp h with rfl | h
    · omega
    · have := wts_mem h
      omega
mutual
theorem small_of : ∀ d : PyData, wt d ≤ 100000 → small d = true
  | .str x, h => by
    unfold wt at h
    exact decide_eq_true (by omega)
  | .list xs, h => by
    unfold wt at h
    have := wts_len xs
    unfold small
    rw [decide_eq_true (by omega : xs.length ≤ 100000), smalls_of xs (by omega)]
    rfl
  | .tuple xs, h => by
    unfold wt at h
    have := wts_len xs
    unfold small
    rw [decide_eq_true (by omega : xs.length ≤ 100000), smalls_of xs (by omega)]
    rfl
  | .none, _ => by unfold small; rfl
  | .bool _, _ => by unfold small; rfl
  | .int _, _ => by unfold small; rfl
  | .dict _, _ => by unfold small; rfl
theorem smalls_of : ∀ ds : List PyData, wts ds ≤ 100000 → smalls ds = true
  | [], _ => by unfold smalls; rfl
  | d :: r, h => by
    unfold wts at h
    unfold smalls
    rw [small_of d (by omega), smalls_of r (by omega)]
    rfl
end
section
variable {P : Program} {w : World} {K : PySem.W.Frag} {mg : Str → Option Value} {base : Heap}
def spPF (K : PySem.W.Frag) : Sp := fun vs H Q _ => ∃ (A : RcA) (E : Env0) (c : Chk) (x : Str) (v : V) (d : PyData), vs = [.ref A.a, .str x, v] ∧ RC H A E c ∧ RcC K A.C ∧ Dp K H v d ∧ wt d ≤ 100000 ∧ Q (.bl (partFits E x d)) H
theorem dec_strV {x y : Str} : decide (V.str x = V.str y) = decide (x = y) := by
  rw [Bool.eq_iff_iff]
  simp
theorem mono_str {v : V} {d : PyData} {K} {H : Hp} (h : Dp K H v d) (hw : isWord d = true) : v = .str (strOf d) := by
  cases h with
  | str x => rfl
  | _ => cases hw
theorem dget_known {H : Hp} {p : Addr} {kvs : List (Key × V)} {x : Str} (h : H p = some (.dK kvs)) : DGet H p (.str x) (valV kvs (.inr x)) := DGet.k (k := .inr x) h
theorem sc_RowCheck_part_fits : FnScope ["self", "code", "part"] ["self", "code", "part"] (defScope s_RowCheck_part_fits) := ⟨rfl, rfl, rfl, by decide +kernel, rfl, by decide +kernel, by decide +kernel⟩
theorem ok_part_fits {f : Addr} {fd : FuncData} (F : Fun K "part_fits" "RowCheck.part_fits" s_RowCheck_part_fits f fd) (T : Txt mg) (c_is_word : Cal P w K mg base CX0 1 "is_word" ["value"] (spWord K)) (c_are_words : Cal P w K mg base CX0 2 "are_words" ["value", "most"] (spAreWords K)) (c_is_branches : Cal P w K mg base CX0 1 "is_branches" ["value"] (spBr K)) :
    FnOk P w K mg base CX0 3 f fd ["self", "code", "part"] (spPF K) := by
  refine F.ok sc_RowCheck_part_fits (fun vs H Q E h => ?_) (fun cdv A outer s H vs Q E hr h => ?_)
  · obtain ⟨A, E, c, x, v, d, rfl, _⟩ := h
    rfl
  · obtain ⟨R, E0, c, x, v, d, rfl, O, rc, hd, hw, k⟩ := h
    have hu := hu_of hr
    have hs := small_of d hw
    have hsx : ∀ x, d = .str x → x.length ≤ 100000 := fun z e => small_str (by rw [← e]; exact hs)
    obtain ⟨ka, hka, pka⟩ := O.ka
    obtain ⟨ks, hks, pks⟩ := O.ks
    unfold partFits at k
    refine ⟨_, (pss_cons (ps_if (pt_cmpR op_eq (pv 1) pe_str (nomark _)) (pss_one (ps_ret (pe_and (pe_cal c_is_word (hr.mono (by omega)) rfl pass0 (pa_cons (pv 2) pa_nil)) (pe_one (pe_cmp (pc_din hu (pv 2) (pe_fld (pv 0) rfl))))))) pss_nil)
      (pss_cons (ps_if (pt_cmpR op_eq (pv 1) pe_str (nomark _)) (pss_one (ps_ret (pe_and (pe_cal c_is_word (hr.mono (by omega)) rfl pass0 (pa_cons (pv 2) pa_nil)) (pe_one (pe_cmp (pc_din hu (pv 2) (pe_fld (pv 0) rfl))))))) pss_nil)
      (pss_cons (ps_if (pt_cmpR op_eq (pv 1) pe_str (nomark _)) (pss_one (ps_ret (pe_and (pe_cal c_is_word (hr.mono (by omega)) rfl pass0 (pa_cons (pv 2) pa_nil)) (pe_one (pe_cmpR op_ne (pv 2) pe_str (nomark _)))))) pss_nil)
      (pss_cons (ps_if (PW.pt (pw_or (pt_cmpR op_eq (pv 1) pe_str (nomark _)) (pw_or1 (pt_cmpR op_eq (pv 1) pe_str (nomark _))))) (pss_one (ps_ret (pe_cal c_are_words (hr.mono (by omega)) rfl pass0 (pa_cons (pv 2) (pa_cons pe_int pa_nil))))) pss_nil)
      (pss_cons (ps_if (pt_cmpR op_eq (pv 1) pe_str (nomark _)) (pss_one (ps_ret (pe_callB call_isi (by rfl) T.b_isinstance (by decide +kernel) (pa_cons (pv 2) (pa_cons (pe_bltn (v := .ty "list") (by rfl) T.b_list (by decide +kernel) rfl) pa_nil))))) pss_nil)
      (pss_cons (ps_if (pt_cmpR op_eq (pv 1) pe_str (nomark _)) (pss_one (ps_ret (pe_cal c_is_branches (hr.mono (by omega)) rfl pass0 (pa_cons (pv 2) pa_nil)))) pss_nil)
      (pss_one (ps_ret (pe_cal c_is_word (hr.mono (by omega)) rfl pass0 (pa_cons (pv 2) pa_nil)))))))))), ?_⟩
    refine ⟨_, rfl, rfl, _, rfl, ?_⟩
    rw [dec_strV]
    by_cases e1 : x = "a"
    · rw [if_pos e1] at k
      refine ifT (decide_eq_true e1) ⟨_, rfl, v, d, rfl, hd, hsx, _, rfl, ?_⟩
      by_cases q : isWord d = true
      · rw [q] at k
        refine ifT q ?_
        obtain rfl := mono_str hd q
        refine ⟨_, rfl, _, rfl, _, _, _, _, _, rfl, O.ob, rc.cls, rc.n1, rfl, _, _, rfl, dget_known hka, ?_⟩
        rw [pka]
        exact k
      · rw [Bool.eq_false_iff.mpr q] at k
        exact ifF (Bool.eq_false_iff.mpr q) k
    · rw [if_neg e1] at k
      refine ifF (decide_eq_false e1) ⟨_, rfl, rfl, _, rfl, ?_⟩
      rw [dec_strV]
      by_cases e2 : x = "g"
      · rw [if_pos e2] at k
        refine ifT (decide_eq_true e2) ⟨_, rfl, v, d, rfl, hd, hsx, _, rfl, ?_⟩
        by_cases q : isWord d = true
        · rw [q] at k
          refine ifT q ?_
          obtain rfl := mono_str hd q
          refine ⟨_, rfl, _, rfl, _, _, _, _, _, rfl, O.ob, rc.cls, rc.n2, rfl, _, _, rfl, dget_known hks, ?_⟩
          rw [pks]
          exact k
        · rw [Bool.eq_false_iff.mpr q] at k
          exact ifF (Bool.eq_false_iff.mpr q) k
      · rw [if_neg e2] at k
        refine ifF (decide_eq_false e2) ⟨_, rfl, rfl, _, rfl, ?_⟩
        rw [dec_strV]
        by_cases e3 : x = "s"
        · rw [if_pos e3] at k
          refine ifT (decide_eq_true e3) ⟨_, rfl, v, d, rfl, hd, hsx, _, rfl, ?_⟩
          by_cases q : isWord d = true
          · rw [q] at k
            refine ifT q ?_
            obtain rfl := mono_str hd q
            refine ⟨_, rfl, rfl, ?_⟩
            rw [dec_strV]
            exact k
          · rw [Bool.eq_false_iff.mpr q] at k
            exact ifF (Bool.eq_false_iff.mpr q) k
        · rw [if_neg e3] at k
          refine ifF (decide_eq_false e3) ⟨_, rfl, rfl, _, rfl, ?_⟩
          rw [dec_strV]
          by_cases e4 : x = "m" ∨ x = "v"
          · rw [if_pos e4] at k
            by_cases e5 : x = "m"
            · refine ifT (decide_eq_true e5) ?_
              refine ifT rfl ⟨_, rfl, v, d, 3, rfl, hd, hs, by decide, k⟩
            · refine ifF (decide_eq_false e5) ⟨_, rfl, rfl, _, rfl, ?_⟩
              rw [dec_strV]
              refine ifT (decide_eq_true (e4.resolve_left e5)) ⟨_, rfl, v, d, 3, rfl, hd, hs, by decide, k⟩
          · rw [if_neg e4] at k
            refine ifF (decide_eq_false fun h => e4 (.inl h)) ⟨_, rfl, rfl, _, rfl, ?_⟩
            rw [dec_strV]
            refine ifF (decide_eq_false fun h => e4 (.inr h)) ⟨_, rfl, rfl, _, rfl, ?_⟩
            rw [dec_strV]
            by_cases e6 : x = "b"
            · rw [if_pos e6] at k
              exact ifT (decide_eq_true e6) ⟨_, rfl, v, _, _, _, _, rfl, .ty _, ty_dp hd, kit_list d, k⟩
            · rw [if_neg e6] at k
              refine ifF (decide_eq_false e6) ⟨_, rfl, rfl, _, rfl, ?_⟩
              rw [dec_strV]
              by_cases e7 : x = "t"
              · rw [if_pos e7] at k
                exact ifT (decide_eq_true e7) ⟨_, rfl, v, d, rfl, hd, k⟩
              · rw [if_neg e7] at k
                exact ifF (decide_eq_false e7) ⟨_, rfl, v, d, rfl, hd, hsx, k⟩
end
end Op
namespace L2
open PySem PySem.Spec PyProof.Rows
/-! ### frames -/
def seqO : HO → Bool
  | .lst _ => true
  | .tup _ => true
  | .frz _ _ => true
  | _ => false
/-- lists and tuples stay -/
def Kp (H H' : Hp) : Prop := ∀ b o, H b = some o → seqO o = true → H' b = some o
/-- all but those of L stay -/
def Fr (L : List Addr) (H H' : Hp) : Prop := ∀ b o, H b = some o → b ∉ L → H' b = some o
theorem Same.kp {H H' : Hp} (s : Same H H') : Kp H H' := fun b o h _ => s b o h
theorem Same.fr {L : List Addr} {H H' : Hp} (s : Same H H') : Fr L H H' := fun b o h _ => s b o h
theorem Fr.refl {L : List Addr} {H : Hp} : Fr L H H := fun _ _ h _ => h
theorem Fr.trans {L : List Addr} {H H' H'' : Hp} (a : Fr L H H') (b : Fr L H' H'') : Fr L H H'' := fun c o h n => b c o (a c o h n) n
theorem Fr.upd {L : List Addr} {H H' : Hp} {a : Addr} {o : HO} (f : Fr L H H') (h : a ∈ L) : Fr L H (upd H' a o) := fun b u e n => by
  have q : b ≠ a := fun q => n (by rw [q]; exact h)
  rw [L2.upd_ne q]
  exact f b u e n
theorem Same.new {H : Hp} {a : Addr} {o : HO} (h : H a = none) : Same H (upd H a o) := fun b u e => by rw [upd_ne (ne_of_none e h)]; exact e
theorem Kp.trans {H H' H'' : Hp} (a : Kp H H') (b : Kp H' H'') : Kp H H'' := fun c o h n => b c o (a c o h n) n
theorem SqL.kp {K : PySem.W.Frag} {H H' : Hp} {a : Addr} {xs : List V} (h : SqL K H a xs) (s : Kp H H') : SqL K H' a xs := by
  rcases h with (h | ⟨o, h⟩) | h
  · exact .inl (.inl (s _ _ h rfl))
  · exact .inl (.inr ⟨o, s _ _ h rfl⟩)
  · exact .inr h
theorem SqT.kp {K : PySem.W.Frag} {H H' : Hp} {a : Addr} {xs : List V} (h : SqT K H a xs) (s : Kp H H') : SqT K H' a xs := by
  rcases h with (h | ⟨o, h⟩) | h
  · exact .inl (.inl (s _ _ h rfl))
  · exact .inl (.inr ⟨o, s _ _ h rfl⟩)
  · exact .inr h
mutual
theorem Dp.kp {K : PySem.W.Frag} {H H' : Hp} (s : Kp H H') : ∀ {v : V} {d : PyData}, Dp K H v d → Dp K H' v d
  | _, _, .non => .non
  | _, _, .bl b => .bl b
  | _, _, .int i => .int i
  | _, _, .str x => .str x
  | _, _, .lst h a => .lst (h.kp s) (DpAll.kp s a)
  | _, _, .tup h a => .tup (h.kp s) (DpAll.kp s a)
theorem DpAll.kp {K : PySem.W.Frag} {H H' : Hp} (s : Kp H H') : ∀ {vs : List V} {ds : List PyData}, DpAll K H vs ds → DpAll K H' vs ds
  | _, _, .nil => .nil
  | _, _, .cons h a => .cons (Dp.kp s h) (DpAll.kp s a)
end
theorem DpAll.get' {K : PySem.W.Frag} {H : Hp} : ∀ {vs : List V} {ds : List PyData} {i : Nat} {d : PyData}, DpAll K H vs ds → ds[i]? = some d → ∃ v, vs[i]? = some v ∧ Dp K H v d
  | _, _, i, _, .nil, h => by simp at h
  | _, _, 0, d, .cons (v := v) h a, e => by
    have e' := Option.some.inj e
    subst e'
    exact ⟨v, rfl, h⟩
  | _, _, i + 1, v, .cons h a, e => a.get' (i := i) e
end L2
namespace Op
open PySem L2 PyProof.Rows
def RcA.L (A : RcA) : List Addr := [A.a, A.l, A.s, A.g, A.e]
section
variable {H H' : Hp} {A : RcA} {E : Env0} {c : Chk}
theorem RC.kp (O : RC H A E c) (f : Fr A.L H H') : Kp H H' := fun b o h n => f b o h fun m => by
  have : b = A.a ∨ b = A.l ∨ b = A.s ∨ b = A.g ∨ b = A.e := by simpa [RcA.L] using m
  rcases this with rfl | rfl | rfl | rfl | rfl
  · rw [O.ob] at h; cases h; cases n
  · rw [O.dl] at h; cases h; cases n
  · rw [O.ds] at h; cases h; cases n
  · rw [O.dg] at h; cases h; cases n
  · rw [O.de] at h; cases h; cases n
theorem Known.mono {p : Addr} {xs : List Str} (h : Known H p xs) (s : ∀ o, H p = some o → H' p = some o) : Known H' p xs := let ⟨kvs, h1, h2⟩ := h; ⟨kvs, s _ h1, h2⟩
theorem RC.mono (O : RC H A E c) (s : Same H H') : RC H' A E c := ⟨s _ _ O.ob, O.ka.mono (s _), O.ks.mono (s _), s _ _ O.dl, s _ _ O.ds, s _ _ O.dg, s _ _ O.de, O.nd, O.nk⟩
theorem Known.ne_ins {p a C dx : Addr} {fs : List (Str × V)} {xs : List Str} (h : Known H p xs) (e : H a = some (.ins C dx fs)) : p ≠ a := fun q => by
  obtain ⟨kvs, h1, _⟩ := h
  rw [q, e] at h1
  cases h1
theorem RC.nes (O : RC H A E c) : A.a ≠ A.l ∧ A.a ≠ A.s ∧ A.a ≠ A.g ∧ A.a ≠ A.e ∧ A.a ≠ A.ka ∧ A.a ≠ A.ks :=
  ⟨ne_of O.ob O.dl nofun, ne_of O.ob O.ds nofun, ne_of O.ob O.dg nofun, ne_of O.ob O.de nofun, (O.ka.ne_ins O.ob).symm, (O.ks.ne_ins O.ob).symm⟩
theorem RC.nds (O : RC H A E c) : (A.ka ≠ A.l ∧ A.ka ≠ A.s ∧ A.ka ≠ A.g ∧ A.ka ≠ A.e) ∧ (A.ks ≠ A.l ∧ A.ks ≠ A.s ∧ A.ks ≠ A.g ∧ A.ks ≠ A.e) ∧ A.l ≠ A.s ∧ A.l ≠ A.g ∧ A.l ≠ A.e ∧ A.s ≠ A.g ∧ A.s ≠ A.e ∧ A.g ≠ A.e := by
  have h1 := O.nd
  have h2 := O.nk
  simp [List.nodup_cons] at h1 h2
  obtain ⟨⟨a1, a2, a3, a4⟩, ⟨b1, b2, b3⟩, ⟨c1, c2⟩, d1⟩ := h1
  obtain ⟨⟨e1, e2, e3, e4⟩, _⟩ := h2
  exact ⟨⟨a1, a2, a3, a4⟩, ⟨e1, e2, e3, e4⟩, b1, b2, b3, c1, c2, d1⟩
theorem RC.put_l (O : RC H A E c) (x : Str) : RC (upd H A.l (.dK (dkT (putW c.labels x)))) A E { c with labels := putW c.labels x } := by
  obtain ⟨a1, a2, a3, a4, a5, a6⟩ := O.nes
  obtain ⟨⟨k1, k2, k3, k4⟩, ⟨s1, s2, s3, s4⟩, b1, b2, b3, b4, b5, b6⟩ := O.nds
  exact ⟨by rw [upd_ne a1]; exact O.ob, O.ka.mono fun o h => by rw [upd_ne k1]; exact h, O.ks.mono fun o h => by rw [upd_ne s1]; exact h, upd_same, by rw [upd_ne b1.symm]; exact O.ds, by rw [upd_ne b2.symm]; exact O.dg, by rw [upd_ne b3.symm]; exact O.de, O.nd, O.nk⟩
theorem RC.put_s (O : RC H A E c) (x : Str) : RC (upd H A.s (.dK (dkT (putW c.slots x)))) A E { c with slots := putW c.slots x } := by
  obtain ⟨a1, a2, a3, a4, a5, a6⟩ := O.nes
  obtain ⟨⟨k1, k2, k3, k4⟩, ⟨s1, s2, s3, s4⟩, b1, b2, b3, b4, b5, b6⟩ := O.nds
  exact ⟨by rw [upd_ne a2]; exact O.ob, O.ka.mono fun o h => by rw [upd_ne k2]; exact h, O.ks.mono fun o h => by rw [upd_ne s2]; exact h, by rw [upd_ne b1]; exact O.dl, upd_same, by rw [upd_ne b4.symm]; exact O.dg, by rw [upd_ne b5.symm]; exact O.de, O.nd, O.nk⟩
theorem RC.put_g (O : RC H A E c) (x : Str) : RC (upd H A.g (.dK (dkT (putW c.gates x)))) A E { c with gates := putW c.gates x } := by
  obtain ⟨a1, a2, a3, a4, a5, a6⟩ := O.nes
  obtain ⟨⟨k1, k2, k3, k4⟩, ⟨s1, s2, s3, s4⟩, b1, b2, b3, b4, b5, b6⟩ := O.nds
  exact ⟨by rw [upd_ne a3]; exact O.ob, O.ka.mono fun o h => by rw [upd_ne k3]; exact h, O.ks.mono fun o h => by rw [upd_ne s3]; exact h, by rw [upd_ne b2]; exact O.dl, by rw [upd_ne b4]; exact O.ds, upd_same, by rw [upd_ne b6.symm]; exact O.de, O.nd, O.nk⟩
theorem RC.put_e (O : RC H A E c) (x : Str) : RC (upd H A.e (.dK (dkT (putW c.edits x)))) A E { c with edits := putW c.edits x } := by
  obtain ⟨a1, a2, a3, a4, a5, a6⟩ := O.nes
  obtain ⟨⟨k1, k2, k3, k4⟩, ⟨s1, s2, s3, s4⟩, b1, b2, b3, b4, b5, b6⟩ := O.nds
  exact ⟨by rw [upd_ne a4]; exact O.ob, O.ka.mono fun o h => by rw [upd_ne k4]; exact h, O.ks.mono fun o h => by rw [upd_ne s4]; exact h, by rw [upd_ne b3]; exact O.dl, by rw [upd_ne b5]; exact O.ds, by rw [upd_ne b6]; exact O.dg, upd_same, O.nd, O.nk⟩
theorem RC.tot (O : RC H A E c) (n : Int) : RC (upd H A.a (.ins A.C A.dx (rcF A E { c with total := n }))) A E { c with total := n } := by
  obtain ⟨a1, a2, a3, a4, a5, a6⟩ := O.nes
  exact ⟨upd_same, O.ka.mono fun o h => by rw [upd_ne a5.symm]; exact h, O.ks.mono fun o h => by rw [upd_ne a6.symm]; exact h, by rw [upd_ne a1.symm]; exact O.dl, by rw [upd_ne a2.symm]; exact O.ds, by rw [upd_ne a3.symm]; exact O.dg, by rw [upd_ne a4.symm]; exact O.de, O.nd, O.nk⟩
theorem dput_w {p : Addr} {xs : List Str} {x : Str} (h : H p = some (.dK (dkT xs))) (hl : xs.length < sizeLine) : DPut H p (.str x) (.bl true) (upd H p (.dK (dkT (putW xs x)))) := by
  rw [← dkT_put]
  exact DPut.k (k := .inr x) h (by rw [dkT_len]; exact hl)
theorem putW_len (xs : List Str) (x : Str) : (putW xs x).length ≤ xs.length + 1 := by
  unfold putW
  split
  · omega
  · simp
end
section
variable {P : Program} {w : World} {K : PySem.W.Frag} {mg : Str → Option Value} {base : Heap}
def spID (K : PySem.W.Frag) : Sp := fun vs H Q _ => ∃ (A : RcA) (E : Env0) (c : Chk) (t : Addr) (kind : Str) (parts : List PyData), vs = [.ref A.a, .ref t] ∧ RC H A E c ∧ RcC K A.C ∧ Dp K H (.ref t) (.tuple (.str kind :: parts)) ∧
  (kind = "edit" ∨ kind = "gate" ∨ kind = "past" → ∃ x r, parts = .str x :: r) ∧ ∀ H', Same H H' → Q (.bl (idFits c kind parts)) H'
theorem sz_lit {n : Nat} (h : n ≤ 100000) : n ≤ sizeLine := Evl.sz_of h
theorem inV2 (x a b : Str) : inV (.str x) [.str a, .str b] = decide (x = a ∨ x = b) := by
  show (eqV (.str a) (.str x) || (eqV (.str b) (.str x) || false)) = _
  have e : ∀ y : Str, eqV (.str y) (.str x) = decide (x = y) := fun y => by
    show (y == x) = _
    by_cases q : x = y
    · rw [decide_eq_true q, q]; simp
    · rw [decide_eq_false q]; simpa using Ne.symm q
  rw [e, e, Bool.or_false, Bool.eq_iff_iff]
  simp
theorem atI_zero {α : Type} (x : α) (r : List α) : atI (x :: r) 0 = some x := by
  unfold atI ixN
  rw [if_pos (Int.le_refl _), if_pos (by simp only [List.length_cons]; omega)]
  rfl
theorem atI_one {α : Type} (x y : α) (r : List α) : atI (x :: y :: r) 1 = some y := by
  unfold atI ixN
  rw [if_pos (by decide), if_pos (by simp only [List.length_cons]; omega)]
  rfl
theorem sc_RowCheck_id_fits : FnScope ["self", "row"] ["self", "row"] (defScope s_RowCheck_id_fits) := ⟨rfl, rfl, rfl, by decide +kernel, rfl, by decide +kernel, by decide +kernel⟩
theorem ok_id_fits {f : Addr} {fd : FuncData} (F : Fun K "id_fits" "RowCheck.id_fits" s_RowCheck_id_fits f fd) : FnOk P w K mg base CX0 1 f fd ["self", "row"] (spID K) := by
  refine F.ok sc_RowCheck_id_fits (fun vs H Q E h => ?_) (fun cdv A outer s H vs Q E hr h => ?_)
  · obtain ⟨A, E, c, t, kind, parts, rfl, _⟩ := h
    rfl
  · obtain ⟨R, E0, c, t, kind, parts, rfl, O, rc, hd, hp, k⟩ := h
    have hu := hu_of hr
    cases hd with
    | @tup _ xs _ hq ha =>
    cases ha with
    | @cons v0 _ vr _ h0 hr0 =>
    cases h0 with
    | str kind =>
    unfold idFits at k
    refine ⟨_, (pss_cons (ps_if (pt_cmpR op_eq (pe_ix ix_tup (pv 1) pe_int (fun _ _ => rfl)) pe_str (nomark _)) (pss_one (ps_ret (pe_and (pe_cmp (pc_dnotin hu (pe_ix ix_tup (pv 1) pe_int (fun _ _ => rfl)) (pe_fld (pv 0) rfl))) (pe_one (pe_cmp (pc_dnotin hu (pe_ix ix_tup (pv 1) pe_int (fun _ _ => rfl)) (pe_fld (pv 0) rfl))))))) pss_nil)
      (pss_cons (ps_if (pt_cmpR op_in_seq (pe_ix ix_tup (pv 1) pe_int (fun _ _ => rfl)) (pe_tup (pa_cons pe_str (pa_cons pe_str pa_nil))) (by rfl)) (pss_one (ps_ret (pe_cmp (pc_dnotin hu (pe_ix ix_tup (pv 1) pe_int (fun _ _ => rfl)) (pe_fld (pv 0) rfl))))) pss_nil)
      (pss_one (ps_ret pe_bl)))), ?_⟩
    refine ⟨_, rfl, t, _, 0, _, rfl, rfl, hq, atI_zero _ _, rfl, _, rfl, ?_⟩
    rw [dec_strV]
    by_cases e1 : kind = "edit"
    · obtain ⟨x, r, rfl⟩ := hp (.inl e1)
      cases hr0 with
      | @cons v1 _ vr _ h1 _ =>
      cases h1 with
      | str x =>
      rw [if_pos e1] at k
      refine ifT (decide_eq_true e1) ?_
      refine ⟨_, rfl, t, _, 1, _, rfl, rfl, hq, atI_one _ _ _, _, rfl, _, _, _, _, _, rfl, O.ob, rc.cls, rc.n8, rfl, _, _, rfl, dget_known O.de, _, rfl, ?_⟩
      rw [valV_dkT]
      by_cases q : x ∈ c.edits
      · rw [decide_eq_true q]
        refine ifF rfl ?_
        have := k H (Same.refl H)
        rw [show (PyData.str x :: r).headD PyData.none = .str x from rfl] at this
        rw [show strOf (.str x) = x from rfl, decide_eq_true q] at this
        exact this
      · rw [decide_eq_false q]
        refine ifT rfl ?_
        refine ⟨_, rfl, t, _, 1, _, rfl, rfl, hq, atI_one _ _ _, _, rfl, _, _, _, _, _, rfl, O.ob, rc.cls, rc.n7, rfl, _, _, rfl, dget_known O.dg, ?_⟩
        rw [valV_dkT]
        have := k H (Same.refl H)
        rw [show (PyData.str x :: r).headD PyData.none = .str x from rfl] at this
        rw [show strOf (.str x) = x from rfl, decide_eq_false q] at this
        exact this
    · rw [if_neg e1] at k
      refine ifF (decide_eq_false e1) ?_
      refine ⟨_, rfl, t, _, 0, _, rfl, rfl, hq, atI_zero _ _, sz_lit (by decide), fun p hp0 => ⟨p, _, rfl, .inr (.inl (.inl upd_same)), rfl, rfl, _, rfl, ?_⟩⟩
      rw [inV2]
      have sm : Same H (upd H p (.tup [.str "gate", .str "past"])) := Same.new hp0
      by_cases e2 : kind = "gate" ∨ kind = "past"
      · rw [if_pos e2] at k
        refine ifT (decide_eq_true e2) ?_
        obtain ⟨x, r, rfl⟩ := hp (.inr e2)
        cases hr0 with
        | @cons v1 _ vr _ h1 _ =>
        cases h1 with
        | str x =>
        refine ⟨_, rfl, t, _, 1, _, rfl, rfl, hq.mono sm, atI_one _ _ _, _, rfl, _, _, _, _, _, rfl, sm _ _ O.ob, rc.cls, rc.n8, rfl, _, _, rfl, dget_known (sm _ _ O.de), ?_⟩
        rw [valV_dkT]
        exact k _ sm
      · rw [if_neg e2] at k
        refine ifF (decide_eq_false e2) ?_
        exact k _ sm
end
end Op
namespace Op
open PySem L2 PyProof.Rows
def colPart (kind : Str) (c : Chk) (code : Str) (d : PyData) : Chk :=
  if code = "l" then { c with labels := putW c.labels (strOf d) }
  else if code = "m" then { c with labels := (match d with | .tuple ds => (ds.map strOf).foldl putW c.labels | _ => c.labels) }
  else if (code = "s" ∨ code = "r") ∧ ¬ strOf d = "in" then { c with slots := putW c.slots (strOf d) }
  else if code = "i" ∧ kind = "edit" then { c with edits := putW c.edits (strOf d) }
  else if code = "i" then { c with gates := putW c.gates (strOf d) }
  else c
def collect (c : Chk) (kind sh : Str) (parts : List PyData) : Chk := (sh.cps.toList.zip parts).foldl (fun c p => colPart kind c ⟨#[p.1]⟩ p.2) c
def colN (c : Chk) (kind sh : Str) (parts : List PyData) (i : Nat) : Chk := ((sh.cps.toList.zip parts).take i).foldl (fun c p => colPart kind c ⟨#[p.1]⟩ p.2) c
theorem colN_zero (c : Chk) (kind sh : Str) (parts : List PyData) : colN c kind sh parts 0 = c := rfl
theorem colN_all {c : Chk} {kind sh : Str} {parts : List PyData} (h : sh.cps.size = parts.length) : colN c kind sh parts parts.length = collect c kind sh parts := by
  unfold colN collect
  rw [List.take_of_length_le (by rw [List.length_zip, Array.length_toList]; omega)]
theorem colN_succ {c : Chk} {kind sh : Str} {parts : List PyData} {i ch : Nat} {d : PyData} (h1 : sh.cps[i]? = some ch) (h2 : parts[i]? = some d) : colN c kind sh parts (i + 1) = colPart kind (colN c kind sh parts i) ⟨#[ch]⟩ d := by
  unfold colN
  have h : (sh.cps.toList.zip parts)[i]? = some (ch, d) := by
    rw [List.getElem?_zip_eq_some]
    exact ⟨by rw [Array.getElem?_toList]; exact h1, h2⟩
  rw [TS.take_one h, List.foldl_append]
  rfl
/-- sizes of what was collected -/
def Cap (c : Chk) (n : Nat) : Prop := c.labels.length ≤ n ∧ c.slots.length ≤ n ∧ c.gates.length ≤ n ∧ c.edits.length ≤ n
theorem Cap.mono {c : Chk} {m n : Nat} (h : Cap c m) (e : m ≤ n) : Cap c n := ⟨by have := h.1; omega, by have := h.2.1; omega, by have := h.2.2.1; omega, by have := h.2.2.2; omega⟩
theorem foldW_len : ∀ (ys xs : List Str), (ys.foldl putW xs).length ≤ xs.length + ys.length
  | [], xs => Nat.le_refl _
  | y :: r, xs => by
    have := foldW_len r (putW xs y)
    have := putW_len xs y
    show (r.foldl putW (putW xs y)).length ≤ _
    rw [List.length_cons]
    omega
section
variable {E : Env0} {d : PyData}
theorem pf_word {x : Str} (h : partFits E x d = true) (n : ¬ (x = "m" ∨ x = "v") ∧ ¬ x = "b" ∧ ¬ x = "t") : isWord d = true := by
  unfold partFits at h
  rw [if_neg n.1, if_neg n.2.1, if_neg n.2.2] at h
  split at h
  · exact (Bool.and_eq_true_iff.mp h).1
  · split at h
    · exact (Bool.and_eq_true_iff.mp h).1
    · split at h
      · exact (Bool.and_eq_true_iff.mp h).1
      · exact h
theorem pf_m (h : partFits E "m" d = true) : areWords 3 d = true := h
theorem aw_tup {m : Int} (h : areWords m d = true) : ∃ zs : List Str, d = .tuple (zs.map PyData.str) ∧ (zs.length : Int) ≤ m ∧ (∀ z ∈ zs, isWordS z = true) ∧ zs.Nodup ∧ 1 ≤ zs.length := by
  cases d with
  | tuple ds =>
    obtain ⟨h1, h2⟩ := Bool.and_eq_true_iff.mp h
    obtain ⟨h3, h4⟩ := Bool.and_eq_true_iff.mp h2
    have h1 := of_decide_eq_true h1
    have h4 := of_decide_eq_true h4
    have key : ∀ ds : List PyData, ds.all isWord = true → ∃ zs : List Str, ds = zs.map PyData.str ∧ ∀ z ∈ zs, isWordS z = true := by
      intro ds
      induction ds with
      | nil => exact fun _ => ⟨[], rfl, fun _ h => by cases h⟩
      | cons d r ih =>
        intro h
        obtain ⟨a, b⟩ := Bool.and_eq_true_iff.mp h
        obtain ⟨zs, e, p⟩ := ih b
        cases d with
        | str x => exact ⟨x :: zs, by rw [e]; rfl, fun z hz => by
            rcases List.mem_cons.mp hz with rfl | hz
            · exact a
            · exact p z hz⟩
        | _ => cases a
    obtain ⟨zs, rfl, p⟩ := key ds h3
    have e1 : (zs.map PyData.str).map strOf = zs := by
      rw [List.map_map]
      have : (strOf ∘ PyData.str) = id := by funext z; rfl
      rw [this, List.map_id]
    rw [e1] at h4
    rw [List.length_map] at h1
    exact ⟨zs, rfl, h1.2, p, h4, h1.1⟩
  | _ => cases h
end
theorem map_strOf (zs : List Str) : (zs.map PyData.str).map strOf = zs := by
  rw [List.map_map]
  have : (strOf ∘ PyData.str) = id := by funext z; rfl
  rw [this, List.map_id]
/-- the names of the module that the check reads -/
structure TxtC (P : Program) (w : World) (K : PySem.W.Frag) (mg : Str → Option Value) (pS CI : Addr) : Prop extends Txt mg where
  g_SHAPES : mg "SHAPES" = some (.ref pS)
  w_SHAPES : WTab K w pS (shapes.map fun p => (p.1, .str p.2))
  g_MOST_ROWS : ∃ t, mg "MOST_ROWS" = some (.int 60 t)
  g_MOST_LABELS : ∃ t, mg "MOST_LABELS" = some (.int 6 t)
  g_MOST_SLOTS : ∃ t, mg "MOST_SLOTS" = some (.int 4 t)
  g_MOST_GATES : ∃ t, mg "MOST_GATES" = some (.int 8 t)
  g_MOST_EDITS : ∃ t, mg "MOST_EDITS" = some (.int 4 t)
  g_DEEPEST : ∃ t, mg "DEEPEST" = some (.int 5 t)
  g_InvalidProgram : mg "InvalidProgram" = some (.ref CI)
  k_InvalidProgram : PySem.W.keepIn K (.ref CI) = true
  mk_InvalidProgram : XMk P w K CI 2 [] (fun vs _ => [("path", vs.getD 1 .non), ("part", vs.getD 0 .non)])
  r_InvalidProgram : ∀ (M : Model) (h : Heap), K.In h → PySem.W.Looks M h (isSubtype (.ref CI) (.type "BaseException")) true ∧ PySem.W.Looks M h (typeOf (.ref CI)) (.type "type")
theorem shapes_look (x : Str) : (shapes.map fun p => (p.1, V.str p.2)).lookup x = (shapes.lookup x).map V.str := by
  generalize shapes = l
  induction l with
  | nil => rfl
  | cons p r ih =>
    obtain ⟨a, b⟩ := p
    simp only [List.map_cons, List.lookup_cons]
    cases x == a with
    | true => rfl
    | false => exact ih
theorem lt_sz {n : Nat} (h : n < 100000) : n < sizeLine := Nat.lt_of_lt_of_le h (sz_lit (Nat.le_refl _))
theorem cut1 (v : V) (r : List V) : cutV (v :: r) (some 1) none = r := by
  unfold cutV
  rw [HT.sIx_none, show (1 : Int) = ((1 : Nat) : Int) from rfl, HT.sIx_nat, List.length_cons, show min 1 (r.length + 1) = 1 by omega]
  show r.take (r.length + 1 - 1) = r
  rw [List.take_of_length_le (by omega)]
theorem cut1n (v : V) (r : List V) : ¬ (HT.sIx (v :: r).length 0 (some 1) = 0 ∧ HT.sIx (v :: r).length (v :: r).length none = (v :: r).length) := by
  rw [show (1 : Int) = ((1 : Nat) : Int) from rfl, HT.sIx_nat, List.length_cons]
  omega
section
variable {P : Program} {w : World} {K : PySem.W.Frag} {mg : Str → Option Value} {base : Heap} {pS CI : Addr}
def Fitted (E : Env0) (sh : Str) (parts : List PyData) : Prop := sh.cps.size = parts.length ∧ ∀ (i ch : Nat) (d : PyData), sh.cps[i]? = some ch → parts[i]? = some d → partFits E ⟨#[ch]⟩ d = true
def spCol (K : PySem.W.Frag) : Sp := fun vs H Q _ => ∃ (A : RcA) (E : Env0) (c : Chk) (t : Addr) (kind sh : Str) (parts : List PyData), vs = [.ref A.a, .ref t] ∧ RC H A E c ∧ RcC K A.C ∧ Dp K H (.ref t) (.tuple (.str kind :: parts)) ∧
  shapes.lookup kind = some sh ∧ Fitted E sh parts ∧ parts.length ≤ 100 ∧ Cap c 90000 ∧ ∀ H', Fr A.L H H' → RC H' A E (collect c kind sh parts) → Q .non H'
theorem sc_RowCheck_collect : FnScope ["self", "row", "code", "part", "label"] ["self", "row"] (defScope s_RowCheck_collect) := ⟨rfl, rfl, rfl, by decide +kernel, rfl, by decide +kernel, by decide +kernel⟩
theorem ok_collect {f : Addr} {fd : FuncData} (F : Fun K "collect" "RowCheck.collect" s_RowCheck_collect f fd) (T : TxtC P w K mg pS CI) : FnOk P w K mg base CX0 1 f fd ["self", "row"] (spCol K) := by
  refine F.ok sc_RowCheck_collect (fun vs H Q E h => ?_) (fun cdv A outer s H vs Q E hr h => ?_)
  · obtain ⟨A, E, c, t, kind, sh, parts, rfl, _⟩ := h
    rfl
  · obtain ⟨R, E0, c, t, kind, sh, parts, rfl, O, rc, hd, hsh, ⟨hlen, hfit⟩, hpl, hcap, k⟩ := h
    have hu := hu_of hr
    cases hd with
    | @tup _ xs _ hq ha =>
    cases ha with
    | @cons v0 vr d0 dr h0 hr0 =>
    cases h0 with
    | str kind =>
    have hvl := hr0.len
    refine ⟨_, (pss_one (ps_for PassesOwn.never rfl (pi_zipS (by rfl) T.b_zip (pa_cons (pe_ix ix_wtab (pe_gref rfl T.g_SHAPES) (pe_ix ix_tup (pv 1) pe_int (fun _ _ => rfl)) (fun _ _ => rfl)) (pa_cons (pe_slice sl_tupA (pv 1) (po_some pe_int) po_none) pa_nil))) (pg_tup rfl (pgs_cons (pg_name (i := 2) sc_RowCheck_collect.nd rfl (.inl rfl)) (pgs_cons (pg_name (i := 3) sc_RowCheck_collect.nd rfl (.inl rfl)) pgs_nil))) (pss_one (ps_if (pt_cmpR op_eq (pv 2) pe_str (nomark _)) (pss_one (ps_dput hu (pe_fld (pv 0) rfl) (pv 3) pe_bl rfl)) (pss_one (ps_if (pt_cmpR op_eq (pv 2) pe_str (nomark _)) (pss_one (ps_for PassesOwn.never rfl (pi_tup (pv 3)) (pg_name (i := 4) sc_RowCheck_collect.nd rfl (.inl rfl)) (pss_one (ps_dput hu (pe_fld (pv 0) rfl) (pv 4) pe_bl rfl)))) (pss_one (ps_if (PW.pt (pw_and (pt_cmpR op_in_seq (pv 2) (pe_tup (pa_cons pe_str (pa_cons pe_str pa_nil))) (by rfl)) (pw_and1 (pt_cmpR op_ne (pv 3) pe_str (nomark _))))) (pss_one (ps_dput hu (pe_fld (pv 0) rfl) (pv 3) pe_bl rfl)) (pss_one (ps_if (PW.pt (pw_and (pt_cmpR op_eq (pv 2) pe_str (nomark _)) (pw_and1 (pt_cmpR op_eq (pe_ix ix_tup (pv 1) pe_int (fun _ _ => rfl)) pe_str (nomark _))))) (pss_one (ps_dput hu (pe_fld (pv 0) rfl) (pv 3) pe_bl rfl)) (pss_one (ps_if (pt_cmpR op_eq (pv 2) pe_str (nomark _)) (pss_one (ps_dput hu (pe_fld (pv 0) rfl) (pv 3) pe_bl rfl)) pss_nil)))))))))))), ?_⟩
    refine ⟨_, rfl, t, _, 0, _, rfl, rfl, hq, atI_zero _ _, pS, kind, _, .str sh, rfl, rfl, T.w_SHAPES, by rw [shapes_look, hsh]; rfl, ?_⟩
    refine ⟨_, rfl, 1, rfl, t, _, rfl, hq, fun z => absurd z (cut1n _ _), fun _ p hp => ?_⟩
    rw [cut1]
    have sm : Same H (upd H p (.tup vr)) := Same.new hp
    refine ⟨sh, p, vr, rfl, .inl (.inl upd_same), ?_⟩
    refine for_zipS (by omega) (fun i σ H' => (∃ y2 y3 y4 : Option V, σ = [some (.ref R.a), some (.ref t), y2, y3, y4]) ∧ RC H' R E0 (colN c kind sh parts i) ∧ Fr R.L (upd H p (.tup vr)) H' ∧ Cap (colN c kind sh parts i) (90000 + 3 * i)) ⟨⟨_, _, _, rfl⟩, O.mono sm, Fr.refl, hcap⟩ (fun i σ H' q => SqT.kp (.inl (.inl upd_same)) ((O.mono sm).kp q.2.2.1)) ?_ ?_
    · rintro i ch y T0 σ H' h1 h2 ⟨⟨y2, y3, y4, rfl⟩, O1, fr1, cap1⟩ hT0
      obtain ⟨d, h3, hdy⟩ := hr0.get h2
      have hf := hfit i ch d h1 h3
      have hi : i < 100 := by
        have := (List.getElem?_eq_some_iff.mp h3).1
        omega
      have hdy1 : Dp K H' y d := hdy.kp (sm.kp.trans ((O.mono sm).kp fr1))
      refine ⟨T0, _, rfl, .inl (.inl upd_same), rfl, ?_⟩
      have sm1 : Same H' (upd H' T0 (.tup [.str ⟨#[ch]⟩, y])) := Same.new hT0
      have O2 := O1.mono sm1
      have fr2 : Fr R.L (upd H p (.tup vr)) (upd H' T0 (.tup [.str ⟨#[ch]⟩, y])) := fr1.trans sm1.fr
      have hdy2 : Dp K (upd H' T0 (.tup [.str ⟨#[ch]⟩, y])) y d := hdy1.kp sm1.kp
      rw [colN_succ h1 h3]
      revert O2 fr2 hdy2
      generalize upd H' T0 (.tup [.str ⟨#[ch]⟩, y]) = H2
      generalize colN c kind sh parts i = c1 at *
      intro O2 fr2 hdy2
      generalize (⟨#[ch]⟩ : Str) = x at *
      refine ⟨_, _, rfl, _, _, rfl, rfl, _, rfl, rfl, _, rfl, ?_⟩
      rw [dec_strV]
      have word : ¬ (x = "m" ∨ x = "v") ∧ ¬ x = "b" ∧ ¬ x = "t" → y = .str (strOf d) := fun n => mono_str hdy2 (pf_word hf n)
      have cl : c1.labels.length < sizeLine := Nat.lt_of_le_of_lt cap1.1 (lt_sz (by omega))
      have cs : c1.slots.length < sizeLine := Nat.lt_of_le_of_lt cap1.2.1 (lt_sz (by omega))
      have cg : c1.gates.length < sizeLine := Nat.lt_of_le_of_lt cap1.2.2.1 (lt_sz (by omega))
      have ce : c1.edits.length < sizeLine := Nat.lt_of_le_of_lt cap1.2.2.2 (lt_sz (by omega))
      have cap2 : Cap c1 (90000 + 3 * (i + 1)) := cap1.mono (by omega)
      unfold colPart
      by_cases e1 : x = "l"
      · obtain rfl := word (by rw [e1]; decide +kernel)
        rw [if_pos e1]
        refine ifT (decide_eq_true e1) ?_
        refine ⟨_, rfl, _, _, _, _, _, rfl, O2.ob, rc.cls, rc.n5, rfl, _, rfl, _, _, rfl, dput_w O2.dl cl, ⟨_, _, _, rfl⟩, O2.put_l _, fr2.upd (by simp [RcA.L]), ?_, cap2.2⟩
        have := putW_len c1.labels (strOf d)
        have := cap1.1
        show (putW c1.labels (strOf d)).length ≤ _
        omega
      · rw [if_neg e1]
        refine ifF (decide_eq_false e1) ⟨_, rfl, rfl, _, rfl, ?_⟩
        rw [dec_strV]
        by_cases e2 : x = "m"
        · rw [if_pos e2]
          refine ifT (decide_eq_true e2) ?_
          obtain ⟨zs, rfl, hz3, _⟩ := aw_tup (pf_m (by rw [← e2]; exact hf))
          cases hdy2 with
          | @tup q ws _ hws haw =>
          obtain ⟨zs', ez, rfl⟩ := strs_of (by
            have := pf_m (d := .tuple (zs.map PyData.str)) (by rw [← e2]; exact hf)
            exact (Bool.and_eq_true_iff.mp (Bool.and_eq_true_iff.mp this).2).1) haw
          obtain rfl : zs = zs' := by
            have := congrArg (List.map strOf) ez
            rw [map_strOf, map_strOf] at this
            exact this
          refine ⟨_, rfl, q, rfl, ⟨_, hws⟩, for_it walk_tup (fun j σ H3 => (∃ y4 : Option V, σ = [some (.ref R.a), some (.ref t), some (.str x), some (.ref q), y4]) ∧ RC H3 R E0 { c1 with labels := (zs.take j).foldl putW c1.labels } ∧ Fr R.L H2 H3) ⟨⟨_, rfl⟩, O2, Fr.refl⟩ (fun j σ H3 _ p => hws.kp (O2.kp p.2.2)) ?_ ?_⟩
          · rintro j v σ H3 H4 hj ⟨⟨y4', rfl⟩, O3, fr3⟩ ⟨rfl, hv⟩
            have hj' : j < zs.length := by rw [List.length_map] at hj; exact hj
            have hz : zs[j]? = some zs[j] := List.getElem?_eq_getElem hj'
            obtain rfl : v = .str zs[j] := by
              rw [List.getElem?_map, hz] at hv
              exact (Option.some.inj hv).symm
            have hl3 : ((zs.take j).foldl putW c1.labels).length < sizeLine := by
              have h1 := foldW_len (zs.take j) c1.labels
              have h2 : (zs.take j).length ≤ 3 := by rw [List.length_take]; omega
              have := cap1.1
              exact Nat.lt_of_le_of_lt h1 (lt_sz (by omega))
            refine ⟨_, rfl, _, _, _, _, _, rfl, O3.ob, rc.cls, rc.n5, rfl, _, rfl, _, _, rfl, dput_w O3.dl hl3, ⟨_, rfl⟩, ?_, fr3.upd (by simp [RcA.L])⟩
            have e := O3.put_l zs[j]
            rw [TS.take_one hz, List.foldl_append]
            exact e
          · rintro σ H3 ⟨⟨y4', rfl⟩, O3, fr3⟩
            rw [List.length_map, List.take_length] at O3
            refine ⟨⟨_, _, _, rfl⟩, ?_, fr2.trans fr3, ?_, cap2.2⟩
            · show RC H3 R E0 { c1 with labels := ((zs.map PyData.str).map strOf).foldl putW c1.labels }
              rw [map_strOf]
              exact O3
            · show (((zs.map PyData.str).map strOf).foldl putW c1.labels).length ≤ _
              rw [map_strOf]
              have := foldW_len zs c1.labels
              have := cap1.1
              omega
        · rw [if_neg e2]
          refine ifF (decide_eq_false e2) ?_
          refine ⟨_, rfl, sz_lit (by decide), fun p1 hp1 => ⟨p1, _, rfl, .inr (.inl (.inl upd_same)), rfl, rfl, _, rfl, ?_⟩⟩
          rw [inV2]
          have sm3 : Same H2 (upd H2 p1 (.tup [.str "s", .str "r"])) := Same.new hp1
          have O3 := O2.mono sm3
          have fr3 := fr2.trans (sm3.fr (L := R.L))
          have hq3 : SqT K (upd H2 p1 (.tup [.str "s", .str "r"])) t (.str kind :: vr) := hq.kp (sm.kp.trans ((O.mono sm).kp fr3))
          revert O3 fr3 hq3
          generalize upd H2 p1 (.tup [.str "s", .str "r"]) = H3
          intro O3 fr3 hq3
          by_cases e3 : x = "s" ∨ x = "r"
          · refine ifT (decide_eq_true e3) ?_
            obtain rfl := word (by rcases e3 with e | e <;> (rw [e]; decide +kernel))
            refine ⟨_, rfl, rfl, _, rfl, ?_⟩
            rw [dec_strV]
            by_cases e4 : strOf d = "in"
            · rw [if_neg (fun h => h.2 e4), if_neg (by rcases e3 with e | e <;> (rw [e]; intro h; exact absurd h.1 (by decide +kernel))), if_neg (by rcases e3 with e | e <;> (rw [e]; decide +kernel))]
              refine ifF (by rw [decide_eq_true e4]; rfl) ?_
              refine ⟨_, rfl, rfl, _, rfl, ?_⟩
              rw [dec_strV]
              refine ifF (decide_eq_false (by rcases e3 with e | e <;> (rw [e]; decide +kernel))) ?_
              refine ifF rfl ⟨_, rfl, rfl, _, rfl, ?_⟩
              rw [dec_strV]
              exact ifF (decide_eq_false (by rcases e3 with e | e <;> (rw [e]; decide +kernel))) ⟨⟨_, _, _, rfl⟩, O3, fr3, cap2⟩
            · rw [if_pos ⟨e3, e4⟩]
              refine ifT (by rw [decide_eq_false e4]; rfl) ?_
              refine ⟨_, rfl, _, _, _, _, _, rfl, O3.ob, rc.cls, rc.n6, rfl, _, rfl, _, _, rfl, dput_w O3.ds cs, ⟨_, _, _, rfl⟩, O3.put_s _, fr3.upd (by simp [RcA.L]), cap2.1, ?_, cap2.2.2⟩
              have := putW_len c1.slots (strOf d)
              have := cap1.2.1
              show (putW c1.slots (strOf d)).length ≤ _
              omega
          · rw [if_neg (fun h => e3 h.1)]
            refine ifF (decide_eq_false e3) (ifF rfl ⟨_, rfl, rfl, _, rfl, ?_⟩)
            rw [dec_strV]
            by_cases e5 : x = "i"
            · obtain rfl := word (by rw [e5]; decide +kernel)
              refine ifT (decide_eq_true e5) ⟨_, rfl, t, _, 0, _, rfl, rfl, hq3, atI_zero _ _, rfl, _, rfl, ?_⟩
              rw [dec_strV]
              by_cases e6 : kind = "edit"
              · rw [if_pos ⟨e5, e6⟩]
                refine ifT (decide_eq_true e6) ?_
                refine ⟨_, rfl, _, _, _, _, _, rfl, O3.ob, rc.cls, rc.n8, rfl, _, rfl, _, _, rfl, dput_w O3.de ce, ⟨_, _, _, rfl⟩, O3.put_e _, fr3.upd (by simp [RcA.L]), cap2.1, cap2.2.1, cap2.2.2.1, ?_⟩
                have := putW_len c1.edits (strOf d)
                have := cap1.2.2.2
                show (putW c1.edits (strOf d)).length ≤ _
                omega
              · rw [if_neg (fun h => e6 h.2), if_pos e5]
                refine ifF (decide_eq_false e6) ⟨_, rfl, rfl, _, rfl, ?_⟩
                rw [dec_strV]
                refine ifT (decide_eq_true e5) ?_
                refine ⟨_, rfl, _, _, _, _, _, rfl, O3.ob, rc.cls, rc.n7, rfl, _, rfl, _, _, rfl, dput_w O3.dg cg, ⟨_, _, _, rfl⟩, O3.put_g _, fr3.upd (by simp [RcA.L]), cap2.1, cap2.2.1, ?_, cap2.2.2.2⟩
                have := putW_len c1.gates (strOf d)
                have := cap1.2.2.1
                show (putW c1.gates (strOf d)).length ≤ _
                omega
            · rw [if_neg (fun h => e5 h.1), if_neg e5]
              refine ifF (decide_eq_false e5) (ifF rfl ⟨_, rfl, rfl, _, rfl, ?_⟩)
              rw [dec_strV]
              exact ifF (decide_eq_false e5) ⟨⟨_, _, _, rfl⟩, O3, fr3, cap2⟩
    · rintro σ H' ⟨_, O1, fr1, _⟩
      rw [hvl, colN_all hlen] at O1
      exact k _ (sm.fr.trans fr1) O1
end
end Op
namespace Op
open PySem L2 PyProof.Rows
theorem wt_tuple (xs : List PyData) : wt (.tuple xs) = 1 + wts xs := by rw [wt]
theorem wt_list (xs : List PyData) : wt (.list xs) = 1 + wts xs := by rw [wt]
theorem wts_cons (x : PyData) (r : List PyData) : wts (x :: r) = wt x + wts r := by rw [wts]
theorem wts_nil : wts [] = 0 := by rw [wts]
def fitAll (E : Env0) (sh : Str) (parts : List PyData) : Bool := (sh.cps.toList.zip parts).all fun p => partFits E ⟨#[p.1]⟩ p.2
/-- does a text have the sign -/
def hasC (c : Nat) (sh : Str) : Bool := decide (c ∈ sh.cps.toList)
def fitRow (E : Env0) (c : Chk) (kind : Str) (parts : List PyData) (depth : Int) (lp : Bool) (sh : Str) : Bool :=
  if kind = "edit" ∧ E.we = false then false
  else if kind = "leave" ∧ lp = false then false
  else if ¬ parts.length = sh.length then false
  else if (hasC 98 sh || hasC 116 sh) = true ∧ 5 ≤ depth then false
  else if fitAll E sh parts = true then idFits c kind parts else false
def fits (E : Env0) (c : Chk) (d : PyData) (depth : Int) (lp : Bool) : Bool :=
  match d with
  | .tuple (.str kind :: parts) => match shapes.lookup kind with
    | none => false
    | some sh => fitRow E c kind parts depth lp sh
  | _ => false
theorem fitAll_iff {E : Env0} {sh : Str} {parts : List PyData} (hl : sh.cps.size = parts.length) : fitAll E sh parts = true ↔ Fitted E sh parts := by
  unfold fitAll Fitted
  rw [List.all_eq_true]
  constructor
  · intro h
    refine ⟨hl, fun i ch d h1 h2 => h (ch, d) ?_⟩
    refine List.mem_of_getElem? (i := i) ?_
    rw [List.getElem?_zip_eq_some]
    exact ⟨by rw [Array.getElem?_toList]; exact h1, h2⟩
  · rintro ⟨_, h⟩ ⟨ch, d⟩ hm
    obtain ⟨i, hi⟩ := List.getElem?_of_mem hm
    rw [List.getElem?_zip_eq_some] at hi
    exact h i ch d (by rw [← Array.getElem?_toList]; exact hi.1) hi.2
theorem ids_word {E : Env0} {kind sh : Str} {parts : List PyData} (hs : shapes.lookup kind = some sh) (h : Fitted E sh parts) (hk : kind = "edit" ∨ kind = "gate" ∨ kind = "past") : ∃ x r, parts = .str x :: r := by
  have key : ∀ sh : Str, sh.cps[0]? = some 105 → Fitted E sh parts → ∃ x r, parts = .str x :: r := by
    intro sh h0 ⟨hl, hf⟩
    cases parts with
    | nil =>
      have := (Array.getElem?_eq_some_iff.mp h0).1
      rw [hl] at this
      cases this
    | cons d r =>
      have := pf_word (hf 0 105 d h0 rfl) (by decide +kernel)
      cases d with
      | str x => exact ⟨x, r, rfl⟩
      | _ => cases this
  rcases hk with rfl | rfl | rfl
  · obtain rfl : sh = "ibb" := (Option.some.inj (hs.symm.trans (by decide +kernel : shapes.lookup ("edit" : Str) = some "ibb")))
    exact key _ (by decide +kernel) h
  · obtain rfl : sh = "ibb" := (Option.some.inj (hs.symm.trans (by decide +kernel : shapes.lookup ("gate" : Str) = some "ibb")))
    exact key _ (by decide +kernel) h
  · obtain rfl : sh = "ib" := (Option.some.inj (hs.symm.trans (by decide +kernel : shapes.lookup ("past" : Str) = some "ib")))
    exact key _ (by decide +kernel) h
theorem andNo {p : Prop} [Decidable p] {A N : Prop} (h : p → N → A) (n : N) : if decide p = true then A else N := by
  by_cases q : p
  · rw [decide_eq_true q]; exact h q n
  · rw [decide_eq_false q]; exact n
theorem orNo {p : Prop} [Decidable p] {A B N : Prop} (ha : p → N → A) (hb : ¬ p → N → B) (n : N) : if decide p = true then A else B := by
  by_cases q : p
  · rw [decide_eq_true q]; exact ha q n
  · rw [decide_eq_false q]; exact hb q n
section
variable {P : Program} {w : World} {K : PySem.W.Frag} {mg : Str → Option Value} {base : Heap} {pS CI C : Addr}
def spFits (K : PySem.W.Frag) (C : Addr) : Sp := fun vs H Q _ => ∃ (A : RcA) (E : Env0) (c : Chk) (v : V) (d : PyData) (depth : Int) (lp : Bool), vs = [.ref A.a, v, .int depth, .bl lp] ∧ A.C = C ∧ RC H A E c ∧ Dp K H v d ∧ wt d ≤ 100000 ∧
  ∀ H', Same H H' → Q (.bl (fits E c d depth lp)) H'
theorem shapes_len : ∀ {kind sh : Str}, shapes.lookup kind = some sh → sh.length ≤ 4 := by
  have key : ∀ (l : List (Str × Str)) (kind sh : Str), l.all (fun p => decide (p.2.length ≤ 4)) = true → l.lookup kind = some sh → sh.length ≤ 4 := by
    intro l
    induction l with
    | nil => intro kind sh _ h; cases h
    | cons p r ih =>
      intro kind sh ha h
      obtain ⟨a, b⟩ := p
      obtain ⟨h1, h2⟩ := Bool.and_eq_true_iff.mp ha
      rw [List.lookup_cons] at h
      cases q : kind == a with
      | true =>
        rw [q] at h
        obtain rfl := Option.some.inj h
        exact of_decide_eq_true h1
      | false =>
        rw [q] at h
        exact ih kind sh h2 h
  intro kind sh h
  exact key shapes kind sh (by decide +kernel) h
theorem sc_RowCheck_fits : FnScope ["self", "row", "depth", "in_loop", "kind", "shape", "code", "part"] ["self", "row", "depth", "in_loop"] (defScope s_RowCheck_fits) := ⟨rfl, rfl, rfl, by decide +kernel, rfl, by decide +kernel, by decide +kernel⟩
theorem ok_fits {f : Addr} {fd : FuncData} (F : Fun K "fits" "RowCheck.fits" s_RowCheck_fits f fd) (T : TxtC P w K mg pS CI) (rc : RcC K C) (m_part_fits : Mcal P w K mg base CX0 3 C "part_fits" ["self", "code", "part"] (spPF K)) (m_id_fits : Mcal P w K mg base CX0 1 C "id_fits" ["self", "row"] (spID K)) :
    FnOk P w K mg base CX0 4 f fd ["self", "row", "depth", "in_loop"] (spFits K C) := by
  refine F.ok sc_RowCheck_fits (fun vs H Q E h => ?_) (fun cdv A outer s H vs Q E hr h => ?_)
  · obtain ⟨A, E, c, v, d, depth, lp, rfl, _⟩ := h
    rfl
  · obtain ⟨R, E0, c, v, d, depth, lp, rfl, hC, O, hd, hw, k⟩ := h
    have hu := hu_of hr
    have c_RowCheck := rc.cls
    refine ⟨_, (pss_cons (ps_if (PW.pt (pw_or (pt_not (pt_val (pe_callB call_isi (by rfl) T.b_isinstance (by decide +kernel) (pa_cons (pv 1) (pa_cons (pe_bltn (v := .ty "tuple") (by rfl) T.b_tuple (by decide +kernel) rfl) pa_nil))))) (pw_or (pt_cmpR op_eq (pe_callB call_len_seq (by rfl) T.b_len (by decide +kernel) (pa_cons (pv 1) pa_nil)) pe_int (nomark _)) (pw_or1 (pt_not (pt_val (pe_callB call_isi (by rfl) T.b_isinstance (by decide +kernel) (pa_cons (pe_ix ix_tup (pv 1) pe_int (fun _ _ => rfl)) (pa_cons (pe_bltn (v := .ty "str") (by rfl) T.b_str (by decide +kernel) rfl) pa_nil))))))))) (pss_one (ps_ret pe_bl)) pss_nil)
      (pss_cons (ps_set (i := 4) sc_RowCheck_fits.nd rfl (.inl rfl) (pe_ix ix_tup (pv 1) pe_int (fun _ _ => rfl)))
      (pss_cons (ps_if (PW.pt (pw_or (pt_cmpR op_notIn_wtab (pv 4) (pe_gref rfl T.g_SHAPES) (by rfl)) (pw_or1 (PW.pt (pw_and (pt_cmpR op_eq (pv 4) pe_str (nomark _)) (pw_and1 (pt_not (pt_val (pe_fld (pv 0) rfl))))))))) (pss_one (ps_ret pe_bl)) pss_nil)
      (pss_cons (ps_if (PW.pt (pw_and (pt_cmpR op_eq (pv 4) pe_str (nomark _)) (pw_and1 (pt_not (pt_val (pv 3)))))) (pss_one (ps_ret pe_bl)) pss_nil)
      (pss_cons (ps_set (i := 5) sc_RowCheck_fits.nd rfl (.inl rfl) (pe_ix ix_wtab (pe_gref rfl T.g_SHAPES) (pv 4) (fun _ _ => rfl)))
      (pss_cons (ps_if (pt_cmpR op_ne (pe_callB call_len_seq (by rfl) T.b_len (by decide +kernel) (pa_cons (pv 1) pa_nil)) (pe_op op_add pe_int (pe_callB call_len_str (by rfl) T.b_len (by decide +kernel) (pa_cons (pv 5) pa_nil))) (nomark _)) (pss_one (ps_ret pe_bl)) pss_nil)
      (pss_cons (ps_if (PW.pt (pw_and (PW.pt (pw_or (pt_cmpR op_in_sign pe_str (pv 5) (by rfl)) (pw_or1 (pt_cmpR op_in_sign pe_str (pv 5) (by rfl))))) (pw_and1 (pt_cmpR op_ge (pv 2) (pe_glob (v := .int (5)) rfl T.g_DEEPEST.choose_spec ⟨_, rfl⟩) (nomark _))))) (pss_one (ps_ret pe_bl)) pss_nil)
      (pss_cons (ps_for PassesOwn.never rfl (pi_zipS (by rfl) T.b_zip (pa_cons (pv 5) (pa_cons (pe_slice sl_tupA (pv 1) (po_some pe_int) po_none) pa_nil))) (pg_tup rfl (pgs_cons (pg_name (i := 6) sc_RowCheck_fits.nd rfl (.inl rfl)) (pgs_cons (pg_name (i := 7) sc_RowCheck_fits.nd rfl (.inl rfl)) pgs_nil))) (pss_one (ps_if (pt_not (pt_val (pe_mcal (pv 0) c_RowCheck m_part_fits (hr.mono (by omega)) pass0 (pa_cons (pv 6) (pa_cons (pv 7) pa_nil))))) (pss_one (ps_ret pe_bl)) pss_nil)))
      (pss_one (ps_ret (pe_mcal (pv 0) c_RowCheck m_id_fits (hr.mono (by omega)) pass0 (pa_cons (pv 1) pa_nil)))))))))))), ?_⟩
    refine ⟨_, rfl, v, _, _, _, _, rfl, .ty _, ty_dp hd, kit_tuple d, _, rfl, ?_⟩
    cases hd with
    | @tup t xs ds hq ha =>
      refine ifF rfl ⟨_, rfl, t, xs, rfl, .inr hq, rfl, _, rfl, ?_⟩
      cases ha with
      | nil => exact ifT rfl (ifT rfl (k _ (Same.refl _)))
      | @cons v0 vr d0 dr h0 hr0 =>
      refine ifF (decide_eq_false (by intro z; injection z with z; rw [List.length_cons] at z; omega)) ?_
      refine ⟨_, rfl, t, _, 0, _, rfl, rfl, hq, atI_zero _ _, v0, _, _, _, _, rfl, .ty _, ty_dp h0, kit_str d0, _, rfl, ?_⟩
      cases h0 with
      | str kind =>
        refine ifF rfl ?_
        refine ⟨_, rfl, t, _, 0, _, rfl, rfl, hq, atI_zero _ _, ?_⟩
        refine ⟨_, rfl, pS, kind, _, rfl, rfl, T.w_SHAPES, _, rfl, ?_⟩
        rw [shapes_look]
        have k : ∀ H', Same H H' → Q (.bl (match shapes.lookup kind with | none => false | some sh => fitRow E0 c kind dr depth lp sh)) H' := k
        cases hsh : shapes.lookup kind with
        | none =>
          rw [hsh] at k
          exact ifT rfl (ifT rfl (k _ (Same.refl _)))
        | some sh =>
        rw [hsh] at k
        have k : ∀ H', Same H H' → Q (.bl (fitRow E0 c kind dr depth lp sh)) H' := k
        unfold fitRow at k
        refine ifF rfl ⟨_, rfl, rfl, _, rfl, ?_⟩
        rw [dec_strV]
        by_cases e1 : kind = "edit" ∧ E0.we = false
        · rw [if_pos e1] at k
          refine ifT (decide_eq_true e1.1) ⟨_, rfl, _, _, _, _, _, rfl, O.ob, hC ▸ rc.cls, hC ▸ rc.n3, rfl, _, rfl, ?_⟩
          rw [e1.2]
          exact ifT rfl (k _ (Same.refl _))
        rw [if_neg e1] at k
        refine andNo (fun e n => ?_) (ifF rfl ?_)
        · refine ⟨_, rfl, _, _, _, _, _, rfl, O.ob, hC ▸ rc.cls, hC ▸ rc.n3, rfl, _, rfl, ?_⟩
          rw [show E0.we = true from (by cases q : E0.we with | true => rfl | false => exact absurd ⟨e, q⟩ e1)]
          exact n
        refine ⟨_, rfl, rfl, _, rfl, ?_⟩
        rw [dec_strV]
        by_cases e2 : kind = "leave" ∧ lp = false
        · rw [if_pos e2] at k
          refine ifT (decide_eq_true e2.1) ⟨_, rfl, _, rfl, ?_⟩
          rw [e2.2]
          exact ifT rfl (k _ (Same.refl _))
        rw [if_neg e2] at k
        refine andNo (fun e n => ?_) (ifF rfl ?_)
        · refine ⟨_, rfl, _, rfl, ?_⟩
          cases lp with
          | true => exact n
          | false => exact absurd ⟨e, rfl⟩ e2
        refine ⟨_, rfl, pS, kind, _, .str sh, rfl, rfl, T.w_SHAPES, by rw [shapes_look, hsh]; rfl, ?_⟩
        have hsl := shapes_len hsh
        have hvl := hr0.len
        refine ⟨_, rfl, t, _, rfl, .inr hq, _, rfl, sh, rfl, sz_lit (by omega), _, _, rfl, rfl, rfl, _, rfl, ?_⟩
        have el : decide (V.int ((V.str kind :: vr).length : Nat) = V.int (1 + (sh.length : Nat))) = decide (dr.length = sh.length) := by
          rw [Bool.eq_iff_iff, decide_eq_true_iff, decide_eq_true_iff, List.length_cons]
          constructor
          · intro z; injection z with z; omega
          · intro z; congr 1; omega
        rw [el]
        by_cases e3 : ¬ dr.length = sh.length
        · rw [if_pos e3] at k
          rw [decide_eq_false e3]
          exact ifT rfl (k _ (Same.refl _))
        rw [if_neg e3] at k
        have e3 : dr.length = sh.length := Decidable.byContradiction e3
        rw [decide_eq_true e3]
        refine ifF rfl ?_
        refine ⟨_, rfl, 98, sh, rfl, rfl, _, rfl, ?_⟩
        by_cases e4 : (hasC 98 sh || hasC 116 sh) = true ∧ 5 ≤ depth
        · rw [if_pos e4] at k
          by_cases q : 98 ∈ sh.cps.toList
          · refine ifT (decide_eq_true q) (ifT rfl ⟨_, rfl, _, _, rfl, rfl, _, rfl, ?_⟩)
            exact ifT (decide_eq_true e4.2) (k _ (Same.refl _))
          · refine ifF (decide_eq_false q) ⟨_, rfl, 116, sh, rfl, rfl, _, rfl, ?_⟩
            have e5 := e4.1
            unfold hasC at e5
            rw [decide_eq_false q, Bool.false_or] at e5
            refine ifT e5 ⟨_, rfl, _, _, rfl, rfl, _, rfl, ?_⟩
            exact ifT (decide_eq_true e4.2) (k _ (Same.refl _))
        rw [if_neg e4] at k
        apply orNo
        · intro e n
          refine ifT rfl ⟨_, rfl, _, _, rfl, rfl, _, rfl, ?_⟩
          have e5 : decide (5 ≤ depth) = false := decide_eq_false fun h => e4 ⟨by unfold hasC; rw [decide_eq_true e]; rfl, h⟩
          show ite (decide (5 ≤ depth) = true) _ _
          rw [e5]
          exact n
        · intro e n
          refine ⟨_, rfl, 116, sh, rfl, rfl, _, rfl, ?_⟩
          by_cases q : 116 ∈ sh.cps.toList
          · refine ifT (decide_eq_true q) ⟨_, rfl, _, _, rfl, rfl, _, rfl, ?_⟩
            have e5 : decide (5 ≤ depth) = false := decide_eq_false fun h => e4 ⟨by unfold hasC; rw [decide_eq_true q, Bool.or_true], h⟩
            show ite (decide (5 ≤ depth) = true) _ _
            rw [e5]
            exact n
          · exact ifF (decide_eq_false q) n
        refine ifF rfl ?_
        refine ⟨_, rfl, _, rfl, 1, rfl, t, _, rfl, hq, fun z => absurd z (cut1n _ _), fun _ p hp => ?_⟩
        rw [cut1]
        have sm : Same H (upd H p (.tup vr)) := Same.new hp
        refine ⟨sh, p, vr, rfl, .inl (.inl upd_same), ?_⟩
        have hlen : sh.cps.size = dr.length := e3.symm
        refine for_zipS (by omega) (fun i σ H' => (∃ y6 y7 : Option V, σ = [some (.ref R.a), some (.ref t), some (.int depth), some (.bl lp), some (.str kind), some (.str sh), y6, y7]) ∧ Same H H' ∧ SqT K H' p vr ∧ ((sh.cps.toList.zip dr).take i).all (fun p => partFits E0 ⟨#[p.1]⟩ p.2) = true) ⟨⟨_, _, rfl⟩, sm, .inl (.inl upd_same), rfl⟩ (fun i σ H' q => q.2.2.1) ?_ ?_
        · rintro i ch y T0 σ H' h1 h2 ⟨⟨y6, y7, rfl⟩, s1, hp1, hall⟩ hT0
          obtain ⟨d, h3, hdy⟩ := hr0.get h2
          have sm1 : Same H' (upd H' T0 (.tup [.str ⟨#[ch]⟩, y])) := Same.new hT0
          have hz : (sh.cps.toList.zip dr)[i]? = some (ch, d) := by
            rw [List.getElem?_zip_eq_some]
            exact ⟨by rw [Array.getElem?_toList]; exact h1, h3⟩
          refine ⟨T0, _, rfl, .inl (.inl upd_same), rfl, _, _, rfl, _, _, rfl, rfl, ?_⟩
          have s2 := s1.trans sm1
          have hp2 := hp1.mono sm1
          revert s2 hp2
          generalize upd H' T0 (.tup [.str ⟨#[ch]⟩, y]) = H2
          intro s2 hp2
          have O2 := O.mono s2
          have hwd : wt d ≤ 100000 := by
            have a1 := wts_mem (List.mem_of_getElem? h3)
            have a2 : wt (.tuple (.str kind :: dr)) = 1 + (wt (.str kind) + wts dr) := by rw [wt_tuple, wts_cons]
            omega
          subst hC
          refine ⟨_, rfl, _, _, _, rfl, O2.ob, rfl, _, rfl, _, rfl, R, E0, c, _, y, d, rfl, O2, rc, hdy.mono s2, hwd, _, rfl, ?_⟩
          by_cases q : partFits E0 ⟨#[ch]⟩ d = true
          · rw [q]
            refine ifF rfl ⟨⟨_, _, rfl⟩, s2, hp2, ?_⟩
            rw [TS.take_one hz, List.all_append, hall]
            simp [q]
          · rw [Bool.eq_false_iff.mpr q]
            refine ifT rfl ?_
            have e5 : fitAll E0 sh dr = false := by
              refine Bool.eq_false_iff.mpr fun z => q ?_
              exact List.all_eq_true.mp z (ch, d) (List.mem_of_getElem? hz)
            rw [e5] at k
            exact k _ s2
        · rintro σ H' ⟨⟨y6, y7, rfl⟩, s1, _, hall⟩
          rw [List.take_of_length_le (by rw [List.length_zip, Array.length_toList]; omega)] at hall
          have e5 : fitAll E0 sh dr = true := hall
          rw [if_pos e5] at k
          have O2 := O.mono s1
          subst hC
          refine ⟨_, rfl, _, _, _, rfl, O2.ob, rfl, _, rfl, R, E0, c, t, kind, dr, rfl, O2, rc, .tup (hq.mono s1) (.cons (.str kind) (DpAll.mono s1 hr0)), ids_word hsh ((fitAll_iff hlen).mp e5), fun H3 s3 => k _ (s1.trans s3)⟩
      | _ => exact ifT rfl (k _ (Same.refl _))
    | _ => exact ifT rfl (ifT rfl (k _ (Same.refl _)))
end
end Op
namespace L2
open PySem PySem.Spec PyProof.Rows
theorem DpAll.append {K : PySem.W.Frag} {H : Hp} : ∀ {vs ws : List V} {ds es : List PyData}, DpAll K H vs ds → DpAll K H ws es → DpAll K H (vs ++ ws) (ds ++ es)
  | _, _, _, _, .nil, h => h
  | _, _, _, _, .cons a b, h => .cons a (b.append h)
end L2
namespace Op
open PySem L2 PyProof.Rows
/-- the lists of rows within a row -/
def innerL (kind : Str) (parts : List PyData) : List PyData :=
  if kind = "both" then (match parts with | .tuple ds :: _ => ds | _ => []) else parts.filter isList
section
variable {P : Program} {w : World} {K : PySem.W.Frag} {mg : Str → Option Value} {base : Heap}
def spInner (K : PySem.W.Frag) : Sp := fun vs H Q _ => ∃ (t : Addr) (kind : Str) (parts : List PyData), vs = [.ref t] ∧ Dp K H (.ref t) (.tuple (.str kind :: parts)) ∧ parts.length ≤ 1000 ∧ (kind = "both" → ∃ ds r, parts = .tuple ds :: r) ∧
  ∀ p xs H', Same H H' → H p = none → H' p = some (.lst xs) → DpAll K H xs (innerL kind parts) → Q (.ref p) H'
/-- the same, the data read in a part G of the heap -/
def spInnerG (K : PySem.W.Frag) : Sp := fun vs H Q _ => ∃ (G : Hp) (t : Addr) (kind : Str) (parts : List PyData), vs = [.ref t] ∧ Same G H ∧ Dp K G (.ref t) (.tuple (.str kind :: parts)) ∧ parts.length ≤ 1000 ∧ (kind = "both" → ∃ ds r, parts = .tuple ds :: r) ∧
  ∀ p xs H', Same H H' → H p = none → H' p = some (.lst xs) → DpAll K G xs (innerL kind parts) → Q (.ref p) H'
theorem sc_inner_lists : FnScope ["row", "part"] ["row"] (defScope s_inner_lists) := ⟨rfl, rfl, rfl, by decide +kernel, rfl, by decide +kernel, by decide +kernel⟩
theorem ok_inner_listsG {f : Addr} {fd : FuncData} (F : Fun K "inner_lists" "inner_lists" s_inner_lists f fd) (T : Txt mg) : FnOk P w K mg base CX0 1 f fd ["row"] (spInnerG K) := by
  refine F.ok sc_inner_lists (fun vs H Q E h => ?_) (fun cdv A outer s H vs Q E hr h => ?_)
  · obtain ⟨G, t, kind, parts, rfl, _⟩ := h
    rfl
  · obtain ⟨G, t, kind, parts, rfl, hG, hd, hpl, hb, k⟩ := h
    cases hd with
    | @tup _ xs _ hq ha =>
    cases ha with
    | @cons v0 vr d0 dr h0 hr0 =>
    cases h0 with
    | str kind =>
    have hqG := hq
    replace hq := hq.mono hG
    have hvl := hr0.len
    unfold innerL at k
    refine ⟨_, (pss_cons (ps_if (pt_cmpR op_eq (pe_ix ix_tup (pv 0) pe_int (fun _ _ => rfl)) pe_str (nomark _)) (pss_one (ps_ret (pe_callTy call_list_of (by rfl) T.b_list (by decide +kernel) (pa_cons (pe_ix ix_tup (pv 0) pe_int (fun _ _ => rfl)) pa_nil)))) pss_nil)
      (pss_one (ps_ret (pe_lc (own := [("part", 1)]) (g := gName 1)  rfl sc_inner_lists.nd (pi_tup (pv 0)) (blkOk_by (own := [("part", 1)]) (N := ["row", "part"]) (sc := defScope s_inner_lists) (by decide +kernel)) (fun _ _ _ _ _ => (pg_name (i := 1) sc_inner_lists.nd rfl (.inl rfl))) (fun _ _ _ _ _ => (pts_one (pt_val (pe_callB (id := "isinstance") (r := rIsi K) call_isi (by rfl) T.b_isinstance (by decide +kernel) (pa_cons (pv 1) (pa_cons (pe_bltn (v := .ty "list") (by rfl) T.b_list (by decide +kernel) rfl) pa_nil)))))) (fun _ _ _ _ _ => (pv 1)))))), ?_⟩
    refine ⟨_, rfl, t, _, 0, _, rfl, rfl, hq, atI_zero _ _, rfl, _, rfl, ?_⟩
    rw [dec_strV]
    by_cases e1 : kind = "both"
    · rw [if_pos e1] at k
      obtain ⟨ds, r, rfl⟩ := hb e1
      cases hr0 with
      | @cons v1 vs1 d1 dr1 h1 hr1 =>
      cases h1 with
      | @tup q ws _ hqw haw =>
      refine ifT (decide_eq_true e1) ⟨_, rfl, t, _, 1, _, rfl, rfl, hq, atI_one _ _ _, q, ws, rfl, .inr (hqw.mono hG), fun l hl => ?_⟩
      exact k l ws _ (Same.new hl) hl upd_same haw
    · rw [if_neg e1] at k
      refine ifF (decide_eq_false e1) ⟨_, rfl, t, rfl, ⟨_, hq⟩, fun D hD => ?_⟩
      refine lc_it (walk_tup (xs := .str kind :: vr)) (fun i H' => ∃ acc, H' D = some (.lst acc) ∧ acc.length ≤ i ∧ DpAll K G acc (((.str kind :: parts).take i).filter isList) ∧ Same H H') ⟨[], upd_same, Nat.le_refl _, .nil, Same.new hD⟩ (fun i H' _ p => hq.mono (let ⟨_, _, _, _, s⟩ := p; s)) ?_ ?_
      · rintro i x H1 H2 hi ⟨acc, hacc, hal, hdp, sm⟩ ⟨rfl, hx⟩
        obtain ⟨d, hd1, hd2⟩ := DpAll.get (.cons (.str kind) hr0) hx
        refine ⟨rfl, _, rfl, x, _, _, _, _, rfl, .ty _, ty_dp ((hd2.mono hG).mono sm), kit_list d, _, rfl, ?_⟩
        have hi' : i < 2000 := by rw [List.length_cons] at hi; omega
        have e2 : ((.str kind :: parts).take (i + 1)).filter isList = ((.str kind :: parts).take i).filter isList ++ [d].filter isList := by
          rw [TS.take_one hd1, List.filter_append]
        by_cases q : isList d = true
        · rw [q]
          refine ifT rfl ⟨_, rfl, acc, hacc, lt_sz (by omega), acc ++ [x], upd_same, by rw [List.length_append]; show acc.length + 1 ≤ _; omega, ?_, fun b o hb => ?_⟩
          · rw [e2, List.filter_cons_of_pos q, List.filter_nil]
            exact hdp.append (.cons hd2 .nil)
          · rw [upd_ne (ne_of_none hb hD)]
            exact sm b o hb
        · rw [Bool.eq_false_iff.mpr q]
          refine ifF rfl ⟨acc, hacc, by omega, ?_, sm⟩
          rw [e2, List.filter_cons_of_neg (by rw [Bool.eq_false_iff.mpr q]; exact Bool.false_ne_true), List.filter_nil, List.append_nil]
          exact hdp
      · rintro H1 ⟨acc, hacc, _, hdp, sm⟩
        refine k D acc H1 sm hD hacc ?_
        rw [List.take_of_length_le (by rw [List.length_cons, List.length_cons]; omega)] at hdp
        exact hdp
theorem ok_inner_lists {f : Addr} {fd : FuncData} (F : Fun K "inner_lists" "inner_lists" s_inner_lists f fd) (T : Txt mg) : FnOk P w K mg base CX0 1 f fd ["row"] (spInner K) :=
  (ok_inner_listsG F T).imp fun vs H Q E h => by
    obtain ⟨t, kind, parts, rfl, hd, hpl, hb, k⟩ := h
    exact ⟨H, t, kind, parts, rfl, fun _ _ z => z, hd, hpl, hb, k⟩
end
end Op
namespace Op
open PySem L2 PyProof.Rows
/-! ### the mirror: the check of a list of rows -/
abbrev Out := Except (List Int) Chk
def listOf : PyData → List PyData
  | .list ds => ds
  | _ => []
def chkIn (rec : List PyData → List Int → Chk → Out) (pre : List Int) : List PyData → Nat → Chk → Out
  | [], _, c => .ok c
  | d :: r, j, c => match rec (listOf d) (pre ++ [(j : Int)]) c with
    | .error p => .error p
    | .ok c' => chkIn rec pre r (j + 1) c'
def inside (lp : Bool) (kind : Str) : Bool := if kind = "both" then false else lp || decide (kind = "loop")
def shapeOf (kind : Str) : Str := (shapes.lookup kind).getD ""
def chkRow (rec : Bool → List PyData → List Int → Chk → Out) (E : Env0) (depth : Int) (lp : Bool) (pre : List Int) (d : PyData) (i : Nat) (c : Chk) : Out :=
  match d with
  | .tuple (.str kind :: parts) => if fits E c d depth lp = true then chkIn (rec (inside lp kind)) (pre ++ [(i : Int)]) (innerL kind parts) 0 (collect { c with total := c.total + 1 } kind (shapeOf kind) parts) else .error (pre ++ [(i : Int)])
  | _ => .error (pre ++ [(i : Int)])
def chkRows (row : PyData → Nat → Chk → Out) : List PyData → Nat → Chk → Out
  | [], _, c => .ok c
  | d :: r, i, c => match row d i c with
    | .error p => .error p
    | .ok c' => chkRows row r (i + 1) c'
def chkL (E : Env0) : Nat → Bool → List PyData → List Int → Chk → Out
  | 0, _, _, _, c => .ok c
  | n + 1, lp, ds, pre, c => chkRows (chkRow (chkL E n) E (5 - (n : Int)) lp pre) ds 0 c
/-! ### sizes -/
theorem colPart_cap {E : Env0} {kind : Str} {c : Chk} {x : Str} {d : PyData} {n : Nat} (hf : partFits E x d = true) (h : Cap c n) : Cap (colPart kind c x d) (n + 3) := by
  obtain ⟨h1, h2, h3, h4⟩ := h
  unfold colPart
  split
  · have := putW_len c.labels (strOf d)
    exact ⟨by show (putW c.labels (strOf d)).length ≤ _; omega, by show c.slots.length ≤ _; omega, by show c.gates.length ≤ _; omega, by show c.edits.length ≤ _; omega⟩
  · split
    · rename_i e
      obtain ⟨zs, rfl, hz, _⟩ := aw_tup (pf_m (by rw [← e]; exact hf))
      refine ⟨?_, by show c.slots.length ≤ _; omega, by show c.gates.length ≤ _; omega, by show c.edits.length ≤ _; omega⟩
      show (((zs.map PyData.str).map strOf).foldl putW c.labels).length ≤ _
      rw [map_strOf]
      have := foldW_len zs c.labels
      omega
    · split
      · have := putW_len c.slots (strOf d)
        exact ⟨by show c.labels.length ≤ _; omega, by show (putW c.slots (strOf d)).length ≤ _; omega, by show c.gates.length ≤ _; omega, by show c.edits.length ≤ _; omega⟩
      · split
        · have := putW_len c.edits (strOf d)
          exact ⟨by show c.labels.length ≤ _; omega, by show c.slots.length ≤ _; omega, by show c.gates.length ≤ _; omega, by show (putW c.edits (strOf d)).length ≤ _; omega⟩
        · split
          · have := putW_len c.gates (strOf d)
            exact ⟨by show c.labels.length ≤ _; omega, by show c.slots.length ≤ _; omega, by show (putW c.gates (strOf d)).length ≤ _; omega, by show c.edits.length ≤ _; omega⟩
          · exact ⟨by omega, by omega, by omega, by omega⟩
theorem colPart_total {kind : Str} {c : Chk} {x : Str} {d : PyData} : (colPart kind c x d).total = c.total := by
  unfold colPart
  repeat' split
  all_goals rfl
theorem collect_cap {E : Env0} {kind sh : Str} {c : Chk} {parts : List PyData} {n : Nat} (hf : Fitted E sh parts) (h : Cap c n) : Cap (collect c kind sh parts) (n + 3 * parts.length) := by
  have key : ∀ i, i ≤ parts.length → Cap (colN c kind sh parts i) (n + 3 * i) := by
    intro i
    induction i with
    | zero => intro _; exact h
    | succ i ih =>
      intro hi
      have h2 : parts[i]? = some parts[i] := List.getElem?_eq_getElem hi
      have hs : i < sh.cps.size := by rw [hf.1]; exact hi
      have h1 : sh.cps[i]? = some sh.cps[i] := Array.getElem?_eq_getElem hs
      rw [colN_succ h1 h2]
      exact (colPart_cap (hf.2 i _ _ h1 h2) (ih (by omega))).mono (by omega)
  rw [← colN_all hf.1]
  exact key _ (Nat.le_refl _)
def wIn : List PyData → Nat
  | [] => 0
  | d :: r => wts (listOf d) + wIn r
theorem wts_listOf (d : PyData) : wts (listOf d) + 1 ≤ wt d := by
  cases d with
  | list ds => rw [wt_list]; show wts ds + 1 ≤ _; omega
  | _ => exact (by have := wt_pos; rw [show listOf _ = [] from rfl, wts_nil]; exact wt_pos _)
theorem wIn_le : ∀ ds : List PyData, wIn ds ≤ wts ds
  | [] => by rw [wts_nil]; exact Nat.le_refl _
  | d :: r => by
    have := wIn_le r
    have := wts_listOf d
    rw [wts_cons]
    show wts (listOf d) + wIn r ≤ _
    omega
theorem wIn_filter : ∀ ds : List PyData, ds.length + wIn (ds.filter isList) ≤ wts ds
  | [] => by rw [wts_nil]; exact Nat.le_refl _
  | d :: r => by
    have h1 := wIn_filter r
    have h2 := wts_listOf d
    rw [wts_cons, List.length_cons]
    by_cases q : isList d = true
    · rw [List.filter_cons_of_pos q]
      show _ + (wts (listOf d) + wIn (r.filter isList)) ≤ _
      omega
    · rw [List.filter_cons_of_neg q]
      omega
theorem wIn_inner (kind : Str) (parts : List PyData) : parts.length + wIn (innerL kind parts) ≤ wts parts := by
  unfold innerL
  split
  · cases parts with
    | nil => rw [wts_nil]; exact Nat.le_refl _
    | cons d r =>
      have h1 := wts_len r
      have h0 := wt_pos d
      rw [wts_cons, List.length_cons]
      cases d with
      | tuple ds =>
        have := wIn_le ds
        rw [wt_tuple]
        show _ + wIn ds ≤ _
        omega
      | _ =>
        show r.length + 1 + 0 ≤ _
        omega
  · exact wIn_filter parts
def CapF (f : List PyData → List Int → Chk → Out) : Prop := ∀ ds pre c c' m, f ds pre c = .ok c' → Cap c m → Cap c' (m + 3 * wts ds)
theorem chkIn_cap {f : List PyData → List Int → Chk → Out} (hf : CapF f) {pre : List Int} : ∀ (l : List PyData) (j : Nat) (c c' : Chk) (m : Nat), chkIn f pre l j c = .ok c' → Cap c m → Cap c' (m + 3 * wIn l)
  | [], j, c, c', m, h, k => by
    obtain rfl := Except.ok.inj h
    exact k
  | d :: r, j, c, c', m, h, k => by
    unfold chkIn at h
    cases q : f (listOf d) (pre ++ [(j : Int)]) c with
    | error p => rw [q] at h; cases h
    | ok c1 =>
      rw [q] at h
      have h1 := hf _ _ _ _ _ q k
      have h2 := chkIn_cap hf r (j + 1) c1 c' _ h h1
      exact h2.mono (by show _ ≤ m + 3 * (wts (listOf d) + wIn r); omega)
theorem fits_shape {E : Env0} {c : Chk} {kind : Str} {parts : List PyData} {depth : Int} {lp : Bool} (h : fits E c (.tuple (.str kind :: parts)) depth lp = true) : shapes.lookup kind = some (shapeOf kind) ∧ Fitted E (shapeOf kind) parts ∧ ((hasC 98 (shapeOf kind) || hasC 116 (shapeOf kind)) = true → depth < 5) := by
  have h : (match shapes.lookup kind with | none => false | some sh => fitRow E c kind parts depth lp sh) = true := h
  cases q : shapes.lookup kind with
  | none => rw [q] at h; cases h
  | some sh =>
    rw [q] at h
    have e : shapeOf kind = sh := by unfold shapeOf; rw [q]; rfl
    rw [e]
    have h : fitRow E c kind parts depth lp sh = true := h
    unfold fitRow at h
    split at h
    · cases h
    · split at h
      · cases h
      · split at h
        · cases h
        · rename_i e3
          have e3 : parts.length = sh.length := Decidable.byContradiction e3
          split at h
          · cases h
          · rename_i e4
            split at h
            · rename_i e5
              exact ⟨rfl, (fitAll_iff e3.symm).mp e5, fun z => Decidable.byContradiction fun w => e4 ⟨z, by omega⟩⟩
            · cases h
theorem chkRow_cap {rec : Bool → List PyData → List Int → Chk → Out} (hr : ∀ lp, CapF (rec lp)) {E : Env0} {depth : Int} {lp : Bool} {pre : List Int} {d : PyData} {i : Nat} {c c' : Chk} {m : Nat} (h : chkRow rec E depth lp pre d i c = .ok c') (k : Cap c m) : Cap c' (m + 3 * wt d) := by
  unfold chkRow at h
  split at h
  · rename_i kind parts
    split at h
    · rename_i hf
      obtain ⟨_, hF, _⟩ := fits_shape hf
      have h1 := collect_cap (kind := kind) (c := { c with total := c.total + 1 }) hF k
      have h2 := chkIn_cap (hr _) _ _ _ _ _ h h1
      have h3 := wIn_inner kind parts
      refine h2.mono ?_
      rw [wt_tuple, wts_cons]
      omega
    · cases h
  · cases h
theorem chkRows_cap {row : PyData → Nat → Chk → Out} (hr : ∀ d i c c' m, row d i c = .ok c' → Cap c m → Cap c' (m + 3 * wt d)) : ∀ (l : List PyData) (j : Nat) (c c' : Chk) (m : Nat), chkRows row l j c = .ok c' → Cap c m → Cap c' (m + 3 * wts l)
  | [], j, c, c', m, h, k => by
    obtain rfl := Except.ok.inj h
    exact k.mono (by omega)
  | d :: r, j, c, c', m, h, k => by
    unfold chkRows at h
    cases q : row d j c with
    | error p => rw [q] at h; cases h
    | ok c1 =>
      rw [q] at h
      have h1 := hr _ _ _ _ _ q k
      have h2 := chkRows_cap hr r (j + 1) c1 c' _ h h1
      exact h2.mono (by rw [wts_cons]; omega)
theorem chkL_cap (E : Env0) : ∀ (n : Nat) (lp : Bool), CapF (chkL E n lp)
  | 0, lp => fun ds pre c c' m h k => by
    obtain rfl := Except.ok.inj h
    exact k.mono (by omega)
  | n + 1, lp => fun ds pre c c' m h k => chkRows_cap (fun d i c c' m h k => chkRow_cap (chkL_cap E n) h k) ds 0 c c' m h k
/-- at the deepest level no row has lists -/
theorem inner_deep {E : Env0} {c : Chk} {kind : Str} {parts : List PyData} {depth : Int} {lp : Bool} (h : fits E c (.tuple (.str kind :: parts)) depth lp = true) (hd : 5 ≤ depth) : innerL kind parts = [] := by
  obtain ⟨hs, ⟨hl, hF⟩, hb⟩ := fits_shape h
  have nb : (hasC 98 (shapeOf kind) || hasC 116 (shapeOf kind)) = false := Bool.eq_false_iff.mpr fun z => by
    have := hb z
    omega
  unfold innerL
  split
  · rename_i e
    subst e
    exact absurd nb (by decide +kernel)
  · refine List.filter_eq_nil_iff.mpr fun d hm hd' => ?_
    obtain ⟨i, hi⟩ := List.getElem?_of_mem hm
    have hi' := (List.getElem?_eq_some_iff.mp hi).1
    have h1 : (shapeOf kind).cps[i]? = some ((shapeOf kind).cps[i]'(by omega)) := Array.getElem?_eq_getElem _
    have hf := hF i _ d h1 hi
    have hm' : (shapeOf kind).cps[i]'(by omega) ∈ (shapeOf kind).cps.toList := List.mem_of_getElem? (i := i) (by rw [Array.getElem?_toList]; exact h1)
    revert hf hm' 
    generalize (shapeOf kind).cps[i]'(by omega) = ch
    intro hf hm'
    have n1 : ch ≠ 98 := fun z => by
      unfold hasC at nb
      rw [← z, decide_eq_true hm'] at nb
      cases nb
    have n2 : ch ≠ 116 := fun z => by
      unfold hasC at nb
      rw [← z, decide_eq_true hm', Bool.or_true] at nb
      cases nb
    have sb : ¬ (⟨#[ch]⟩ : Str) = "b" := fun z => n1 (by
      have z : (⟨#[ch]⟩ : Str) = ⟨#[98]⟩ := z
      simpa using z)
    have st : ¬ (⟨#[ch]⟩ : Str) = "t" := fun z => n2 (by
      have z : (⟨#[ch]⟩ : Str) = ⟨#[116]⟩ := z
      simpa using z)
    by_cases em : (⟨#[ch]⟩ : Str) = "m" ∨ (⟨#[ch]⟩ : Str) = "v"
    · unfold partFits at hf
      rw [if_neg (by rcases em with e | e <;> (rw [e]; decide +kernel)), if_neg (by rcases em with e | e <;> (rw [e]; decide +kernel)), if_neg (by rcases em with e | e <;> (rw [e]; decide +kernel)), if_pos em] at hf
      cases d with
      | tuple _ => cases hd'
      | _ => cases hf
    · have := pf_word hf ⟨em, sb, st⟩
      cases d with
      | str _ => cases hd'
      | _ => cases this
theorem both_tuple {E : Env0} {c : Chk} {kind : Str} {parts : List PyData} {depth : Int} {lp : Bool} (h : fits E c (.tuple (.str kind :: parts)) depth lp = true) (hk : kind = "both") : ∃ ds r, parts = .tuple ds :: r ∧ ∀ d ∈ ds, isList d = true := by
  obtain ⟨hs, ⟨hl, hF⟩, hb⟩ := fits_shape h
  subst hk
  cases parts with
  | nil => exact absurd hl (by decide +kernel)
  | cons d r =>
    have hf := hF 0 116 d (by decide +kernel) rfl
    have hf : isBranches d = true := hf
    cases d with
    | tuple ds => exact ⟨ds, r, rfl, fun d hd => List.all_eq_true.mp (Bool.and_eq_true_iff.mp hf).2 d hd⟩
    | _ => cases hf
theorem inner_lists_all {E : Env0} {c : Chk} {kind : Str} {parts : List PyData} {depth : Int} {lp : Bool} (h : fits E c (.tuple (.str kind :: parts)) depth lp = true) : ∀ d ∈ innerL kind parts, isList d = true := by
  intro d hd
  unfold innerL at hd
  split at hd
  · rename_i e
    obtain ⟨ds, r, rfl, p⟩ := both_tuple h e
    exact p d hd
  · exact (List.mem_filter.mp hd).2
end Op
namespace L2
open PySem PySem.Spec PyProof.Rows
theorem cat_any {K : PySem.W.Frag} {H : Hp} {a b : Addr} {xs ys : List V} {Q : VK} (ha : SqT K H a xs) (hb : SqT K H b ys) (hz : xs.length + ys.length ≤ sizeLine) (k : ∀ t H', Same H H' → SqT K H' t (xs ++ ys) → Q (.ref t) H') : rCatA K (.ref a) (.ref b) H Q := by
  refine ⟨a, b, xs, ys, rfl, rfl, ha, hb, hz, fun e => ?_, fun _ e => ?_, fun _ _ p hp => k p _ (Same.new hp) (.inl (.inl upd_same))⟩
  · subst e
    exact k b H (Same.refl _) hb
  · subst e
    exact k a H (Same.refl _) (by rw [List.append_nil]; exact ha)
end L2
namespace Op
open PySem L2 PyProof.Rows
theorem putF_total (A : RcA) (E : Env0) (c : Chk) (n : Int) : putF "total" (.int n) (rcF A E c) = rcF A E { c with total := n } := rfl
theorem chkRow_no {rec : Bool → List PyData → List Int → Chk → Out} {E : Env0} {depth : Int} {lp : Bool} {pre : List Int} {d : PyData} {i : Nat} {c : Chk} (h : fits E c d depth lp = false) : chkRow rec E depth lp pre d i c = .error (pre ++ [(i : Int)]) := by
  unfold chkRow
  split
  · rw [if_neg (by rw [h]; exact Bool.false_ne_true)]
  · rfl
theorem fits_tuple {E : Env0} {depth : Int} {lp : Bool} {d : PyData} {c : Chk} (h : fits E c d depth lp = true) : ∃ kind parts, d = .tuple (.str kind :: parts) := by
  unfold fits at h
  split at h
  · exact ⟨_, _, rfl⟩
  · cases h
theorem sz1 (x : V) : [x].length ≤ sizeLine := sz_lit (by show 1 ≤ 100000; decide)
theorem sz2 (x y : V) : [x, y].length ≤ sizeLine := sz_lit (by show 2 ≤ 100000; decide)
def contR (f : Chk → Out) : Out → Out
  | .error p => .error p
  | .ok c => f c
theorem chkRows_cons (row : PyData → Nat → Chk → Out) (d : PyData) (r : List PyData) (i : Nat) (c : Chk) : chkRows row (d :: r) i c = contR (chkRows row r (i + 1)) (row d i c) := by
  rw [chkRows]
  cases row d i c <;> rfl
theorem chkIn_cons (f : List PyData → List Int → Chk → Out) (pre : List Int) (d : PyData) (r : List PyData) (j : Nat) (c : Chk) : chkIn f pre (d :: r) j c = contR (chkIn f pre r (j + 1)) (f (listOf d) (pre ++ [(j : Int)]) c) := by
  rw [chkIn]
  cases f (listOf d) (pre ++ [(j : Int)]) c <;> rfl
theorem chkRow_yes {rec : Bool → List PyData → List Int → Chk → Out} {E : Env0} {depth : Int} {lp : Bool} {pre : List Int} {kind : Str} {parts : List PyData} {i : Nat} {c : Chk} (h : fits E c (.tuple (.str kind :: parts)) depth lp = true) :
    chkRow rec E depth lp pre (.tuple (.str kind :: parts)) i c = chkIn (rec (inside lp kind)) (pre ++ [(i : Int)]) (innerL kind parts) 0 (collect { c with total := c.total + 1 } kind (shapeOf kind) parts) := if_pos h
theorem map_snoc (pre : List Int) (i : Int) : pre.map V.int ++ [V.int i] = (pre ++ [i]).map V.int := by rw [List.map_append]; rfl
theorem map_snoc2 (pre : List Int) (i j : Int) : pre.map V.int ++ [V.int i, V.int j] = (pre ++ [i] ++ [j]).map V.int := by rw [List.map_append, List.map_append, List.append_assoc]; rfl
section
variable {P : Program} {w : World} {K : PySem.W.Frag} {mg : Str → Option Value} {base : Heap} {pS CI C : Addr}
/-- InvalidProgram(part, path) stands in the dict d -/
def XProg (K : PySem.W.Frag) (H : Hp) (d : Addr) (part : Str) (path : List Int) : Prop := ∃ t, H d = some (.xd [("path", .ref t), ("part", .str part)]) ∧ SqT K H t (path.map V.int)
def spCL (K : PySem.W.Frag) (C CI : Addr) : Nat → Sp
  | 0 => fun _ _ _ _ => False
  | n + 1 => fun vs H Q X => ∃ (A : RcA) (E : Env0) (c : Chk) (rws pr : Addr) (ds : List PyData) (pre : List Int) (lp : Bool) (m : Nat), vs = [.ref A.a, .ref rws, .ref pr, .int (5 - (n : Int)), .bl lp] ∧ A.C = C ∧ RC H A E c ∧ Dp K H (.ref rws) (.list ds) ∧ SqT K H pr (pre.map V.int) ∧ pre.length + 2 * n ≤ 100 ∧ Cap c m ∧ m + 3 * wts ds ≤ 90000 ∧
    (∀ c', chkL E (n + 1) lp ds pre c = .ok c' → ∀ H', Fr A.L H H' → RC H' A E c' → Q .non H') ∧ (∀ p, chkL E (n + 1) lp ds pre c = .error p → ∀ H' d, Fr A.L H H' → XProg K H' d "rows" p → X (.ref CI) (some d) H')
theorem sc_RowCheck_check_list : FnScope ["self", "rows", "prefix", "depth", "in_loop", "index", "row", "inside", "number", "inner"] ["self", "rows", "prefix", "depth", "in_loop"] (defScope s_RowCheck_check_list) := ⟨rfl, rfl, rfl, by decide +kernel, rfl, by decide +kernel, by decide +kernel⟩
theorem ok_check_list {f : Addr} {fd : FuncData} (F : Fun K "check_list" "RowCheck.check_list" s_RowCheck_check_list f fd) (T : TxtC P w K mg pS CI) (rc : RcC K C) (hm : Meth K C "check_list" f) (hb : Binds K fd ["self", "rows", "prefix", "depth", "in_loop"] []) (m_fits : Mcal P w K mg base CX0 4 C "fits" ["self", "row", "depth", "in_loop"] (spFits K C)) (m_collect : Mcal P w K mg base CX0 1 C "collect" ["self", "row"] (spCol K)) (c_inner_lists : Cal P w K mg base CX0 1 "inner_lists" ["row"] (spInner K)) :
    ∀ n : Nat, FnOk P w K mg base (L2.CX P w) (5 + n + 1) f fd ["self", "rows", "prefix", "depth", "in_loop"] (spCL K C CI n)
  | 0 => F.okX sc_RowCheck_check_list (fun vs H Q E h => h.elim) (fun cdv A outer s H vs Q E hr h => h.elim)
  | n + 1 => by
    have m_check_list : Mcal P w K mg base (L2.CX P w) (5 + n + 1) C "check_list" ["self", "rows", "prefix", "depth", "in_loop"] (spCL K C CI n) := ⟨f, fd, hm, hb, ok_check_list F T rc hm hb m_fits m_collect c_inner_lists n⟩
    refine F.okX sc_RowCheck_check_list (fun vs H Q E h => ?_) (fun cdv A outer s H vs Q E hr h => ?_)
    · obtain ⟨A, E, c, rws, pr, ds, pre, lp, m, rfl, _⟩ := h
      rfl
    · obtain ⟨R, E0, c, rws, pr, ds, pre, lp, m, rfl, hC, O, hd, hpr, hpl, hcap, hw, k1, k2⟩ := h
      have hu := hu_of hr
      have c_RowCheck := rc.cls
      subst hC
      refine ⟨_, (pss_one (ps_for (passes_of rfl) rfl (pi_enum (by rfl) T.b_enumerate (pa_cons (pv 1) pa_nil)) (pg_tup rfl (pgs_cons (pg_name (i := 5) sc_RowCheck_check_list.nd rfl (.inl rfl)) (pgs_cons (pg_name (i := 6) sc_RowCheck_check_list.nd rfl (.inl rfl)) pgs_nil))) (pss_cons (ps_if (pt_not (pt_val (pe_mcal (pv 0) c_RowCheck m_fits (hr.mono (by omega)) pass0 (pa_cons (pv 6) (pa_cons (pv 3) (pa_cons (pv 4) pa_nil)))))) (pss_one (ps_raise rfl (takes_of rfl rfl rfl rfl) (pmk_x T.mk_InvalidProgram hr rfl T.g_InvalidProgram T.k_InvalidProgram T.r_InvalidProgram (pa_cons pe_str (pa_cons (pe_op op_catA (pv 2) (pe_tup (pa_cons (pv 5) pa_nil))) pa_nil))))) pss_nil)
      (pss_cons (ps_fldaug (pv 0) pe_int in_add)
      (pss_cons (ps_expr (pe_mcal (pv 0) c_RowCheck m_collect (hr.mono (by omega)) pass0 (pa_cons (pv 6) pa_nil)))
      (Evl.pss_cut (ps_set (i := 7) sc_RowCheck_check_list.nd rfl (.inl rfl) (pe_or (pv 4) (pe_one (pe_cmpR op_eq (pe_ix ix_tup (pv 6) pe_int (fun _ _ => rfl)) pe_str (nomark _)))))
      (Evl.pss_cut (ps_if (pt_cmpR op_eq (pe_ix ix_tup (pv 6) pe_int (fun _ _ => rfl)) pe_str (nomark _)) (pss_one (ps_set (i := 7) sc_RowCheck_check_list.nd rfl (.inl rfl) pe_bl)) pss_nil)
      (pss_one (ps_for (passes_of rfl) rfl (pi_enum (by rfl) T.b_enumerate (pa_cons (pe_cal c_inner_lists (hr.mono (by omega)) rfl pass0 (pa_cons (pv 6) pa_nil)) pa_nil)) (pg_tup rfl (pgs_cons (pg_name (i := 8) sc_RowCheck_check_list.nd rfl (.inl rfl)) (pgs_cons (pg_name (i := 9) sc_RowCheck_check_list.nd rfl (.inl rfl)) pgs_nil))) (pss_one (ps_expr (pe_mcal (pv 0) c_RowCheck m_check_list (hr.mono (by omega)) (passes_call (takes_of rfl rfl rfl rfl) (fun _ _ _ _ h => h)) (pa_cons (pv 9) (pa_cons (pe_op op_catA (pv 2) (pe_tup (pa_cons (pv 5) (pa_cons (pv 8) pa_nil)))) (pa_cons (pe_op op_add (pv 3) pe_int) (pa_cons (pv 7) pa_nil)))))))))))))))), ?_⟩
      cases hd with
      | @lst _ xs _ hq ha =>
      have hxl := ha.len
      refine ⟨_, rfl, rws, xs, rfl, hq, ?_⟩
      refine for_it walk_enum (fun i σ H' => (∃ y5 y6 y7 y8 y9 : Option V, σ = [some (.ref R.a), some (.ref rws), some (.ref pr), some (.int (5 - (n : Int))), some (.bl lp), y5, y6, y7, y8, y9]) ∧ ∃ ci mi, RC H' R E0 ci ∧ Fr R.L H H' ∧ Cap ci mi ∧ mi + 3 * wts (ds.drop i) ≤ 90000 ∧ chkL E0 (n + 1) lp ds pre c = chkRows (chkRow (chkL E0 n) E0 (5 - (n : Int)) lp pre) (ds.drop i) i ci) ⟨⟨_, _, _, _, _, rfl⟩, c, m, O, Fr.refl, hcap, hw, rfl⟩ (fun i σ H' _ p => by
        obtain ⟨_, ci, mi, O1, fr, _⟩ := p
        exact hq.kp (O.kp fr)) ?_ ?_
      · rintro i v σ H1 H2 hi ⟨⟨y5, y6, y7, y8, y9, rfl⟩, ci, mi, O1, fr1, cap1, hw1, hres⟩ ⟨T0, x0, y, rfl, hT0, rfl, hx0, hy⟩
        obtain rfl : x0 = .int (i : Nat) := (Option.some.inj hx0).symm
        obtain ⟨d, hd1, hdy⟩ := ha.get hy
        have hdrop : ds.drop i = d :: ds.drop (i + 1) := by
          obtain ⟨h1, h2⟩ := List.getElem?_eq_some_iff.mp hd1
          rw [List.drop_eq_getElem_cons h1, h2]
        rw [hdrop] at hw1 hres
        rw [wts_cons] at hw1
        refine ⟨T0, _, rfl, .inl (.inl upd_same), rfl, _, _, rfl, _, _, rfl, rfl, ?_⟩
        have sm2 : Same H1 (upd H1 T0 (.tup [.int (i : Nat), y])) := Same.new hT0
        have O2 := O1.mono sm2
        have fr2 : Fr R.L H (upd H1 T0 (.tup [.int (i : Nat), y])) := fr1.trans sm2.fr
        revert O2 fr2
        generalize upd H1 T0 (.tup [.int (i : Nat), y]) = H2
        intro O2 fr2
        have hdy2 : Dp K H2 y d := hdy.kp (O.kp fr2)
        have hwd : wt d ≤ 100000 := by omega
        refine ⟨_, rfl, _, _, _, rfl, O2.ob, rfl, _, rfl, _, rfl, _, rfl, R, E0, ci, y, d, _, lp, rfl, rfl, O2, hdy2, hwd, fun H3 s3 => ⟨_, rfl, ?_⟩⟩
        have O3 := O2.mono s3
        have fr3 : Fr R.L H H3 := fr2.trans s3.fr
        by_cases hf : ¬ fits E0 ci d (5 - (n : Int)) lp = true
        · have hf := Bool.eq_false_iff.mpr hf
          rw [hf]
          refine ifT rfl ?_
          have hp3 : SqT K H3 pr (pre.map V.int) := hpr.kp (O.kp fr3)
          refine ⟨_, rfl, _, rfl, sz1 _, fun p hp => cat_any (hp3.mono (Same.new hp)) (.inl (.inl upd_same)) (sz_lit (by rw [List.length_map]; show _ + 1 ≤ _; omega)) fun t H4 s4 ht => ⟨rfl, fun dd hdd => ?_⟩⟩
          have e : chkL E0 (n + 1) lp ds pre c = .error (pre ++ [(i : Int)]) := by
            rw [hres]
            unfold chkRows
            rw [chkRow_no hf]
          refine k2 _ e _ dd (fr3.trans ((Same.new hp).fr.trans (s4.fr.trans (Same.new hdd).fr))) ⟨t, upd_same, ?_⟩
          rw [← map_snoc]
          exact ht.mono (Same.new hdd)
        have hf : fits E0 ci d (5 - (n : Int)) lp = true := Decidable.byContradiction hf
        rw [hf]
        refine ifF rfl ?_
        obtain ⟨kind, parts, rfl⟩ := fits_tuple hf
        obtain ⟨hsh, hFit, _⟩ := fits_shape hf
        have hsl := shapes_len hsh
        have hpl4 : parts.length ≤ 4 := by rw [← hFit.1]; exact hsl
        cases hdy with
        | @tup t ys _ hqt hat =>
        have hdt : Dp K H3 (.ref t) (.tuple (.str kind :: parts)) := hdy2.mono s3
        refine ⟨_, rfl, _, _, _, _, _, rfl, O3.ob, rc.cls, rc.n4, rfl, _, _, rfl, rfl, _, _, O3.ob, (by show 8 < 1000; decide), ?_⟩
        have O4 := O3.tot (ci.total + 1)
        have fr4 : Fr R.L H3 (upd H3 R.a (.ins R.C R.dx (rcF R E0 { ci with total := ci.total + 1 }))) := Fr.refl.upd (by simp [RcA.L])
        refine ⟨_, rfl, _, _, _, rfl, O4.ob, rfl, _, rfl, R, E0, { ci with total := ci.total + 1 }, t, kind, _, parts, rfl, O4, rc, hdt.kp (O3.kp fr4), hsh, hFit, by omega, cap1.mono (by omega), fun H5 fr5 O5 => ?_⟩
        have fr45 := fr4.trans fr5
        have frH := fr3.trans fr45
        have hdt5 : Dp K H5 (.ref t) (.tuple (.str kind :: parts)) := hdt.kp (O3.kp fr45)
        clear fr5 O4 fr4
        have hq5 : ∃ vr, SqT K H5 t (.str kind :: vr) := by
          cases hdt5 with
          | @tup _ _ _ h1 h2 =>
          cases h2 with
          | @cons _ vr _ _ h3 h4 =>
          cases h3 with
          | str _ => exact ⟨vr, h1⟩
        obtain ⟨vr, hq5⟩ := hq5
        refine ⟨fun σ H' => (∃ y8' y9' : Option V, σ = [some (.ref R.a), some (.ref rws), some (.ref pr), some (.int (5 - (n : Int))), some (.bl lp), some (.int (i : Nat)), some (.ref t), some (.bl (lp || decide (kind = "loop"))), y8', y9']) ∧ H' = H5, ?_, ?_⟩
        · refine ⟨_, rfl, _, rfl, ?_⟩
          cases lp with
          | true => exact ifT rfl ⟨⟨_, _, rfl⟩, rfl⟩
          | false =>
            refine ifF rfl ⟨_, rfl, t, _, 0, _, rfl, rfl, hq5, atI_zero _ _, rfl, ?_⟩
            rw [dec_strV]
            exact ⟨⟨_, _, rfl⟩, rfl⟩
        rintro σ H' ⟨⟨y8', y9', rfl⟩, rfl⟩
        refine ⟨fun σ H'' => (∃ y8' y9' : Option V, σ = [some (.ref R.a), some (.ref rws), some (.ref pr), some (.int (5 - (n : Int))), some (.bl lp), some (.int (i : Nat)), some (.ref t), some (.bl (inside lp kind)), y8', y9']) ∧ H'' = H', ?_, ?_⟩
        · refine ⟨_, rfl, t, _, 0, _, rfl, rfl, hq5, atI_zero _ _, rfl, _, rfl, ?_⟩
          rw [dec_strV]
          unfold inside
          by_cases e : kind = "both"
          · rw [if_pos e]
            exact ifT (decide_eq_true e) ⟨⟨_, _, rfl⟩, rfl⟩
          · rw [if_neg e]
            exact ifF (decide_eq_false e) ⟨⟨_, _, rfl⟩, rfl⟩
        rintro σ H'' ⟨⟨y8', y9', rfl⟩, rfl⟩
        refine ⟨_, rfl, t, kind, parts, rfl, hdt5, by omega, fun e => ?_, fun p xs' H6 s6 _ hp6 hdp6 => ?_⟩
        · obtain ⟨ds', r', e', _⟩ := both_tuple hf e
          exact ⟨ds', r', e'⟩
        refine ⟨p, xs', rfl, .inl (.inl hp6), ?_⟩
        have hO6 := O5.mono s6
        have fr6 : Fr R.L H H6 := frH.trans s6.fr
        have hal := inner_lists_all hf
        have hlen6 := hdp6.len
        have hwi := wIn_inner kind parts
        have hres' : chkL E0 (n + 1) lp ds pre c = contR (chkRows (chkRow (chkL E0 n) E0 (5 - (n : Int)) lp pre) (ds.drop (i + 1)) (i + 1)) (chkIn (chkL E0 n (inside lp kind)) (pre ++ [(i : Int)]) (innerL kind parts) 0 (collect { ci with total := ci.total + 1 } kind (shapeOf kind) parts)) := by
          rw [hres, chkRows_cons]
          congr 1
          exact chkRow_yes hf
        refine for_it walk_enum (fun j σ H' => (∃ y8' y9' : Option V, σ = [some (.ref R.a), some (.ref rws), some (.ref pr), some (.int (5 - (n : Int))), some (.bl lp), some (.int (i : Nat)), some (.ref t), some (.bl (inside lp kind)), y8', y9']) ∧ ∃ cj mj, RC H' R E0 cj ∧ Fr R.L H6 H' ∧ Cap cj mj ∧ mj + 3 * wIn ((innerL kind parts).drop j) + 3 * wts (ds.drop (i + 1)) ≤ 90000 ∧ chkL E0 (n + 1) lp ds pre c = contR (chkRows (chkRow (chkL E0 n) E0 (5 - (n : Int)) lp pre) (ds.drop (i + 1)) (i + 1)) (chkIn (chkL E0 n (inside lp kind)) (pre ++ [(i : Int)]) ((innerL kind parts).drop j) j cj)) ⟨⟨_, _, rfl⟩, _, mi + 3 * parts.length, hO6, Fr.refl, collect_cap hFit cap1, ?_, hres'⟩ (fun j σ H' _ q => by
          obtain ⟨_, cj, mj, O7, fr7, _⟩ := q
          exact SqL.kp (.inl (.inl hp6)) (hO6.kp fr7)) ?_ ?_
        · rw [wt_tuple, wts_cons] at hw1
          rw [List.drop_zero]
          omega
        · rintro j v σ H7 H8 hj ⟨⟨y8', y9', rfl⟩, cj, mj, O7, fr7, cap7, hw7, hres7⟩ ⟨T1, x1, y1, rfl, hT1, rfl, hx1, hy1⟩
          obtain rfl : x1 = .int (j : Nat) := (Option.some.inj hx1).symm
          obtain ⟨d1, hd1', hdy1⟩ := hdp6.get hy1
          have hdrop1 : (innerL kind parts).drop j = d1 :: (innerL kind parts).drop (j + 1) := by
            obtain ⟨h1, h2⟩ := List.getElem?_eq_some_iff.mp hd1'
            rw [List.drop_eq_getElem_cons h1, h2]
          rw [hdrop1] at hw7 hres7
          have hw7 : mj + 3 * (wts (listOf d1) + wIn ((innerL kind parts).drop (j + 1))) + 3 * wts (ds.drop (i + 1)) ≤ 90000 := hw7
          obtain ⟨dl, rfl⟩ : ∃ dl, d1 = .list dl := by
            have := hal d1 (List.mem_of_getElem? hd1')
            cases d1 with
            | list dl => exact ⟨dl, rfl⟩
            | _ => cases this
          refine ⟨T1, _, rfl, .inl (.inl upd_same), rfl, _, _, rfl, _, _, rfl, rfl, ?_⟩
          have sm8 : Same H7 (upd H7 T1 (.tup [.int (j : Nat), y1])) := Same.new hT1
          have O8 := O7.mono sm8
          have fr8 : Fr R.L H6 (upd H7 T1 (.tup [.int (j : Nat), y1])) := fr7.trans sm8.fr
          revert O8 fr8
          generalize upd H7 T1 (.tup [.int (j : Nat), y1]) = H8
          intro O8 fr8
          have frA : Fr R.L H H8 := fr6.trans fr8
          have hdl : Dp K H8 y1 (.list dl) := (hdy1.mono s6).kp (hO6.kp fr8)
          cases n with
          | zero =>
            have := inner_deep hf (by show (5 : Int) ≤ 5 - (0 : Nat); omega)
            rw [this] at hd1'
            simp at hd1'
          | succ n' =>
          have hp8 : SqT K H8 pr (pre.map V.int) := hpr.kp (O.kp frA)
          obtain ⟨q1, rfl⟩ : ∃ q1, y1 = .ref q1 := by
            cases hdl with
            | lst _ _ => exact ⟨_, rfl⟩
          refine ⟨_, rfl, _, _, _, rfl, O8.ob, rfl, _, rfl, _, rfl, _, rfl, _, rfl, sz2 _ _, fun p9 hp9 => cat_any (hp8.mono (Same.new hp9)) (.inl (.inl upd_same)) (sz_lit (by rw [List.length_map]; show _ + 2 ≤ _; omega)) fun t9 H9 s9 ht9 => ⟨_, rfl, _, _, rfl, rfl, _, rfl, ?_⟩⟩
          have s89 : Same H8 H9 := (Same.new hp9).trans s9
          rw [map_snoc2] at ht9
          refine ⟨R, E0, cj, q1, t9, dl, pre ++ [(i : Int)] ++ [(j : Int)], inside lp kind, mj, ?_, rfl, O8.mono s89, hdl.mono s89, ht9, ?_, cap7, ?_, fun c' hc' H' fr' O' => ?_, fun p' hp' H' d' fr' hx' => ?_⟩
          · show [V.ref R.a, V.ref q1, V.ref t9, V.int (5 - ((n' + 1 : Nat) : Int) + 1), V.bl (inside lp kind)] = _
            rw [show (5 - ((n' + 1 : Nat) : Int) + 1) = 5 - (n' : Int) by omega]
          · rw [List.length_append, List.length_append]
            show pre.length + 1 + 1 + 2 * n' ≤ 100
            omega
          · have : wts (listOf (.list dl)) = wts dl := rfl
            omega
          · refine ⟨⟨_, _, rfl⟩, c', mj + 3 * wts dl, O', fr8.trans (s89.fr.trans fr'), chkL_cap E0 _ _ _ _ _ _ _ hc' cap7, ?_, ?_⟩
            · have : wts (listOf (.list dl)) = wts dl := rfl
              omega
            · rw [hres7]
              rw [chkIn_cons, show listOf (.list dl) = dl from rfl, hc']
              rfl
          · refine k2 p' ?_ H' d' (frA.trans (s89.fr.trans fr')) hx'
            rw [hres7]
            rw [chkIn_cons, show listOf (.list dl) = dl from rfl, hp']
            rfl
        · rintro σ H7 ⟨⟨y8', y9', rfl⟩, cj, mj, O7, fr7, cap7, hw7, hres7⟩
          rw [List.drop_of_length_le (l := innerL kind parts) (by omega)] at hres7
          exact ⟨⟨_, _, _, _, _, rfl⟩, cj, mj, O7, fr6.trans fr7, cap7, by omega, hres7⟩
      · rintro σ H' ⟨_, ci, mi, O1, fr, _, _, e⟩
        rw [List.drop_of_length_le (by omega)] at e
        exact k1 ci e H' fr O1
end
end Op
namespace Op
open PySem L2 PyProof.Rows
/-! ### the mirror: sizes, the whole check -/
def sizes (c : Chk) : Option Str :=
  if 60 < c.total then some "size"
  else if 6 < c.labels.length then some "labels"
  else if 4 < c.slots.length then some "slots"
  else if 8 < c.gates.length + c.edits.length then some "gates"
  else if 4 < c.edits.length then some "edits"
  else none
def chk0 : Chk := ⟨0, [], [], [], []⟩
def checkAll (E : Env0) (d : PyData) : Except (Str × List Int) Chk :=
  match d with
  | .list ds => match chkL E 5 false ds [] chk0 with
    | .error p => .error ("rows", p)
    | .ok c => match sizes c with
      | some s => .error (s, [])
      | none => .ok c
  | _ => .error ("rows", [])
section
variable {P : Program} {w : World} {K : PySem.W.Frag} {mg : Str → Option Value} {base : Heap} {pS CI C : Addr}
def spSizes (K : PySem.W.Frag) (C CI : Addr) : Sp := fun vs H Q X => ∃ (A : RcA) (E : Env0) (c : Chk), vs = [.ref A.a] ∧ A.C = C ∧ RC H A E c ∧ (sizes c = none → Q .non H) ∧ ∀ part, sizes c = some part → ∀ H' d, Same H H' → XProg K H' d part [] → X (.ref CI) (some d) H'
theorem sc_RowCheck_check_sizes : FnScope ["self"] ["self"] (defScope s_RowCheck_check_sizes) := ⟨rfl, rfl, rfl, by decide +kernel, rfl, by decide +kernel, by decide +kernel⟩
theorem ok_check_sizes {f : Addr} {fd : FuncData} (F : Fun K "check_sizes" "RowCheck.check_sizes" s_RowCheck_check_sizes f fd) (T : TxtC P w K mg pS CI) (rc : RcC K C) : FnOk P w K mg base (L2.CX P w) 1 f fd ["self"] (spSizes K C CI) := by
  refine F.okX sc_RowCheck_check_sizes (fun vs H Q E h => ?_) (fun cdv A outer s H vs Q E hr h => ?_)
  · obtain ⟨A, E, c, rfl, _⟩ := h
    rfl
  · obtain ⟨R, E0, c, rfl, hC, O, k1, k2⟩ := h
    subst hC
    unfold sizes at k1 k2
    refine ⟨_, (pss_cons (ps_if (pt_cmpR op_gt (pe_fld (pv 0) rfl) (pe_glob (v := .int (60)) rfl T.g_MOST_ROWS.choose_spec ⟨_, rfl⟩) (nomark _)) (pss_one (ps_raise rfl (takes_of rfl rfl rfl rfl) (pmk_x T.mk_InvalidProgram hr rfl T.g_InvalidProgram T.k_InvalidProgram T.r_InvalidProgram (pa_cons pe_str (pa_cons (pe_tup pa_nil) pa_nil))))) pss_nil)
      (pss_cons (ps_if (pt_cmpR op_gt (pe_callB call_lenD (by rfl) T.b_len (by decide +kernel) (pa_cons (pe_fld (pv 0) rfl) pa_nil)) (pe_glob (v := .int (6)) rfl T.g_MOST_LABELS.choose_spec ⟨_, rfl⟩) (nomark _)) (pss_one (ps_raise rfl (takes_of rfl rfl rfl rfl) (pmk_x T.mk_InvalidProgram hr rfl T.g_InvalidProgram T.k_InvalidProgram T.r_InvalidProgram (pa_cons pe_str (pa_cons (pe_tup pa_nil) pa_nil))))) pss_nil)
      (pss_cons (ps_if (pt_cmpR op_gt (pe_callB call_lenD (by rfl) T.b_len (by decide +kernel) (pa_cons (pe_fld (pv 0) rfl) pa_nil)) (pe_glob (v := .int (4)) rfl T.g_MOST_SLOTS.choose_spec ⟨_, rfl⟩) (nomark _)) (pss_one (ps_raise rfl (takes_of rfl rfl rfl rfl) (pmk_x T.mk_InvalidProgram hr rfl T.g_InvalidProgram T.k_InvalidProgram T.r_InvalidProgram (pa_cons pe_str (pa_cons (pe_tup pa_nil) pa_nil))))) pss_nil)
      (pss_cons (ps_if (pt_cmpR op_gt (pe_op op_add (pe_callB call_lenD (by rfl) T.b_len (by decide +kernel) (pa_cons (pe_fld (pv 0) rfl) pa_nil)) (pe_callB call_lenD (by rfl) T.b_len (by decide +kernel) (pa_cons (pe_fld (pv 0) rfl) pa_nil))) (pe_glob (v := .int (8)) rfl T.g_MOST_GATES.choose_spec ⟨_, rfl⟩) (nomark _)) (pss_one (ps_raise rfl (takes_of rfl rfl rfl rfl) (pmk_x T.mk_InvalidProgram hr rfl T.g_InvalidProgram T.k_InvalidProgram T.r_InvalidProgram (pa_cons pe_str (pa_cons (pe_tup pa_nil) pa_nil))))) pss_nil)
      (pss_one (ps_if (pt_cmpR op_gt (pe_callB call_lenD (by rfl) T.b_len (by decide +kernel) (pa_cons (pe_fld (pv 0) rfl) pa_nil)) (pe_glob (v := .int (4)) rfl T.g_MOST_EDITS.choose_spec ⟨_, rfl⟩) (nomark _)) (pss_one (ps_raise rfl (takes_of rfl rfl rfl rfl) (pmk_x T.mk_InvalidProgram hr rfl T.g_InvalidProgram T.k_InvalidProgram T.r_InvalidProgram (pa_cons pe_str (pa_cons (pe_tup pa_nil) pa_nil))))) pss_nil)))))), ?_⟩
    have fin : ∀ part : Str, (∀ H' d, Same H H' → XProg K H' d part [] → E (.ref CI) (some d) H') → ∀ p, H p = none → ∀ d, upd H p (.tup []) d = none → E (.ref CI) (some d) (upd (upd H p (.tup [])) d (.xd [("path", .ref p), ("part", .str part)])) := by
      intro part k p hp d hd
      refine k _ d ((Same.new hp).trans (Same.new hd)) ⟨p, upd_same, ?_⟩
      exact SqT.mono (.inl (.inl upd_same)) (Same.new hd)
    refine ⟨_, rfl, _, _, _, _, _, rfl, O.ob, rc.cls, rc.n4, rfl, _, _, rfl, rfl, _, rfl, ?_⟩
    by_cases e1 : 60 < c.total
    · rw [if_pos e1] at k2
      exact ifT (decide_eq_true e1) ⟨sz_lit (by decide), fun p hp => ⟨rfl, fun d hd => fin _ (k2 _ rfl) p hp d hd⟩⟩
    rw [if_neg e1] at k1 k2
    refine ifF (decide_eq_false e1) ⟨_, rfl, _, _, _, _, _, rfl, O.ob, rc.cls, rc.n5, rfl, _, _, rfl, O.dl, _, _, rfl, rfl, _, rfl, ?_⟩
    rw [dkT_len]
    by_cases e2 : 6 < c.labels.length
    · rw [if_pos e2] at k2
      exact ifT (decide_eq_true (show (6 : Int) < (c.labels.length : Int) by omega)) ⟨sz_lit (by decide), fun p hp => ⟨rfl, fun d hd => fin _ (k2 _ rfl) p hp d hd⟩⟩
    rw [if_neg e2] at k1 k2
    refine ifF (decide_eq_false (show ¬ (6 : Int) < (c.labels.length : Int) by omega)) ⟨_, rfl, _, _, _, _, _, rfl, O.ob, rc.cls, rc.n6, rfl, _, _, rfl, O.ds, _, _, rfl, rfl, _, rfl, ?_⟩
    rw [dkT_len]
    by_cases e3 : 4 < c.slots.length
    · rw [if_pos e3] at k2
      exact ifT (decide_eq_true (show (4 : Int) < (c.slots.length : Int) by omega)) ⟨sz_lit (by decide), fun p hp => ⟨rfl, fun d hd => fin _ (k2 _ rfl) p hp d hd⟩⟩
    rw [if_neg e3] at k1 k2
    refine ifF (decide_eq_false (show ¬ (4 : Int) < (c.slots.length : Int) by omega)) ⟨_, rfl, _, _, _, _, _, rfl, O.ob, rc.cls, rc.n7, rfl, _, _, rfl, O.dg, _, rfl, _, _, _, _, _, rfl, O.ob, rc.cls, rc.n8, rfl, _, _, rfl, O.de, _, _, rfl, rfl, _, _, rfl, rfl, _, rfl, ?_⟩
    rw [dkT_len, dkT_len]
    by_cases e4 : 8 < c.gates.length + c.edits.length
    · rw [if_pos e4] at k2
      exact ifT (decide_eq_true (show (8 : Int) < (c.gates.length : Int) + (c.edits.length : Int) by omega)) ⟨sz_lit (by decide), fun p hp => ⟨rfl, fun d hd => fin _ (k2 _ rfl) p hp d hd⟩⟩
    rw [if_neg e4] at k1 k2
    refine ifF (decide_eq_false (show ¬ (8 : Int) < (c.gates.length : Int) + (c.edits.length : Int) by omega)) ⟨_, rfl, _, _, _, _, _, rfl, O.ob, rc.cls, rc.n8, rfl, _, _, rfl, O.de, _, _, rfl, rfl, _, rfl, ?_⟩
    rw [dkT_len]
    by_cases e5 : 4 < c.edits.length
    · rw [if_pos e5] at k2
      exact ifT (decide_eq_true (show (4 : Int) < (c.edits.length : Int) by omega)) ⟨sz_lit (by decide), fun p hp => ⟨rfl, fun d hd => fin _ (k2 _ rfl) p hp d hd⟩⟩
    rw [if_neg e5] at k1 k2
    exact ifF (decide_eq_false (show ¬ (4 : Int) < (c.edits.length : Int) by omega)) (k1 rfl)
end
end Op
namespace Op
open PySem L2 PyProof.Rows
/-- what may be passed as the rows: data, or an empty dict -/
def RwV (K : PySem.W.Frag) (H : Hp) (v : V) (d : PyData) : Prop := Dp K H v d ∨ d = .dict [] ∧ ∃ p, v = .ref p ∧ H p = some (.dK [])
theorem RwV.lst {K : PySem.W.Frag} {H : Hp} {v : V} {ds : List PyData} (h : RwV K H v (.list ds)) : Dp K H v (.list ds) := by
  rcases h with h | ⟨h, _⟩
  · exact h
  · cases h
section
variable {P : Program} {w : World} {K : PySem.W.Frag} {mg : Str → Option Value} {base : Heap} {pS CI C : Addr}
def spCheck (K : PySem.W.Frag) (C CI : Addr) : Sp := fun vs H Q X => ∃ (A : RcA) (E : Env0) (v : V) (d : PyData), vs = [.ref A.a, v] ∧ A.C = C ∧ RC H A E chk0 ∧ RwV K H v d ∧ wt d ≤ 30000 ∧
  (∀ c, checkAll E d = .ok c → ∀ H', Fr A.L H H' → RC H' A E c → Q .non H') ∧ ∀ part path, checkAll E d = .error (part, path) → ∀ H' dd, Fr A.L H H' → XProg K H' dd part path → X (.ref CI) (some dd) H'
theorem sc_RowCheck_check : FnScope ["self", "rows"] ["self", "rows"] (defScope s_RowCheck_check) := ⟨rfl, rfl, rfl, by decide +kernel, rfl, by decide +kernel, by decide +kernel⟩
theorem ok_check {f : Addr} {fd : FuncData} (F : Fun K "check" "RowCheck.check" s_RowCheck_check f fd) (T : TxtC P w K mg pS CI) (rc : RcC K C) (m_check_list : Mcal P w K mg base (L2.CX P w) 11 C "check_list" ["self", "rows", "prefix", "depth", "in_loop"] (spCL K C CI 5)) (m_check_sizes : Mcal P w K mg base (L2.CX P w) 1 C "check_sizes" ["self"] (spSizes K C CI)) :
    FnOk P w K mg base (L2.CX P w) 12 f fd ["self", "rows"] (spCheck K C CI) := by
  refine F.okX sc_RowCheck_check (fun vs H Q E h => ?_) (fun cdv A outer s H vs Q E hr h => ?_)
  · obtain ⟨A, E, v, d, rfl, _⟩ := h
    rfl
  · obtain ⟨R, E0, v, d, rfl, hC, O, hd, hw, k1, k2⟩ := h
    have c_RowCheck := rc.cls
    subst hC
    refine ⟨_, (pss_cons (ps_if (pt_not (pt_val (pe_callB call_isi (by rfl) T.b_isinstance (by decide +kernel) (pa_cons (pv 1) (pa_cons (pe_bltn (v := .ty "list") (by rfl) T.b_list (by decide +kernel) rfl) pa_nil))))) (pss_one (ps_raise rfl (takes_of rfl rfl rfl rfl) (pmk_x T.mk_InvalidProgram hr rfl T.g_InvalidProgram T.k_InvalidProgram T.r_InvalidProgram (pa_cons pe_str (pa_cons (pe_tup pa_nil) pa_nil))))) pss_nil)
      (pss_cons (ps_expr (pe_mcal (pv 0) c_RowCheck m_check_list (hr.mono (by omega)) (passes_call (takes_of rfl rfl rfl rfl) (fun _ _ _ _ h => h)) (pa_cons (pv 1) (pa_cons (pe_tup pa_nil) (pa_cons pe_int (pa_cons pe_bl pa_nil))))))
      (pss_one (ps_expr (pe_mcal0 (pv 0) c_RowCheck m_check_sizes (hr.mono (by omega)) (passes_call (takes_of rfl rfl rfl rfl) (fun _ _ _ _ h => h))))))), ?_⟩
    have fin : (∀ H' dd, Fr R.L H H' → XProg K H' dd "rows" [] → E (.ref CI) (some dd) H') → ∀ p, H p = none → ∀ d, upd H p (.tup []) d = none → E (.ref CI) (some d) (upd (upd H p (.tup [])) d (.xd [("path", .ref p), ("part", .str "rows")])) := by
      intro k p hp d hd
      refine k _ d ((Same.new hp).trans (Same.new hd)).fr ⟨p, upd_same, ?_⟩
      exact SqT.mono (.inl (.inl upd_same)) (Same.new hd)
    rcases hd with hd | ⟨rfl, p, rfl, hp⟩
    rotate_left
    · refine ⟨_, rfl, .ref p, _, _, _, _, rfl, .ty _, TyX.base (.dK hp), kit_ty (show kitB "dict" "list" = some false by decide +kernel), _, rfl, ?_⟩
      exact ifT rfl ⟨sz_lit (by decide), fun p hp => ⟨rfl, fun d hd => fin (k2 _ _ rfl) p hp d hd⟩⟩
    refine ⟨_, rfl, v, _, _, _, _, rfl, .ty _, ty_dp hd, kit_list d, _, rfl, ?_⟩
    cases hd with
    | @lst q xs ds hq ha =>
      have hw' : 1 + wts ds ≤ 30000 := by rw [wt_list] at hw; exact hw
      refine ifF rfl ⟨_, rfl, _, _, _, rfl, O.ob, rfl, _, rfl, sz_lit (by decide), fun p hp => ?_⟩
      have s1 : Same H (upd H p (.tup [])) := Same.new hp
      refine ⟨R, E0, chk0, q, p, ds, [], false, 0, rfl, rfl, O.mono s1, (Dp.lst hq ha).mono s1, .inl (.inl upd_same), by decide, ⟨Nat.le_refl _, Nat.le_refl _, Nat.le_refl _, Nat.le_refl _⟩, by omega, fun c' hc' H' fr' O' => ?_, fun p' hp' H' d' fr' hx' => ?_⟩
      · refine ⟨_, rfl, _, _, _, rfl, O'.ob, rfl, R, E0, c', rfl, rfl, O', fun hs => ?_, fun part hs H'' d'' s'' hx'' => ?_⟩
        · refine k1 c' ?_ H' (s1.fr.trans fr') O'
          unfold checkAll
          simp only [hc', hs]
        · refine k2 part [] ?_ H'' d'' (s1.fr.trans (fr'.trans s''.fr)) hx''
          unfold checkAll
          simp only [hc', hs]
      · refine k2 "rows" p' ?_ H' d' (s1.fr.trans fr') hx'
        unfold checkAll
        simp only [hp']
    | _ => exact ifT rfl ⟨sz_lit (by decide), fun p hp => ⟨rfl, fun d hd => fin (k2 _ _ rfl) p hp d hd⟩⟩
/-! ### the making of it -/
theorem init_step {H : Hp} {x p C dx : Addr} {fs : List (Str × V)} {f : Str} (h : H x = some (.ins C dx fs)) (hp : H p = none) :
    upd (upd H p (.dK [])) x (.ins C dx (putF f (.ref p) fs)) x = some (.ins C dx (putF f (.ref p) fs)) ∧ upd (upd H p (.dK [])) x (.ins C dx (putF f (.ref p) fs)) p = some (.dK []) ∧ (∀ b o, H b = some o → b ≠ x → upd (upd H p (.dK [])) x (.ins C dx (putF f (.ref p) fs)) b = some o) ∧ ∀ b o, H b = some o → p ≠ b := by
  have hpx : p ≠ x := fun e => by rw [e, h] at hp; cases hp
  refine ⟨upd_same, by rw [upd_ne hpx, upd_same], fun b o hb hbx => ?_, fun b o hb e => ?_⟩
  · rw [upd_ne hbx, upd_ne (ne_of_none hb hp)]
    exact hb
  · rw [e, hb] at hp
    cases hp
def spRcInit (K : PySem.W.Frag) (C : Addr) : Sp := fun vs H Q _ => ∃ (x dx ka ks : Addr) (E : Env0), vs = [.ref x, .ref ka, .ref ks, .bl E.we] ∧ H x = some (.ins C dx []) ∧ Known H ka E.asks ∧ Known H ks E.sigs ∧
  ∀ H' A, A.a = x → A.C = C → (∀ b ∈ [A.l, A.s, A.g, A.e], H b = none) → RC H' A E chk0 → (∀ b o, H b = some o → b ≠ x → H' b = some o) → Q .non H'
theorem sc_RowCheck___init__ : FnScope ["self", "asks", "signals", "with_edits"] ["self", "asks", "signals", "with_edits"] (defScope s_RowCheck___init__) := ⟨rfl, rfl, rfl, by decide +kernel, rfl, by decide +kernel, by decide +kernel⟩
theorem ok_rcinit {f : Addr} {fd : FuncData} (F : Fun K "__init__" "RowCheck.__init__" s_RowCheck___init__ f fd) (rc : RcC K C) : FnOk P w K mg base CX0 1 f fd ["self", "asks", "signals", "with_edits"] (spRcInit K C) := by
  refine F.ok sc_RowCheck___init__ (fun vs H Q E h => ?_) (fun cdv A outer s H vs Q E hr h => ?_)
  · obtain ⟨x, dx, ka, ks, E, rfl, _⟩ := h
    rfl
  · obtain ⟨x, dx, ka, ks, E0, rfl, hx, hka, hks, k⟩ := h
    have nka : ka ≠ x := hka.ne_ins hx
    have nks : ks ≠ x := hks.ne_ins hx
    refine ⟨_, (pss_cons (ps_fld (pv 0) (pv 1) rfl)
      (pss_cons (ps_fld (pv 0) (pv 2) rfl)
      (pss_cons (ps_fld (pv 0) (pv 3) rfl)
      (pss_cons (ps_fld (pv 0) pe_int rfl)
      (pss_cons (ps_fld (pv 0) pe_dnewK rfl)
      (pss_cons (ps_fld (pv 0) pe_dnewK rfl)
      (pss_cons (ps_fld (pv 0) pe_dnewK rfl)
      (pss_one (ps_fld (pv 0) pe_dnewK rfl))))))))), ?_⟩
    refine ⟨_, rfl, _, rfl, x, C, dx, _, rfl, hx, rc.cls, rc.n1, (by show 0 < 1000; decide), ?_⟩
    refine ⟨_, rfl, _, rfl, x, C, dx, _, rfl, upd_same, rc.cls, rc.n2, (by show 1 < 1000; decide), ?_⟩
    refine ⟨_, rfl, _, rfl, x, C, dx, _, rfl, upd_same, rc.cls, rc.n3, (by show 2 < 1000; decide), ?_⟩
    refine ⟨_, rfl, x, C, dx, _, rfl, upd_same, rc.cls, rc.n4, (by show 3 < 1000; decide), ?_⟩
    rw [upd_upd, upd_upd, upd_upd]
    have g0 : ∀ b o, H b = some o → b ≠ x → upd H x (.ins C dx (putF "total" (.int 0) (putF "with_edits" (.bl E0.we) (putF "known_signals" (.ref ks) (putF "known_asks" (.ref ka) []))))) b = some o := fun b o hb hbx => by rw [upd_ne hbx]; exact hb
    have x0 : upd H x (.ins C dx (putF "total" (.int 0) (putF "with_edits" (.bl E0.we) (putF "known_signals" (.ref ks) (putF "known_asks" (.ref ka) []))))) x = some (.ins C dx (putF "total" (.int 0) (putF "with_edits" (.bl E0.we) (putF "known_signals" (.ref ks) (putF "known_asks" (.ref ka) []))))) := upd_same
    have n0 : ∀ b, upd H x (.ins C dx (putF "total" (.int 0) (putF "with_edits" (.bl E0.we) (putF "known_signals" (.ref ks) (putF "known_asks" (.ref ka) []))))) b = none → H b = none := fun b hb => by
      cases q : H b with
      | none => rfl
      | some o =>
        by_cases e : b = x
        · rw [e, x0] at hb; cases hb
        · rw [g0 b o q e] at hb; cases hb
    revert g0 x0 n0
    generalize upd H x (.ins C dx (putF "total" (.int 0) (putF "with_edits" (.bl E0.we) (putF "known_signals" (.ref ks) (putF "known_asks" (.ref ka) []))))) = H0
    intro g0 x0 n0
    refine fun p1 hp1 => ⟨_, rfl, x, C, dx, _, rfl, Same.new hp1 _ _ x0, rc.cls, rc.n5, (by show 4 < 1000; decide), ?_⟩
    obtain ⟨x1, q1, g1, m1⟩ := init_step (f := "label_words") x0 hp1
    revert x1 q1 g1
    generalize upd (upd H0 p1 (.dK [])) x (.ins C dx (putF "label_words" (.ref p1) _)) = H1
    intro x1 q1 g1
    refine fun p2 hp2 => ⟨_, rfl, x, C, dx, _, rfl, Same.new hp2 _ _ x1, rc.cls, rc.n6, (by show 5 < 1000; decide), ?_⟩
    obtain ⟨x2, q2, g2, m2⟩ := init_step (f := "slot_words") x1 hp2
    revert x2 q2 g2
    generalize upd (upd H1 p2 (.dK [])) x (.ins C dx (putF "slot_words" (.ref p2) _)) = H2
    intro x2 q2 g2
    refine fun p3 hp3 => ⟨_, rfl, x, C, dx, _, rfl, Same.new hp3 _ _ x2, rc.cls, rc.n7, (by show 6 < 1000; decide), ?_⟩
    obtain ⟨x3, q3, g3, m3⟩ := init_step (f := "gate_words") x2 hp3
    revert x3 q3 g3
    generalize upd (upd H2 p3 (.dK [])) x (.ins C dx (putF "gate_words" (.ref p3) _)) = H3
    intro x3 q3 g3
    refine fun p4 hp4 => ⟨_, rfl, x, C, dx, _, rfl, Same.new hp4 _ _ x3, rc.cls, rc.n8, (by show 7 < 1000; decide), ?_⟩
    obtain ⟨x4, q4, g4, m4⟩ := init_step (f := "edit_words") x3 hp4
    revert x4 q4 g4
    generalize upd (upd H3 p4 (.dK [])) x (.ins C dx (putF "edit_words" (.ref p4) _)) = H4
    intro x4 q4 g4
    have p1x : p1 ≠ x := m1 x _ x0
    have p2x : p2 ≠ x := m2 x _ x1
    have p3x : p3 ≠ x := m3 x _ x2
    have p4x : p4 ≠ x := m4 x _ x3
    have gg : ∀ b o, H b = some o → b ≠ x → H4 b = some o := fun b o hb hbx => g4 b o (g3 b o (g2 b o (g1 b o (g0 b o hb hbx) hbx) hbx) hbx) hbx
    have a1 : H1 p1 = some (.dK []) := q1
    have a2 : H2 p1 = some (.dK []) := g2 _ _ a1 p1x
    have a3 : H3 p1 = some (.dK []) := g3 _ _ a2 p1x
    have b2 : H2 p2 = some (.dK []) := q2
    have b3 : H3 p2 = some (.dK []) := g3 _ _ b2 p2x
    have c3 : H3 p3 = some (.dK []) := q3
    have e12 : p1 ≠ p2 := (m2 _ _ a1).symm
    have e13 : p1 ≠ p3 := (m3 _ _ a2).symm
    have e14 : p1 ≠ p4 := (m4 _ _ a3).symm
    have e23 : p2 ≠ p3 := (m3 _ _ b2).symm
    have e24 : p2 ≠ p4 := (m4 _ _ b3).symm
    have e34 : p3 ≠ p4 := (m4 _ _ c3).symm
    have up1 : ∀ b o, H b = some o → b ≠ x → H1 b = some o := fun b o hb hbx => g1 b o (g0 b o hb hbx) hbx
    have up2 : ∀ b o, H b = some o → b ≠ x → H2 b = some o := fun b o hb hbx => g2 b o (up1 b o hb hbx) hbx
    have up3 : ∀ b o, H b = some o → b ≠ x → H3 b = some o := fun b o hb hbx => g3 b o (up2 b o hb hbx) hbx
    have old : ∀ b o, H b = some o → b ≠ x → b ≠ p1 ∧ b ≠ p2 ∧ b ≠ p3 ∧ b ≠ p4 := fun b o hb hbx =>
      ⟨(m1 _ _ (g0 b o hb hbx)).symm, (m2 _ _ (up1 b o hb hbx)).symm, (m3 _ _ (up2 b o hb hbx)).symm, (m4 _ _ (up3 b o hb hbx)).symm⟩
    have oka := let ⟨kvs, h, _⟩ := hka; old _ _ h nka
    have oks := let ⟨kvs, h, _⟩ := hks; old _ _ h nks
    refine k H4 ⟨C, x, dx, ka, ks, p1, p2, p3, p4⟩ rfl rfl ?_ ⟨x4, hka.mono fun o h => gg _ o h nka, hks.mono fun o h => gg _ o h nks, g4 _ _ a3 p1x, g4 _ _ b3 p2x, g4 _ _ c3 p3x, q4, ?_, ?_⟩ gg
    · intro b hb
      cases q : H b with
      | none => rfl
      | some o =>
        exfalso
        have hb : b = p1 ∨ b = p2 ∨ b = p3 ∨ b = p4 := by simpa using hb
        by_cases hbx : b = x
        · rcases hb with e | e | e | e
          · exact p1x (e.symm.trans hbx)
          · exact p2x (e.symm.trans hbx)
          · exact p3x (e.symm.trans hbx)
          · exact p4x (e.symm.trans hbx)
        · obtain ⟨o1, o2, o3, o4⟩ := old b o q hbx
          rcases hb with e | e | e | e
          · exact o1 e
          · exact o2 e
          · exact o3 e
          · exact o4 e
    · simp [List.nodup_cons, oka, e12, e13, e14, e23, e24, e34]
    · simp [List.nodup_cons, oks, e12, e13, e14, e23, e24, e34]
end
end Op
namespace Op
open PySem L2 PyProof.Rows
/-! ### an argument that may be None, a dict with text keys, or something else -/
inductive ArgD where
  | none
  | dict (kvs : List (Str × PyData))
  | other (d : PyData)
def KvsR (K : PySem.W.Frag) (H : Hp) : List (Key × V) → List (Str × PyData) → Prop
  | [], [] => True
  | (k, v) :: r, (x, d) :: t => k = .inr x ∧ Dp K H v d ∧ KvsR K H r t
  | _, _ => False
def ArgV (K : PySem.W.Frag) (H : Hp) (v : V) : ArgD → Prop
  | .none => v = .non
  | .dict kvs => ∃ p vs, v = .ref p ∧ H p = some (.dK vs) ∧ KvsR K H vs kvs ∧ (kvs.map (·.1)).Nodup
  | .other d => Dp K H v d ∧ d ≠ .none
def argSmall : ArgD → Prop
  | .dict kvs => kvs.length ≤ 60 ∧ ∀ p ∈ kvs, p.1.length ≤ 100000 ∧ wt p.2 ≤ 100000
  | _ => True
def argL : V → List Addr
  | .ref p => [p]
  | _ => []
/-- only a dict is touched -/
def argF : ArgD → V → List Addr
  | .dict _, v => argL v
  | _, _ => []
section
variable {K : PySem.W.Frag} {H H' : Hp}
theorem KvsR.kp (s : Kp H H') : ∀ {vs : List (Key × V)} {kvs : List (Str × PyData)}, KvsR K H vs kvs → KvsR K H' vs kvs
  | [], [], _ => trivial
  | (k, v) :: r, (x, d) :: t, ⟨h1, h2, h3⟩ => ⟨h1, h2.kp s, KvsR.kp s h3⟩
theorem KvsR.len : ∀ {vs : List (Key × V)} {kvs : List (Str × PyData)}, KvsR K H vs kvs → vs.length = kvs.length
  | [], [], _ => rfl
  | (k, v) :: r, (x, d) :: t, ⟨h1, h2, h3⟩ => congrArg Nat.succ (KvsR.len h3)
theorem KvsR.keys : ∀ {vs : List (Key × V)} {kvs : List (Str × PyData)}, KvsR K H vs kvs → vs.map (·.1) = (kvs.map (·.1)).map Sum.inr
  | [], [], _ => rfl
  | (k, v) :: r, (x, d) :: t, ⟨h1, h2, h3⟩ => by
    rw [List.map_cons, List.map_cons, List.map_cons, KvsR.keys h3, h1]
theorem KvsR.get : ∀ {vs : List (Key × V)} {kvs : List (Str × PyData)} {i : Nat} {k : Key} {v : V}, KvsR K H vs kvs → vs[i]? = some (k, v) → ∃ x d, kvs[i]? = some (x, d) ∧ k = .inr x ∧ Dp K H v d
  | [], [], i, k, v, _, h => by simp at h
  | (k, v) :: r, (x, d) :: t, 0, k', v', ⟨h1, h2, h3⟩, e => by
    obtain ⟨rfl, rfl⟩ := Prod.mk.inj (Option.some.inj e)
    exact ⟨x, d, rfl, h1, h2⟩
  | (k, v) :: r, (x, d) :: t, i + 1, k', v', ⟨h1, h2, h3⟩, e => KvsR.get (i := i) h3 e
def lk (kvs : List (Str × PyData)) (y : Str) : PyData := (kvs.lookup y).getD .none
theorem KvsR.val : ∀ {vs : List (Key × V)} {kvs : List (Str × PyData)} (y : Str), KvsR K H vs kvs → y ∈ kvs.map (·.1) → ∃ v, valV vs (.inr y) = some v ∧ Dp K H v (lk kvs y)
  | [], [], y, _, h => by simp at h
  | (k, v) :: r, (x, d) :: t, y, ⟨h1, h2, h3⟩, h => by
    by_cases e : y = x
    · subst e
      refine ⟨v, by rw [h1]; exact valV_pos rfl, ?_⟩
      unfold lk
      rw [List.lookup_cons, beq_self_eq_true]
      exact h2
    · have hm : y ∈ t.map (·.1) := by
        rw [List.map_cons] at h
        exact (List.mem_cons.mp h).resolve_left e
      obtain ⟨w, g1, g2⟩ := KvsR.val y h3 hm
      refine ⟨w, by rw [h1, valV_neg (fun q => e (Sum.inr.inj q).symm)]; exact g1, ?_⟩
      unfold lk at g2 ⊢
      rw [List.lookup_cons, show (y == x) = false by simpa using e]
      exact g2
theorem lk_self : ∀ {kvs : List (Str × PyData)}, (kvs.map (·.1)).Nodup → (kvs.map (·.1)).map (fun y => (y, lk kvs y)) = kvs := by
  intro kvs
  induction kvs with
  | nil => intro _; rfl
  | cons p r ih =>
    obtain ⟨x, d⟩ := p
    intro h
    rw [List.map_cons, List.nodup_cons] at h
    rw [List.map_cons, List.map_cons]
    have e1 : lk ((x, d) :: r) x = d := by
      unfold lk
      rw [List.lookup_cons, beq_self_eq_true]
      rfl
    rw [e1]
    have e2 : (r.map (·.1)).map (fun y => (y, lk ((x, d) :: r) y)) = (r.map (·.1)).map (fun y => (y, lk r y)) := List.map_congr_left fun y hy => by
      have : (y == x) = false := by simpa using fun e : y = x => h.1 (e ▸ hy)
      unfold lk
      rw [List.lookup_cons, this]
    rw [e2, ih h.2]
end
def okTab (ok : PyData → Bool) (most : Nat) : ArgD → Option (List (Str × PyData))
  | .none => some []
  | .other _ => none
  | .dict kvs => if kvs.length ≤ most ∧ (kvs.all fun p => isWordS p.1 && ok p.2) = true then some kvs else none
section
variable {P : Program} {w : World} {K : PySem.W.Frag} {mg : Str → Option Value} {base : Heap} {pS CI : Addr}
def spTab (K : PySem.W.Frag) (CI : Addr) (part : Str) (ok : PyData → Bool) (most : Nat) : Sp := fun vs H Q X => ∃ v a, vs = [v] ∧ ArgV K H v a ∧ argSmall a ∧
  (∀ kvs, okTab ok most a = some kvs → ∀ p' H' ws kvs', Same H H' → H p' = none → H' p' = some (.dK ws) → kvs'.Perm kvs → sortedS (kvs'.map (·.1)) = true → KvsR K H' ws kvs' → Q (.ref p') H') ∧
  (okTab ok most a = none → ∀ H' d, Fr (argF a v) H H' → XProg K H' d part [] → X (.ref CI) (some d) H')
theorem nodup_take {ys : List Str} {i : Nat} {y : Str} (h : ys.Nodup) (e : ys[i]? = some y) : y ∉ ys.take i := fun m => by
  obtain ⟨j, hj⟩ := List.getElem?_of_mem m
  have hji : j < i := by
    have := (List.getElem?_eq_some_iff.mp hj).1
    rw [List.length_take] at this
    omega
  rw [List.getElem?_take, if_pos hji] at hj
  obtain ⟨h1, e1⟩ := List.getElem?_eq_some_iff.mp hj
  obtain ⟨h2, e2⟩ := List.getElem?_eq_some_iff.mp e
  exact (List.pairwise_iff_getElem.mp h) j i h1 h2 hji (e1.trans e2.symm)
theorem tyV_dK {H : Hp} {p : Addr} {kvs : List (Key × V)} (h : H p = some (.dK kvs)) : tyV K "dict" (.ref p) H := .inr (.inr (.inl ⟨rfl, .inl ⟨kvs, h⟩⟩))
theorem kit_dictK {H : Hp} {p : Addr} {kvs : List (Key × V)} (h : H p = some (.dK kvs)) : TyX K H (.ref p) (.type "dict") := .base (.dK h)
theorem sc_checked_asks : FnScope ["value", "name", "words"] ["value"] (defScope s_checked_asks) := ⟨rfl, rfl, rfl, by decide +kernel, rfl, by decide +kernel, by decide +kernel⟩
theorem ok_checked_asks {f : Addr} {fd : FuncData} (F : Fun K "checked_asks" "checked_asks" s_checked_asks f fd) (T : TxtC P w K mg pS CI) (c_is_word : Cal P w K mg base CX0 1 "is_word" ["value"] (spWord K)) (c_are_words : Cal P w K mg base CX0 2 "are_words" ["value", "most"] (spAreWords K)) :
    FnOk P w K mg base (L2.CX P w) 3 f fd ["value"] (spTab K CI "asks" (areWords 4) 6) := by
  refine F.okX sc_checked_asks (fun vs H Q E h => ?_) (fun cdv A outer s H vs Q E hr h => ?_)
  · obtain ⟨v, a, rfl, _⟩ := h
    rfl
  · obtain ⟨v, a, rfl, hv, hsm, k1, k2⟩ := h
    have hu := hu_of hr
    refine ⟨_, (pss_cons (ps_if (pt_cmpR op_isN (pv 0) pe_non (nomark _)) (pss_one (ps_ret pe_dnewK)) pss_nil)
      (pss_cons (ps_if (PW.pt (pw_or (pt_not (pt_val (pe_callB call_isi (by rfl) T.b_isinstance (by decide +kernel) (pa_cons (pv 0) (pa_cons (pe_bltn (v := .ty "dict") (by rfl) T.b_dict (by decide +kernel) rfl) pa_nil))))) (pw_or1 (pt_cmpR op_gt (pe_callB call_lenD (by rfl) T.b_len (by decide +kernel) (pa_cons (pv 0) pa_nil)) pe_int (nomark _))))) (pss_one (ps_raise rfl (takes_of rfl rfl rfl rfl) (pmk_x T.mk_InvalidProgram hr rfl T.g_InvalidProgram T.k_InvalidProgram T.r_InvalidProgram (pa_cons pe_str (pa_cons (pe_tup pa_nil) pa_nil))))) pss_nil)
      (pss_cons (ps_lock (ps_for (passes_of rfl) rfl (pi_items (pv 0)) (pg_tup rfl (pgs_cons (pg_name (i := 1) sc_checked_asks.nd rfl (.inl rfl)) (pgs_cons (pg_name (i := 2) sc_checked_asks.nd rfl (.inl rfl)) pgs_nil))) (pss_one (ps_if (PW.pt (pw_or (pt_not (pt_val (pe_cal c_is_word (hr.mono (by omega)) rfl pass0 (pa_cons (pv 1) pa_nil)))) (pw_or1 (pt_not (pt_val (pe_cal c_are_words (hr.mono (by omega)) rfl pass0 (pa_cons (pv 2) (pa_cons pe_int pa_nil)))))))) (pss_one (ps_raise rfl (takes_of rfl rfl rfl rfl) (pmk_x T.mk_InvalidProgram hr rfl T.g_InvalidProgram T.k_InvalidProgram T.r_InvalidProgram (pa_cons pe_str (pa_cons (pe_tup pa_nil) pa_nil))))) pss_nil))))
      (pss_one (ps_ret (pe_dc (own := [("name", 1)]) (g := gName 1) (tt := tYes) rfl sc_checked_asks.nd (pi_list (pe_callB (call_sortedKV rfl) (by rfl) T.b_sorted (by decide +kernel) (pa_cons (pe_bm0 PySem.F.plainAttrs_dict PySem.F.slot_dict_keys PySem.F.type_dict_keys mt_keysV (pv 0)) pa_nil))) (blkOk_by (own := [("name", 1)]) (N := ["value", "name", "words"]) (sc := defScope s_checked_asks) (by decide +kernel)) (fun _ _ _ _ _ => (pg_name (i := 1) sc_checked_asks.nd rfl (.inl rfl))) (fun _ _ _ _ _ => pts_nil) (fun _ _ _ _ _ => (pv 1)) (fun _ _ _ _ _ => (pe_dget hu (pv 0) (pv 1) (fun _ _ => rfl))))))))), ?_⟩
    have fin : (∀ H' dd, Fr (argF a v) H H' → XProg K H' dd "asks" [] → E (.ref CI) (some dd) H') → ∀ H1, Fr (argF a v) H H1 → ∀ p, H1 p = none → ∀ d, upd H1 p (.tup []) d = none → E (.ref CI) (some d) (upd (upd H1 p (.tup [])) d (.xd [("path", .ref p), ("part", .str "asks")])) := by
      intro k H1 f1 p hp d hd
      refine k _ d (f1.trans ((Same.new hp).trans (Same.new hd)).fr) ⟨p, upd_same, ?_⟩
      exact SqT.mono (.inl (.inl upd_same)) (Same.new hd)
    cases a with
    | none =>
      obtain rfl := hv
      refine ⟨_, rfl, rfl, _, rfl, ifT rfl fun p hp => ?_⟩
      exact k1 [] rfl p _ [] [] (Same.new hp) hp upd_same .nil rfl trivial
    | other d =>
      obtain ⟨hd, hn⟩ := hv
      have hvn : decide (v = .non) = false := decide_eq_false fun e => by
        subst e
        cases hd
        exact hn rfl
      refine ⟨_, rfl, rfl, _, rfl, ?_⟩
      rw [hvn]
      refine ifF rfl ⟨_, rfl, v, _, _, _, _, rfl, .ty _, ty_dp hd, kit_dict d, _, rfl, ?_⟩
      have fin' : ∀ p, H p = none → ∀ d, upd H p (.tup []) d = none → E (.ref CI) (some d) (upd (upd H p (.tup [])) d (.xd [("path", .ref p), ("part", .str "asks")])) := fin (k2 rfl) H Fr.refl
      cases hd <;> exact ifT rfl (ifT rfl ⟨sz_lit (by decide), fun p hp => ⟨rfl, fun d hd => fin' p hp d hd⟩⟩)
    | dict kvs =>
      obtain ⟨p, vs, rfl, hp, hkv, hnd⟩ := hv
      obtain ⟨hl60, hsmall⟩ := hsm
      have hlen := hkv.len
      refine ⟨_, rfl, rfl, _, rfl, ifF rfl ?_⟩
      refine ⟨_, rfl, .ref p, _, _, _, _, rfl, .ty _, kit_dictK hp, kit_ty (show kitB "dict" "dict" = some true by decide +kernel), _, rfl, ifF rfl ?_⟩
      refine ⟨_, rfl, p, vs, rfl, hp, _, _, rfl, rfl, _, rfl, ?_⟩
      by_cases e1 : 6 < vs.length
      · refine ifT (decide_eq_true (show (6 : Int) < (vs.length : Int) by omega)) ?_
        have : okTab (areWords 4) 6 (.dict kvs) = none := if_neg fun h => by omega
        exact ⟨sz_lit (by decide), fun q hq => ⟨rfl, fun d hd => fin (k2 this) H Fr.refl q hq d hd⟩⟩
      refine ifF (decide_eq_false (show ¬ (6 : Int) < (vs.length : Int) by omega)) ?_
      refine ⟨p, _, hp, trivial, fun od => ?_⟩
      have kp1 : Kp H (upd H p (.frz od (.dK vs))) := fun b o hb ho => by
        have : b ≠ p := fun e => by rw [e, hp] at hb; cases hb; cases ho
        rw [upd_ne this]
        exact hb
      have fr1 : Fr (argF (.dict kvs) (.ref p)) H (upd H p (.frz od (.dK vs))) := Fr.refl.upd (by simp [argF, argL])
      refine ⟨_, rfl, p, od, vs, rfl, upd_same, ?_⟩
      refine for_it walk_items (fun i σ H' => (∃ y1 y2 : Option V, σ = [some (.ref p), y1, y2]) ∧ Same (upd H p (.frz od (.dK vs))) H' ∧ ((kvs.take i).all fun q => isWordS q.1 && areWords 4 q.2) = true) ⟨⟨_, _, rfl⟩, Same.refl _, rfl⟩ (fun i σ H' _ q => q.2.1 _ _ upd_same) ?_ ?_
      · rintro i v σ H1 H2 hi ⟨⟨y1, y2, rfl⟩, s1, hall⟩ ⟨T0, x, y, rfl, hT0, rfl, hx, hy⟩
        have hvi : vs[i]? = some vs[i] := List.getElem?_eq_getElem hi
        have hx : Option.map (fun kv => kV kv.1) vs[i]? = some x := hx
        have hy : Option.map Prod.snd vs[i]? = some y := hy
        rw [hvi] at hx hy
        obtain ⟨xk, d, hki, hk, hdy⟩ := hkv.get (k := vs[i].1) (v := vs[i].2) hvi
        obtain rfl : x = .str xk := by
          rw [← Option.some.inj hx]
          show kV vs[i].1 = _
          rw [hk]
          rfl
        obtain rfl : y = vs[i].2 := (Option.some.inj hy).symm
        obtain ⟨hs1, hs2⟩ := hsmall (xk, d) (List.mem_of_getElem? hki)
        have sm2 : Same H1 (upd H1 T0 (.tup [.str xk, vs[i].2])) := Same.new hT0
        refine ⟨T0, _, rfl, .inl (.inl upd_same), rfl, _, _, rfl, _, _, rfl, rfl, ?_⟩
        have s2 := s1.trans sm2
        revert s2
        generalize upd H1 T0 (.tup [.str xk, vs[i].2]) = H2
        intro s2
        have hdy2 : Dp K H2 vs[i].2 d := hdy.kp (kp1.trans s2.kp)
        refine ⟨_, rfl, .str xk, .str xk, rfl, .str xk, fun z e => by cases e; exact hs1, _, rfl, ?_⟩
        have bad : (isWordS xk && areWords 4 d) = false → okTab (areWords 4) 6 (.dict kvs) = none := fun hb => if_neg fun h => by
          have := List.all_eq_true.mp h.2 (xk, d) (List.mem_of_getElem? hki)
          rw [hb] at this
          cases this
        have up : ∀ q, H2 q = none → ∀ d, upd H2 q (.tup []) d = none → okTab (areWords 4) 6 (.dict kvs) = none → E (.ref CI) (some d) (upd (upd H2 q (.tup [])) d (.xd [("path", .ref q), ("part", .str "asks")])) := fun q hq d hd hn => fin (k2 hn) H2 (fr1.trans s2.fr) q hq d hd
        by_cases w1 : isWordS xk = true
        · rw [show isWord (.str xk) = true from w1]
          refine ifF rfl ⟨_, rfl, vs[i].2, d, 4, rfl, hdy2, small_of d hs2, by decide, _, rfl, ?_⟩
          by_cases w2 : areWords 4 d = true
          · rw [w2]
            refine ifF rfl ⟨⟨_, _, rfl⟩, s2, ?_⟩
            rw [TS.take_one hki, List.all_append, hall]
            simp [w1, w2]
          · rw [Bool.eq_false_iff.mpr w2]
            refine ifT rfl ⟨sz_lit (by decide), fun q hq => ⟨rfl, fun d hd => up q hq d hd (bad ?_)⟩⟩
            rw [Bool.eq_false_iff.mpr w2, Bool.and_false]
        · rw [show isWord (.str xk) = false from Bool.eq_false_iff.mpr w1]
          refine ifT rfl (ifT rfl ⟨sz_lit (by decide), fun q hq => ⟨rfl, fun d hd => up q hq d hd (bad ?_)⟩⟩)
          rw [Bool.eq_false_iff.mpr w1, Bool.false_and]
      · rintro σ H1 ⟨⟨y1, y2, rfl⟩, s1, hall⟩
        rw [List.take_of_length_le (by omega)] at hall
        refine ⟨s1 _ _ upd_same, ?_⟩
        have good : okTab (areWords 4) 6 (.dict kvs) = some kvs := if_pos ⟨by omega, hall⟩
        have sA : Same H (upd H1 p (.dK vs)) := fun b o hb => by
          by_cases e : b = p
          · subst e
            rw [hp] at hb
            rw [upd_same]
            exact hb
          · rw [upd_ne e]
            refine s1 b o ?_
            rw [upd_ne e]
            exact hb
        have hpA : upd H1 p (.dK vs) p = some (.dK vs) := upd_same
        revert sA hpA
        generalize upd H1 p (.dK vs) = H2
        intro sA hpA
        refine ⟨_, rfl, tyV_dK hpA, p, vs, rfl, rfl, .inl hpA, fun q hq => ?_⟩
        have sB : Same H2 (upd H2 q (keysO q p)) := Same.new hq
        refine ⟨q, p, vs, kvs.map (·.1), rfl, upd_same, .inl (sB _ _ hpA), hkv.keys, by rw [List.length_map]; omega, fun ys l hperm hsort hl => ?_⟩
        have sC := sB.trans (Same.new (o := .lst (ys.map V.str)) hl)
        have hlC : upd (upd H2 q (keysO q p)) l (.lst (ys.map V.str)) l = some (.lst (ys.map V.str)) := upd_same
        revert sC hlC
        generalize upd (upd H2 q (keysO q p)) l (.lst (ys.map V.str)) = H3
        intro sC hlC
        refine ⟨l, rfl, ⟨_, .inl (.inl hlC)⟩, fun D hD => ?_⟩
        have hnd' : ys.Nodup := hperm.nodup_iff.mpr hnd
        have hyl : ys.length = kvs.length := by rw [hperm.length_eq, List.length_map]
        have hDS : Same H3 (upd H3 D (.dK [])) := Same.new hD
        refine dc_it (walk_list (xs := ys.map V.str)) (fun i H' => H' D = some (.dK ((ys.take i).map fun y => (Sum.inr y, (valV vs (.inr y)).getD .non))) ∧ Same H3 H') ⟨upd_same, hDS⟩ (fun i H' _ q => .inl (.inl (q.2 _ _ hlC))) ?_ ?_
        · rintro i x H5 H4 hi ⟨hD4, s4⟩ ⟨rfl, hx⟩
          have hi' : i < ys.length := by rw [List.length_map] at hi; exact hi
          have hyi : ys[i]? = some ys[i] := List.getElem?_eq_getElem hi'
          obtain rfl : x = .str ys[i] := by
            rw [List.getElem?_map, hyi] at hx
            exact (Option.some.inj hx).symm
          obtain ⟨v, hv1, hv2⟩ := hkv.val ys[i] (hperm.mem_iff.mp (List.mem_of_getElem? hyi))
          have hp4 : H4 p = some (.dK vs) := s4 _ _ (sC _ _ hpA)
          refine ⟨rfl, ?_⟩
          refine ⟨_, rfl, _, rfl, _, rfl, p, v, rfl, by rw [← hv1]; exact dget_known hp4, _, .inr ys[i], rfl, hD4, lt_sz (by rw [List.length_map, List.length_take]; omega), ?_, fun b o hb => ?_⟩
          · rw [upd_same, putK_new]
            · rw [TS.take_one hyi, List.map_append, List.map_cons, List.map_nil, hv1]
              rfl
            · have : ∀ l : List Str, ys[i] ∉ l → valV (l.map fun y => ((Sum.inr y : Key), (valV vs (.inr y)).getD .non)) (.inr ys[i]) = none := by
                intro l
                induction l with
                | nil => intro _; rfl
                | cons z r ih =>
                  intro hz
                  rw [List.mem_cons, not_or] at hz
                  rw [List.map_cons, valV_neg (fun e => hz.1 (Sum.inr.inj e).symm)]
                  exact ih hz.2
              exact this _ (nodup_take hnd' hyi)
          · have : b ≠ D := fun e => by rw [e, hD] at hb; cases hb
            rw [upd_ne this]
            exact s4 b o hb
        · rintro H4 ⟨hD4, s4⟩
          rw [List.length_map, List.take_length] at hD4
          have sall : Same H H4 := sA.trans (sC.trans s4)
          refine k1 kvs good D H4 _ (ys.map fun y => (y, lk kvs y)) sall ?_ hD4 ?_ ?_ ?_
          · exact (sA.trans sC).free hD
          · have := hperm.map (fun y => (y, lk kvs y))
            rw [lk_self hnd] at this
            exact this
          · rw [List.map_map]
            have : ((fun x : Str × PyData => x.1) ∘ fun y => (y, lk kvs y)) = id := by funext y; rfl
            rw [this, List.map_id]
            exact hsort
          · have : ∀ l : List Str, (∀ y ∈ l, y ∈ kvs.map (·.1)) → KvsR K H4 (l.map fun y => ((Sum.inr y : Key), (valV vs (.inr y)).getD .non)) (l.map fun y => (y, lk kvs y)) := by
              intro l
              induction l with
              | nil => intro _; exact trivial
              | cons z r ih =>
                intro hz
                obtain ⟨v, hv1, hv2⟩ := hkv.val z (hz z List.mem_cons_self)
                refine ⟨rfl, ?_, ih fun y hy => hz y (List.mem_cons_of_mem _ hy)⟩
                show Dp K H4 ((valV vs (.inr z)).getD .non) _
                rw [hv1]
                exact hv2.mono sall
            exact this ys fun y hy => hperm.mem_iff.mp hy
end
end Op
namespace Op
open PySem L2 PyProof.Rows
def isBox : PyData → Bool
  | .tuple [.int n, d] => decide (1 ≤ n ∧ n ≤ 3) && areWords 3 d
  | _ => false
section
variable {P : Program} {w : World} {K : PySem.W.Frag} {mg : Str → Option Value} {base : Heap} {pS CI : Addr}
theorem small_tup {ds : List PyData} (h : small (.tuple ds) = true) : smalls ds = true := by
  unfold small at h
  exact (Bool.and_eq_true_iff.mp h).2
def spInt (K : PySem.W.Frag) : Sp := fun vs H Q _ => ∃ (v : V) (d : PyData), vs = [v] ∧ Dp K H v d ∧ Q (.bl (isInt d)) H
theorem sc_is_integer : FnScope ["value"] ["value"] (defScope s_is_integer) := ⟨rfl, rfl, rfl, by decide +kernel, rfl, by decide +kernel, by decide +kernel⟩
theorem ok_is_integer {f : Addr} {fd : FuncData} (F : Fun K "is_integer" "is_integer" s_is_integer f fd) (T : Txt mg) : FnOk P w K mg base CX0 1 f fd ["value"] (spInt K) := by
  refine F.ok sc_is_integer (fun vs H Q E h => ?_) (fun cdv A outer s H vs Q E hr h => ?_)
  · obtain ⟨v, d, rfl, _⟩ := h
    rfl
  · obtain ⟨v, d, rfl, hd, k⟩ := h
    refine ⟨_, (pss_one (ps_ret (pe_and (pe_callB call_isi (by rfl) T.b_isinstance (by decide +kernel) (pa_cons (pv 0) (pa_cons (pe_bltn (v := .ty "int") (by rfl) T.b_int (by decide +kernel) rfl) pa_nil))) (pe_one (pe_not (pe_callB call_isi (by rfl) T.b_isinstance (by decide +kernel) (pa_cons (pv 0) (pa_cons (pe_bltn (v := .ty "bool") (by rfl) T.b_bool (by decide +kernel) rfl) pa_nil)))))))), ?_⟩
    refine ⟨_, rfl, v, _, _, _, _, rfl, .ty _, ty_dp hd, kit_int d, _, rfl, ?_⟩
    cases hd with
    | int i => exact ifT rfl ⟨_, rfl, .int i, _, _, _, _, rfl, .ty _, ty_dp (.int i), kit_bool (.int i), _, rfl, k⟩
    | bl b => exact ifT rfl ⟨_, rfl, .bl b, _, _, _, _, rfl, .ty _, ty_dp (.bl b), kit_bool (.bool b), _, rfl, k⟩
    | _ => exact ifF rfl k
def spBox (K : PySem.W.Frag) : Sp := fun vs H Q _ => ∃ (v : V) (d : PyData), vs = [v] ∧ Dp K H v d ∧ small d = true ∧ Q (.bl (isBox d)) H
theorem sc_is_box : FnScope ["value"] ["value"] (defScope s_is_box) := ⟨rfl, rfl, rfl, by decide +kernel, rfl, by decide +kernel, by decide +kernel⟩
theorem ok_is_box {f : Addr} {fd : FuncData} (F : Fun K "is_box" "is_box" s_is_box f fd) (T : Txt mg) (c_is_integer : Cal P w K mg base CX0 1 "is_integer" ["value"] (spInt K)) (c_are_words : Cal P w K mg base CX0 2 "are_words" ["value", "most"] (spAreWords K)) : FnOk P w K mg base CX0 3 f fd ["value"] (spBox K) := by
  refine F.ok sc_is_box (fun vs H Q E h => ?_) (fun cdv A outer s H vs Q E hr h => ?_)
  · obtain ⟨v, d, rfl, _⟩ := h
    rfl
  · obtain ⟨v, d, rfl, hd, hs, k⟩ := h
    refine ⟨_, (pss_cons (ps_if (PW.pt (pw_or (pt_not (pt_val (pe_callB call_isi (by rfl) T.b_isinstance (by decide +kernel) (pa_cons (pv 0) (pa_cons (pe_bltn (v := .ty "tuple") (by rfl) T.b_tuple (by decide +kernel) rfl) pa_nil))))) (pw_or (pt_cmpR op_ne (pe_callB call_len_seq (by rfl) T.b_len (by decide +kernel) (pa_cons (pv 0) pa_nil)) pe_int (nomark _)) (pw_or1 (pt_not (pt_val (pe_cal c_is_integer (hr.mono (by omega)) rfl pass0 (pa_cons (pe_ix ix_tup (pv 0) pe_int (fun _ _ => rfl)) pa_nil)))))))) (pss_one (ps_ret pe_bl)) pss_nil)
      (pss_one (ps_ret (pe_and (pe_chain op_le op_le pe_int (pe_ix ix_tup (pv 0) pe_int (fun _ _ => rfl)) pe_int) (pe_one (pe_cal c_are_words (hr.mono (by omega)) rfl pass0 (pa_cons (pe_ix ix_tup (pv 0) pe_int (fun _ _ => rfl)) (pa_cons pe_int pa_nil)))))))), ?_⟩
    refine ⟨_, rfl, v, _, _, _, _, rfl, .ty _, ty_dp hd, kit_tuple d, _, rfl, ?_⟩
    cases hd with
    | @tup a xs ds hq ha =>
      refine ifF rfl ⟨_, rfl, a, xs, rfl, .inr hq, rfl, _, rfl, ?_⟩
      have hlen := ha.len
      by_cases c : xs.length = 2
      · rw [c]
        refine ifF rfl ?_
        match xs, ds, ha, c, hlen, hq, hs, k with
        | [x, y], [d0, d1], .cons h0 (.cons h1 .nil), _, _, hq, hs, k =>
          refine ⟨_, rfl, a, _, 0, _, rfl, rfl, hq, atI_zero _ _, x, d0, rfl, h0, _, rfl, ?_⟩
          by_cases ci : isInt d0 = true
          · rw [ci]
            refine ifF rfl ?_
            cases h0 with
            | int n =>
              have hs1 : small d1 = true := smalls_get (ds := [.int n, d1]) (i := 1) (small_tup hs) rfl
              have e : isBox (.tuple [.int n, d1]) = (decide (1 ≤ n ∧ n ≤ 3) && areWords 3 d1) := rfl
              rw [e] at k
              refine ⟨_, rfl, a, _, 0, _, rfl, rfl, hq, atI_zero _ _, _, _, rfl, rfl, _, rfl, ?_⟩
              by_cases c1 : 1 ≤ n
              · refine ifT (decide_eq_true c1) ⟨_, _, rfl, rfl, _, rfl, ?_⟩
                by_cases c2 : n ≤ 3
                · rw [decide_eq_true (⟨c1, c2⟩ : 1 ≤ n ∧ n ≤ 3)] at k
                  exact ifT (decide_eq_true c2) ⟨_, rfl, a, _, 1, _, rfl, rfl, hq, atI_one _ _ _, y, d1, 3, rfl, h1, hs1, by decide, k⟩
                · rw [decide_eq_false (fun h => c2 h.2 : ¬ (1 ≤ n ∧ n ≤ 3))] at k
                  exact ifF (decide_eq_false c2) k
              · rw [decide_eq_false (fun h => c1 h.1 : ¬ (1 ≤ n ∧ n ≤ 3))] at k
                exact ifF (decide_eq_false c1) ⟨_, rfl, ifF rfl k⟩
            | _ => cases ci
          · rw [Bool.eq_false_iff.mpr ci]
            refine ifT rfl ?_
            have : isBox (.tuple [d0, d1]) = false := by cases d0 <;> first | rfl | exact absurd rfl ci
            rw [this] at k
            exact k
      · refine ifT (by rw [decide_eq_false (by intro z; injection z with z; omega)]; rfl) (ifT rfl ?_)
        · have : isBox (.tuple ds) = false := by
            match ds, hlen with
            | [], _ => rfl
            | [x], _ => cases x <;> rfl
            | [_, _], h => exact absurd h c
            | x :: _ :: _ :: _, _ => cases x <;> rfl
          rw [this] at k
          exact k
    | _ => exact ifT rfl (ifT rfl k)
theorem sc_checked_signals : FnScope ["value", "name", "box"] ["value"] (defScope s_checked_signals) := ⟨rfl, rfl, rfl, by decide +kernel, rfl, by decide +kernel, by decide +kernel⟩
theorem ok_checked_signals {f : Addr} {fd : FuncData} (F : Fun K "checked_signals" "checked_signals" s_checked_signals f fd) (T : TxtC P w K mg pS CI) (c_is_word : Cal P w K mg base CX0 1 "is_word" ["value"] (spWord K)) (c_is_box : Cal P w K mg base CX0 3 "is_box" ["value"] (spBox K)) :
    FnOk P w K mg base (L2.CX P w) 4 f fd ["value"] (spTab K CI "signals" isBox 3) := by
  refine F.okX sc_checked_signals (fun vs H Q E h => ?_) (fun cdv A outer s H vs Q E hr h => ?_)
  · obtain ⟨v, a, rfl, _⟩ := h
    rfl
  · obtain ⟨v, a, rfl, hv, hsm, k1, k2⟩ := h
    have hu := hu_of hr
    refine ⟨_, (pss_cons (ps_if (pt_cmpR op_isN (pv 0) pe_non (nomark _)) (pss_one (ps_ret pe_dnewK)) pss_nil)
      (pss_cons (ps_if (PW.pt (pw_or (pt_not (pt_val (pe_callB call_isi (by rfl) T.b_isinstance (by decide +kernel) (pa_cons (pv 0) (pa_cons (pe_bltn (v := .ty "dict") (by rfl) T.b_dict (by decide +kernel) rfl) pa_nil))))) (pw_or1 (pt_cmpR op_gt (pe_callB call_lenD (by rfl) T.b_len (by decide +kernel) (pa_cons (pv 0) pa_nil)) pe_int (nomark _))))) (pss_one (ps_raise rfl (takes_of rfl rfl rfl rfl) (pmk_x T.mk_InvalidProgram hr rfl T.g_InvalidProgram T.k_InvalidProgram T.r_InvalidProgram (pa_cons pe_str (pa_cons (pe_tup pa_nil) pa_nil))))) pss_nil)
      (pss_cons (ps_lock (ps_for (passes_of rfl) rfl (pi_items (pv 0)) (pg_tup rfl (pgs_cons (pg_name (i := 1) sc_checked_signals.nd rfl (.inl rfl)) (pgs_cons (pg_name (i := 2) sc_checked_signals.nd rfl (.inl rfl)) pgs_nil))) (pss_one (ps_if (PW.pt (pw_or (pt_not (pt_val (pe_cal c_is_word (hr.mono (by omega)) rfl pass0 (pa_cons (pv 1) pa_nil)))) (pw_or1 (pt_not (pt_val (pe_cal c_is_box (hr.mono (by omega)) rfl pass0 (pa_cons (pv 2) pa_nil))))))) (pss_one (ps_raise rfl (takes_of rfl rfl rfl rfl) (pmk_x T.mk_InvalidProgram hr rfl T.g_InvalidProgram T.k_InvalidProgram T.r_InvalidProgram (pa_cons pe_str (pa_cons (pe_tup pa_nil) pa_nil))))) pss_nil))))
      (pss_one (ps_ret (pe_dc (own := [("name", 1)]) (g := gName 1) (tt := tYes) rfl sc_checked_signals.nd (pi_list (pe_callB (call_sortedKV rfl) (by rfl) T.b_sorted (by decide +kernel) (pa_cons (pe_bm0 PySem.F.plainAttrs_dict PySem.F.slot_dict_keys PySem.F.type_dict_keys mt_keysV (pv 0)) pa_nil))) (blkOk_by (own := [("name", 1)]) (N := ["value", "name", "box"]) (sc := defScope s_checked_signals) (by decide +kernel)) (fun _ _ _ _ _ => (pg_name (i := 1) sc_checked_signals.nd rfl (.inl rfl))) (fun _ _ _ _ _ => pts_nil) (fun _ _ _ _ _ => (pv 1)) (fun _ _ _ _ _ => (pe_dget hu (pv 0) (pv 1) (fun _ _ => rfl))))))))), ?_⟩
    have fin : (∀ H' dd, Fr (argF a v) H H' → XProg K H' dd "signals" [] → E (.ref CI) (some dd) H') → ∀ H1, Fr (argF a v) H H1 → ∀ p, H1 p = none → ∀ d, upd H1 p (.tup []) d = none → E (.ref CI) (some d) (upd (upd H1 p (.tup [])) d (.xd [("path", .ref p), ("part", .str "signals")])) := by
      intro k H1 f1 p hp d hd
      refine k _ d (f1.trans ((Same.new hp).trans (Same.new hd)).fr) ⟨p, upd_same, ?_⟩
      exact SqT.mono (.inl (.inl upd_same)) (Same.new hd)
    cases a with
    | none =>
      obtain rfl := hv
      refine ⟨_, rfl, rfl, _, rfl, ifT rfl fun p hp => ?_⟩
      exact k1 [] rfl p _ [] [] (Same.new hp) hp upd_same .nil rfl trivial
    | other d =>
      obtain ⟨hd, hn⟩ := hv
      have hvn : decide (v = .non) = false := decide_eq_false fun e => by
        subst e
        cases hd
        exact hn rfl
      refine ⟨_, rfl, rfl, _, rfl, ?_⟩
      rw [hvn]
      refine ifF rfl ⟨_, rfl, v, _, _, _, _, rfl, .ty _, ty_dp hd, kit_dict d, _, rfl, ?_⟩
      have fin' : ∀ p, H p = none → ∀ d, upd H p (.tup []) d = none → E (.ref CI) (some d) (upd (upd H p (.tup [])) d (.xd [("path", .ref p), ("part", .str "signals")])) := fin (k2 rfl) H Fr.refl
      cases hd <;> exact ifT rfl (ifT rfl ⟨sz_lit (by decide), fun p hp => ⟨rfl, fun d hd => fin' p hp d hd⟩⟩)
    | dict kvs =>
      obtain ⟨p, vs, rfl, hp, hkv, hnd⟩ := hv
      obtain ⟨hl60, hsmall⟩ := hsm
      have hlen := hkv.len
      refine ⟨_, rfl, rfl, _, rfl, ifF rfl ?_⟩
      refine ⟨_, rfl, .ref p, _, _, _, _, rfl, .ty _, kit_dictK hp, kit_ty (show kitB "dict" "dict" = some true by decide +kernel), _, rfl, ifF rfl ?_⟩
      refine ⟨_, rfl, p, vs, rfl, hp, _, _, rfl, rfl, _, rfl, ?_⟩
      by_cases e1 : 3 < vs.length
      · refine ifT (decide_eq_true (show (3 : Int) < (vs.length : Int) by omega)) ?_
        have : okTab isBox 3 (.dict kvs) = none := if_neg fun h => by omega
        exact ⟨sz_lit (by decide), fun q hq => ⟨rfl, fun d hd => fin (k2 this) H Fr.refl q hq d hd⟩⟩
      refine ifF (decide_eq_false (show ¬ (3 : Int) < (vs.length : Int) by omega)) ?_
      refine ⟨p, _, hp, trivial, fun od => ?_⟩
      have kp1 : Kp H (upd H p (.frz od (.dK vs))) := fun b o hb ho => by
        have : b ≠ p := fun e => by rw [e, hp] at hb; cases hb; cases ho
        rw [upd_ne this]
        exact hb
      have fr1 : Fr (argF (.dict kvs) (.ref p)) H (upd H p (.frz od (.dK vs))) := Fr.refl.upd (by simp [argF, argL])
      refine ⟨_, rfl, p, od, vs, rfl, upd_same, ?_⟩
      refine for_it walk_items (fun i σ H' => (∃ y1 y2 : Option V, σ = [some (.ref p), y1, y2]) ∧ Same (upd H p (.frz od (.dK vs))) H' ∧ ((kvs.take i).all fun q => isWordS q.1 && isBox q.2) = true) ⟨⟨_, _, rfl⟩, Same.refl _, rfl⟩ (fun i σ H' _ q => q.2.1 _ _ upd_same) ?_ ?_
      · rintro i v σ H1 H2 hi ⟨⟨y1, y2, rfl⟩, s1, hall⟩ ⟨T0, x, y, rfl, hT0, rfl, hx, hy⟩
        have hvi : vs[i]? = some vs[i] := List.getElem?_eq_getElem hi
        have hx : Option.map (fun kv => kV kv.1) vs[i]? = some x := hx
        have hy : Option.map Prod.snd vs[i]? = some y := hy
        rw [hvi] at hx hy
        obtain ⟨xk, d, hki, hk, hdy⟩ := hkv.get (k := vs[i].1) (v := vs[i].2) hvi
        obtain rfl : x = .str xk := by
          rw [← Option.some.inj hx]
          show kV vs[i].1 = _
          rw [hk]
          rfl
        obtain rfl : y = vs[i].2 := (Option.some.inj hy).symm
        obtain ⟨hs1, hs2⟩ := hsmall (xk, d) (List.mem_of_getElem? hki)
        have sm2 : Same H1 (upd H1 T0 (.tup [.str xk, vs[i].2])) := Same.new hT0
        refine ⟨T0, _, rfl, .inl (.inl upd_same), rfl, _, _, rfl, _, _, rfl, rfl, ?_⟩
        have s2 := s1.trans sm2
        revert s2
        generalize upd H1 T0 (.tup [.str xk, vs[i].2]) = H2
        intro s2
        have hdy2 : Dp K H2 vs[i].2 d := hdy.kp (kp1.trans s2.kp)
        refine ⟨_, rfl, .str xk, .str xk, rfl, .str xk, fun z e => by cases e; exact hs1, _, rfl, ?_⟩
        have bad : (isWordS xk && isBox d) = false → okTab isBox 3 (.dict kvs) = none := fun hb => if_neg fun h => by
          have := List.all_eq_true.mp h.2 (xk, d) (List.mem_of_getElem? hki)
          rw [hb] at this
          cases this
        have up : ∀ q, H2 q = none → ∀ d, upd H2 q (.tup []) d = none → okTab isBox 3 (.dict kvs) = none → E (.ref CI) (some d) (upd (upd H2 q (.tup [])) d (.xd [("path", .ref q), ("part", .str "signals")])) := fun q hq d hd hn => fin (k2 hn) H2 (fr1.trans s2.fr) q hq d hd
        by_cases w1 : isWordS xk = true
        · rw [show isWord (.str xk) = true from w1]
          refine ifF rfl ⟨_, rfl, vs[i].2, d, rfl, hdy2, small_of d hs2, _, rfl, ?_⟩
          by_cases w2 : isBox d = true
          · rw [w2]
            refine ifF rfl ⟨⟨_, _, rfl⟩, s2, ?_⟩
            rw [TS.take_one hki, List.all_append, hall]
            simp [w1, w2]
          · rw [Bool.eq_false_iff.mpr w2]
            refine ifT rfl ⟨sz_lit (by decide), fun q hq => ⟨rfl, fun d hd => up q hq d hd (bad ?_)⟩⟩
            rw [Bool.eq_false_iff.mpr w2, Bool.and_false]
        · rw [show isWord (.str xk) = false from Bool.eq_false_iff.mpr w1]
          refine ifT rfl (ifT rfl ⟨sz_lit (by decide), fun q hq => ⟨rfl, fun d hd => up q hq d hd (bad ?_)⟩⟩)
          rw [Bool.eq_false_iff.mpr w1, Bool.false_and]
      · rintro σ H1 ⟨⟨y1, y2, rfl⟩, s1, hall⟩
        rw [List.take_of_length_le (by omega)] at hall
        refine ⟨s1 _ _ upd_same, ?_⟩
        have good : okTab isBox 3 (.dict kvs) = some kvs := if_pos ⟨by omega, hall⟩
        have sA : Same H (upd H1 p (.dK vs)) := fun b o hb => by
          by_cases e : b = p
          · subst e
            rw [hp] at hb
            rw [upd_same]
            exact hb
          · rw [upd_ne e]
            refine s1 b o ?_
            rw [upd_ne e]
            exact hb
        have hpA : upd H1 p (.dK vs) p = some (.dK vs) := upd_same
        revert sA hpA
        generalize upd H1 p (.dK vs) = H2
        intro sA hpA
        refine ⟨_, rfl, tyV_dK hpA, p, vs, rfl, rfl, .inl hpA, fun q hq => ?_⟩
        have sB : Same H2 (upd H2 q (keysO q p)) := Same.new hq
        refine ⟨q, p, vs, kvs.map (·.1), rfl, upd_same, .inl (sB _ _ hpA), hkv.keys, by rw [List.length_map]; omega, fun ys l hperm hsort hl => ?_⟩
        have sC := sB.trans (Same.new (o := .lst (ys.map V.str)) hl)
        have hlC : upd (upd H2 q (keysO q p)) l (.lst (ys.map V.str)) l = some (.lst (ys.map V.str)) := upd_same
        revert sC hlC
        generalize upd (upd H2 q (keysO q p)) l (.lst (ys.map V.str)) = H3
        intro sC hlC
        refine ⟨l, rfl, ⟨_, .inl (.inl hlC)⟩, fun D hD => ?_⟩
        have hnd' : ys.Nodup := hperm.nodup_iff.mpr hnd
        have hyl : ys.length = kvs.length := by rw [hperm.length_eq, List.length_map]
        have hDS : Same H3 (upd H3 D (.dK [])) := Same.new hD
        refine dc_it (walk_list (xs := ys.map V.str)) (fun i H' => H' D = some (.dK ((ys.take i).map fun y => (Sum.inr y, (valV vs (.inr y)).getD .non))) ∧ Same H3 H') ⟨upd_same, hDS⟩ (fun i H' _ q => .inl (.inl (q.2 _ _ hlC))) ?_ ?_
        · rintro i x H5 H4 hi ⟨hD4, s4⟩ ⟨rfl, hx⟩
          have hi' : i < ys.length := by rw [List.length_map] at hi; exact hi
          have hyi : ys[i]? = some ys[i] := List.getElem?_eq_getElem hi'
          obtain rfl : x = .str ys[i] := by
            rw [List.getElem?_map, hyi] at hx
            exact (Option.some.inj hx).symm
          obtain ⟨v, hv1, hv2⟩ := hkv.val ys[i] (hperm.mem_iff.mp (List.mem_of_getElem? hyi))
          have hp4 : H4 p = some (.dK vs) := s4 _ _ (sC _ _ hpA)
          refine ⟨rfl, ?_⟩
          refine ⟨_, rfl, _, rfl, _, rfl, p, v, rfl, by rw [← hv1]; exact dget_known hp4, _, .inr ys[i], rfl, hD4, lt_sz (by rw [List.length_map, List.length_take]; omega), ?_, fun b o hb => ?_⟩
          · rw [upd_same, putK_new]
            · rw [TS.take_one hyi, List.map_append, List.map_cons, List.map_nil, hv1]
              rfl
            · have : ∀ l : List Str, ys[i] ∉ l → valV (l.map fun y => ((Sum.inr y : Key), (valV vs (.inr y)).getD .non)) (.inr ys[i]) = none := by
                intro l
                induction l with
                | nil => intro _; rfl
                | cons z r ih =>
                  intro hz
                  rw [List.mem_cons, not_or] at hz
                  rw [List.map_cons, valV_neg (fun e => hz.1 (Sum.inr.inj e).symm)]
                  exact ih hz.2
              exact this _ (nodup_take hnd' hyi)
          · have : b ≠ D := fun e => by rw [e, hD] at hb; cases hb
            rw [upd_ne this]
            exact s4 b o hb
        · rintro H4 ⟨hD4, s4⟩
          rw [List.length_map, List.take_length] at hD4
          have sall : Same H H4 := sA.trans (sC.trans s4)
          refine k1 kvs good D H4 _ (ys.map fun y => (y, lk kvs y)) sall ?_ hD4 ?_ ?_ ?_
          · exact (sA.trans sC).free hD
          · have := hperm.map (fun y => (y, lk kvs y))
            rw [lk_self hnd] at this
            exact this
          · rw [List.map_map]
            have : ((fun x : Str × PyData => x.1) ∘ fun y => (y, lk kvs y)) = id := by funext y; rfl
            rw [this, List.map_id]
            exact hsort
          · have : ∀ l : List Str, (∀ y ∈ l, y ∈ kvs.map (·.1)) → KvsR K H4 (l.map fun y => ((Sum.inr y : Key), (valV vs (.inr y)).getD .non)) (l.map fun y => (y, lk kvs y)) := by
              intro l
              induction l with
              | nil => intro _; exact trivial
              | cons z r ih =>
                intro hz
                obtain ⟨v, hv1, hv2⟩ := hkv.val z (hz z List.mem_cons_self)
                refine ⟨rfl, ?_, ih fun y hy => hz y (List.mem_cons_of_mem _ hy)⟩
                show Dp K H4 ((valV vs (.inr z)).getD .non) _
                rw [hv1]
                exact hv2.mono sall
            exact this ys fun y hy => hperm.mem_iff.mp hy
def spInputs (K : PySem.W.Frag) (CI : Addr) : Sp := fun vs H Q X => ∃ v d, vs = [v] ∧ Dp K H v d ∧ small d = true ∧ (areWords 3 d = true → Q v H) ∧ (areWords 3 d = false → ∀ H' dd, Same H H' → XProg K H' dd "inputs" [] → X (.ref CI) (some dd) H')
theorem sc_checked_inputs : FnScope ["value"] ["value"] (defScope s_checked_inputs) := ⟨rfl, rfl, rfl, by decide +kernel, rfl, by decide +kernel, by decide +kernel⟩
theorem ok_checked_inputs {f : Addr} {fd : FuncData} (F : Fun K "checked_inputs" "checked_inputs" s_checked_inputs f fd) (T : TxtC P w K mg pS CI) (c_are_words : Cal P w K mg base CX0 2 "are_words" ["value", "most"] (spAreWords K)) : FnOk P w K mg base (L2.CX P w) 3 f fd ["value"] (spInputs K CI) := by
  refine F.okX sc_checked_inputs (fun vs H Q E h => ?_) (fun cdv A outer s H vs Q E hr h => ?_)
  · obtain ⟨v, a, rfl, _⟩ := h
    rfl
  · obtain ⟨v, d, rfl, hd, hs, k1, k2⟩ := h
    refine ⟨_, (pss_cons (ps_if (pt_not (pt_val (pe_cal c_are_words (hr.mono (by omega)) rfl pass0 (pa_cons (pv 0) (pa_cons pe_int pa_nil))))) (pss_one (ps_raise rfl (takes_of rfl rfl rfl rfl) (pmk_x T.mk_InvalidProgram hr rfl T.g_InvalidProgram T.k_InvalidProgram T.r_InvalidProgram (pa_cons pe_str (pa_cons (pe_tup pa_nil) pa_nil))))) pss_nil)
      (pss_one (ps_ret (pv 0)))), ?_⟩
    refine ⟨_, rfl, v, d, 3, rfl, hd, hs, by decide, _, rfl, ?_⟩
    by_cases c : areWords 3 d = true
    · rw [c]
      exact ifF rfl ⟨_, rfl, k1 c⟩
    · have c := Bool.eq_false_iff.mpr c
      rw [c]
      refine ifT rfl ⟨sz_lit (by decide), fun p hp => ⟨rfl, fun dd hdd => ?_⟩⟩
      refine k2 c _ dd ((Same.new hp).trans (Same.new hdd)) ⟨p, upd_same, ?_⟩
      exact SqT.mono (.inl (.inl upd_same)) (Same.new hdd)
end
end Op
namespace Op
open PySem L2 PyProof.Rows
/-! ### rows that were checked: their form -/
def notList (d : PyData) : Bool := !isList d
mutual
/-- no list in it -/
def noL : PyData → Bool
  | .list _ => false
  | .tuple xs => noLs xs
  | _ => true
def noLs : List PyData → Bool
  | [] => true
  | x :: r => noL x && noLs r
end
theorem noLs_mem : ∀ {ds : List PyData}, noLs ds = true ↔ ∀ d ∈ ds, noL d = true
  | [] => by
    unfold noLs
    exact ⟨fun _ d h => (List.not_mem_nil h).elim, fun _ => rfl⟩
  | x :: r => by
    unfold noLs
    rw [Bool.and_eq_true_iff, noLs_mem (ds := r)]
    constructor
    · rintro ⟨h1, h2⟩ d hd
      rcases List.mem_cons.mp hd with rfl | hd
      · exact h1
      · exact h2 d hd
    · intro h
      exact ⟨h x List.mem_cons_self, fun d hd => h d (List.mem_cons_of_mem _ hd)⟩
theorem noL_word {d : PyData} (h : isWord d = true) : noL d = true := by
  cases d with
  | str _ => unfold noL; rfl
  | _ => cases h
theorem noL_words {m : Int} {d : PyData} (h : areWords m d = true) : noL d = true := by
  obtain ⟨zs, rfl, _⟩ := aw_tup h
  unfold noL
  refine noLs_mem.mpr fun d hd => ?_
  obtain ⟨z, _, rfl⟩ := List.mem_map.mp hd
  unfold noL
  rfl
def rowOk (rec : List PyData → Prop) : PyData → Prop
  | .tuple (.str kind :: parts) => parts.length ≤ 4 ∧ (kind = "both" → ∃ ds, parts = [.tuple ds] ∧ ds ≠ []) ∧ (kind ≠ "both" → parts = parts.filter notList ++ parts.filter isList ∧ ∀ d ∈ parts, isList d = false → noL d = true) ∧ (∀ d ∈ innerL kind parts, isList d = true ∧ rec (listOf d))
  | _ => False
def rowsOk : Nat → List PyData → Prop
  | 0, _ => False
  | n + 1, ds => ∀ d ∈ ds, rowOk (rowsOk n) d
/-- a text whose signs b stand at its end -/
def endB (l : List Nat) : Bool := decide (l = l.filter (fun c => !decide (c = 98)) ++ l.filter (fun c => decide (c = 98)))
theorem shapes_end : ∀ {kind sh : Str}, shapes.lookup kind = some sh → kind ≠ "both" → endB sh.cps.toList = true ∧ (116 ∉ sh.cps.toList) := by
  have key : ∀ (l : List (Str × Str)) (kind sh : Str), l.all (fun p => decide (p.1 = "both") || (endB p.2.cps.toList && decide (116 ∉ p.2.cps.toList))) = true → l.lookup kind = some sh → kind ≠ "both" → endB sh.cps.toList = true ∧ (116 ∉ sh.cps.toList) := by
    intro l
    induction l with
    | nil => intro kind sh _ h; cases h
    | cons p r ih =>
      intro kind sh ha h hk
      obtain ⟨a, b⟩ := p
      obtain ⟨h1, h2⟩ := Bool.and_eq_true_iff.mp ha
      rw [List.lookup_cons] at h
      cases q : kind == a with
      | true =>
        rw [q] at h
        obtain rfl := Option.some.inj h
        have e : kind = a := by simpa using q
        rcases Bool.or_eq_true_iff.mp h1 with h1 | h1
        · exact absurd (e.trans (of_decide_eq_true h1)) hk
        · obtain ⟨h3, h4⟩ := Bool.and_eq_true_iff.mp h1
          exact ⟨h3, of_decide_eq_true h4⟩
      | false =>
        rw [q] at h
        exact ih kind sh h2 h hk
  intro kind sh h hk
  exact key shapes kind sh (by decide +kernel) h hk
theorem pf_isList {E : Env0} {ch : Nat} {d : PyData} (h : partFits E ⟨#[ch]⟩ d = true) (n : ch ≠ 116) : isList d = decide (ch = 98) := by
  by_cases e : ch = 98
  · subst e
    rw [decide_eq_true rfl]
    exact h
  · rw [decide_eq_false e]
    have sb : ¬ (⟨#[ch]⟩ : Str) = "b" := fun z => e (by
      have z : (⟨#[ch]⟩ : Str) = ⟨#[98]⟩ := z
      simpa using z)
    have st : ¬ (⟨#[ch]⟩ : Str) = "t" := fun z => n (by
      have z : (⟨#[ch]⟩ : Str) = ⟨#[116]⟩ := z
      simpa using z)
    by_cases em : (⟨#[ch]⟩ : Str) = "m" ∨ (⟨#[ch]⟩ : Str) = "v"
    · unfold partFits at h
      rw [if_neg (by rcases em with e | e <;> (rw [e]; decide +kernel)), if_neg (by rcases em with e | e <;> (rw [e]; decide +kernel)), if_neg (by rcases em with e | e <;> (rw [e]; decide +kernel)), if_pos em] at h
      cases d with
      | tuple _ => rfl
      | _ => cases h
    · have := pf_word h ⟨em, sb, st⟩
      cases d with
      | str _ => rfl
      | _ => cases this
theorem pf_noL {E : Env0} {ch : Nat} {d : PyData} (h : partFits E ⟨#[ch]⟩ d = true) (n : ch ≠ 116) (hl : isList d = false) : noL d = true := by
  have n2 : ch ≠ 98 := fun e => by
    rw [pf_isList h n, decide_eq_true e] at hl
    cases hl
  have sb : ¬ (⟨#[ch]⟩ : Str) = "b" := fun z => n2 (by
    have z : (⟨#[ch]⟩ : Str) = ⟨#[98]⟩ := z
    simpa using z)
  have st : ¬ (⟨#[ch]⟩ : Str) = "t" := fun z => n (by
    have z : (⟨#[ch]⟩ : Str) = ⟨#[116]⟩ := z
    simpa using z)
  by_cases em : (⟨#[ch]⟩ : Str) = "m" ∨ (⟨#[ch]⟩ : Str) = "v"
  · unfold partFits at h
    rw [if_neg (by rcases em with e | e <;> (rw [e]; decide +kernel)), if_neg (by rcases em with e | e <;> (rw [e]; decide +kernel)), if_neg (by rcases em with e | e <;> (rw [e]; decide +kernel)), if_pos em] at h
    exact noL_words h
  · exact noL_word (pf_word h ⟨em, sb, st⟩)
theorem zip_end {α : Type} (f : Nat → Bool) (g : α → Bool) : ∀ (l : List Nat) (ps : List α), l.length = ps.length → (∀ (i c : Nat) (d : α), l[i]? = some c → ps[i]? = some d → g d = f c) → l = l.filter (fun c => !f c) ++ l.filter f → ps = ps.filter (fun d => !g d) ++ ps.filter g
  | [], [], _, _, _ => rfl
  | c :: l, d :: ps, hl, h, e => by
    have h0 := h 0 c d rfl rfl
    have hr : ∀ (i c' : Nat) (d' : α), l[i]? = some c' → ps[i]? = some d' → g d' = f c' := fun i c' d' h1 h2 => h (i + 1) c' d' h1 h2
    cases q : f c with
    | false =>
      have e' : l = l.filter (fun c => !f c) ++ l.filter f := by
        rw [List.filter_cons_of_pos (by rw [q]; rfl), List.filter_cons_of_neg (by rw [q]; exact Bool.false_ne_true), List.cons_append] at e
        exact (List.cons.inj e).2
      have ih := zip_end f g l ps (Nat.succ.inj hl) hr e'
      rw [List.filter_cons_of_pos (by rw [h0, q]; rfl), List.filter_cons_of_neg (by rw [h0, q]; exact Bool.false_ne_true), List.cons_append]
      exact congrArg (d :: ·) ih
    | true =>
      have all : ∀ c' ∈ l, f c' = true := by
        intro c' hc'
        cases q' : f c' with
        | true => rfl
        | false =>
          exfalso
          rw [List.filter_cons_of_neg (by rw [q]; exact Bool.false_ne_true), List.filter_cons_of_pos q] at e
          cases hn : l.filter (fun c => !f c) with
          | nil =>
            have := List.filter_eq_nil_iff.mp hn c' hc'
            rw [q'] at this
            exact this rfl
          | cons z r =>
            rw [hn, List.cons_append] at e
            have ez := (List.cons.inj e).1
            have hz : z ∈ l.filter (fun c => !f c) := by rw [hn]; exact List.mem_cons_self
            have := (List.mem_filter.mp hz).2
            rw [← ez, q] at this
            cases this
      have e' : l = l.filter (fun c => !f c) ++ l.filter f := by
        rw [List.filter_eq_self.mpr all, List.filter_eq_nil_iff.mpr fun c' hc' => by rw [all c' hc']; exact Bool.false_ne_true]
        rfl
      have ih := zip_end f g l ps (Nat.succ.inj hl) hr e'
      have gall : ∀ d' ∈ ps, g d' = true := by
        intro d' hd'
        obtain ⟨i, hi⟩ := List.getElem?_of_mem hd'
        have hi' := (List.getElem?_eq_some_iff.mp hi).1
        have hl' : l.length = ps.length := Nat.succ.inj hl
        have h1 : l[i]? = some (l[i]'(by omega)) := List.getElem?_eq_getElem _
        rw [hr i _ d' h1 hi]
        exact all _ (List.mem_of_getElem? h1)
      rw [List.filter_cons_of_neg (by rw [h0, q]; exact Bool.false_ne_true), List.filter_cons_of_pos (by rw [h0, q])]
      rw [List.filter_eq_self.mpr gall, List.filter_eq_nil_iff.mpr fun d' hd' => by rw [gall d' hd']; exact Bool.false_ne_true]
      rfl
theorem rowOk_of {rec : Bool → List PyData → List Int → Chk → Out} {R : List PyData → Prop} {E : Env0} {depth : Int} (hrec : depth < 5 → ∀ lp ds pre c c', rec lp ds pre c = .ok c' → R ds) {lp : Bool} {pre : List Int} {d : PyData} {i : Nat} {c c' : Chk} (h : chkRow rec E depth lp pre d i c = .ok c') : rowOk R d := by
  unfold chkRow at h
  split at h
  · rename_i kind parts
    split at h
    · rename_i hf
      obtain ⟨hs, ⟨hl, hF⟩, _⟩ := fits_shape hf
      have hsl := shapes_len hs
      refine ⟨by rw [← hl]; exact hsl, fun e => ?_, fun e => ?_, fun d hd => ⟨inner_lists_all hf d hd, ?_⟩⟩
      · subst e
        have hl1 : parts.length = 1 := hl.symm.trans (by decide +kernel)
        match parts, hl1, hF with
        | [d], _, hF =>
          have hf : isBranches d = true := hF 0 116 d (by decide +kernel) rfl
          cases d with
          | tuple ds =>
            refine ⟨ds, rfl, fun z => ?_⟩
            subst z
            cases hf
          | _ => cases hf
      · obtain ⟨h1, h2⟩ := shapes_end hs e
        refine And.intro (b := ∀ d ∈ parts, isList d = false → noL d = true) ?_ fun d hd hl' => ?_
        rotate_left
        · obtain ⟨i, hi⟩ := List.getElem?_of_mem hd
          have hi' := (List.getElem?_eq_some_iff.mp hi).1
          have h3 : (shapeOf kind).cps[i]? = some ((shapeOf kind).cps[i]'(by omega)) := Array.getElem?_eq_getElem _
          refine pf_noL (hF i _ d h3 hi) (fun z => h2 ?_) hl'
          rw [← z]
          exact List.mem_of_getElem? (i := i) (by rw [Array.getElem?_toList]; exact h3)
        refine zip_end (fun c => decide (c = 98)) isList (shapeOf kind).cps.toList parts (by rw [Array.length_toList]; exact hl) (fun i ch d h3 h4 => ?_) (of_decide_eq_true h1)
        refine pf_isList (hF i ch d (by rw [← Array.getElem?_toList]; exact h3) h4) fun z => h2 ?_
        rw [← z]
        exact List.mem_of_getElem? h3
      · have hdep : depth < 5 := Decidable.byContradiction fun z => by
          rw [inner_deep hf (by omega)] at hd
          cases hd
        have key : ∀ (l : List PyData) (j : Nat) (c : Chk), chkIn (rec (inside lp kind)) (pre ++ [(i : Int)]) l j c = .ok c' → ∀ d ∈ l, R (listOf d) := by
          intro l
          induction l with
          | nil => intro j c _ d hd; cases hd
          | cons x r ih =>
            intro j c h d hd
            rw [chkIn_cons] at h
            cases q : rec (inside lp kind) (listOf x) (pre ++ [(i : Int)] ++ [(j : Int)]) c with
            | error p => rw [q] at h; cases h
            | ok c1 =>
              rw [q] at h
              rcases List.mem_cons.mp hd with rfl | hd
              · exact hrec hdep _ _ _ _ _ q
              · exact ih _ _ h d hd
        exact key _ _ _ h d hd
    · cases h
  · cases h
theorem rowsOk_of (E : Env0) : ∀ (n : Nat) (lp : Bool) (ds : List PyData) (pre : List Int) (c c' : Chk), chkL E n lp ds pre c = .ok c' → 1 ≤ n → rowsOk n ds
  | 0, _, _, _, _, _, _, h => absurd h (by omega)
  | n + 1, lp, ds, pre, c, c', h, _ => by
    have key : ∀ (l : List PyData) (j : Nat) (c : Chk), chkRows (chkRow (chkL E n) E (5 - (n : Int)) lp pre) l j c = .ok c' → ∀ d ∈ l, rowOk (rowsOk n) d := by
      intro l
      induction l with
      | nil => intro j c _ d hd; cases hd
      | cons x r ih =>
        intro j c h d hd
        rw [chkRows_cons] at h
        cases q : chkRow (chkL E n) E (5 - (n : Int)) lp pre x j c with
        | error p => rw [q] at h; cases h
        | ok c1 =>
          rw [q] at h
          rcases List.mem_cons.mp hd with rfl | hd
          · exact rowOk_of (fun hdep lp ds pre c c' h => rowsOk_of E n lp ds pre c c' h (by omega)) q
          · exact ih _ _ h d hd
    exact key ds 0 c h
end Op
namespace L2
open PySem PySem.Spec PyProof.Rows
/-! ### a heap without some of its lists -/
def LstAt (H : Hp) (b : Addr) : Prop := ∃ xs, H b = some (.lst xs)
open Classical in
noncomputable def cutH (S : Addr → Prop) (H : Hp) : Hp := fun b => if S b then none else H b
section
variable {S S' : Addr → Prop} {H H' : Hp} {K : PySem.W.Frag}
theorem cut_not {b : Addr} (h : ¬ S b) : cutH S H b = H b := if_neg h
theorem cut_same (s : Same H H') : Same (cutH S H) (cutH S H') := fun b o h => by
  unfold cutH at h ⊢
  split at h
  · cases h
  · rename_i n
    rw [if_neg n]
    exact s b o h
theorem cut_sub (s : ∀ b, S b → S' b) : Same (cutH S' H) (cutH S H) := fun b o h => by
  unfold cutH at h ⊢
  split at h
  · cases h
  · rename_i n
    rw [if_neg fun z => n (s b z)]
    exact h
theorem cut_all : Same (cutH S H) H := fun b o h => by
  unfold cutH at h
  split at h
  · cases h
  · exact h
theorem cut_upd {D : Addr} {o : HO} (h : S D) : cutH S (upd H D o) = cutH S H := by
  funext b
  unfold cutH
  by_cases e : S b
  · rw [if_pos e, if_pos e]
  · rw [if_neg e, if_neg e, upd_ne (fun q => e (by rw [q]; exact h))]
theorem LstAt.mono {b : Addr} (h : LstAt H b) (s : Same H H') : LstAt H' b := let ⟨xs, e⟩ := h; ⟨xs, s _ _ e⟩
theorem SqT.cut {a : Addr} {xs : List V} (hs : ∀ b, S b → LstAt H b) (h : SqT K H a xs) : SqT K (cutH S H) a xs := by
  have n : ∀ o, H a = some o → (∀ ys, o ≠ .lst ys) → ¬ S a := fun o e ne z => by
    obtain ⟨ys, q⟩ := hs a z
    rw [e] at q
    exact ne ys (Option.some.inj q)
  rcases h with (h | ⟨o, h⟩) | h
  · exact .inl (.inl (by rw [cut_not (n _ h nofun)]; exact h))
  · exact .inl (.inr ⟨o, by rw [cut_not (n _ h nofun)]; exact h⟩)
  · exact .inr h
mutual
theorem noL_cut (hs : ∀ b, S b → LstAt H b) : ∀ {v : V} {d : PyData}, Dp K H v d → Op.noL d = true → Dp K (cutH S H) v d
  | _, _, .non, _ => .non
  | _, _, .bl b, _ => .bl b
  | _, _, .int i, _ => .int i
  | _, _, .str x, _ => .str x
  | _, _, .lst h a, n => by unfold Op.noL at n; cases n
  | _, _, .tup h a, n => .tup (h.cut hs) (noLs_cut hs a (by unfold Op.noL at n; exact n))
theorem noLs_cut (hs : ∀ b, S b → LstAt H b) : ∀ {vs : List V} {ds : List PyData}, DpAll K H vs ds → Op.noLs ds = true → DpAll K (cutH S H) vs ds
  | _, _, .nil, _ => .nil
  | _, _, .cons h a, n => .cons (noL_cut hs h (by unfold Op.noLs at n; exact (Bool.and_eq_true_iff.mp n).1)) (noLs_cut hs a (by unfold Op.noLs at n; exact (Bool.and_eq_true_iff.mp n).2))
end
end
end L2
namespace Op
open PySem L2 PyProof.Rows
section
variable {P : Program} {w : World} {K : PySem.W.Frag} {mg : Str → Option Value} {base : Heap}
def spWith (K : PySem.W.Frag) : Sp := fun vs H Q _ => ∃ (S : Addr → Prop) (t l : Addr) (ws : List V) (kind : Str) (parts : List PyData), vs = [.ref t, .ref l] ∧ Dp K H (.ref t) (.tuple (.str kind :: parts)) ∧ H l = some (.lst ws) ∧ (∀ b, S b → LstAt H b) ∧ DpAll K (cutH S H) ws (innerL kind parts) ∧ parts.length ≤ 4 ∧ (innerL kind parts).length ≤ 40000 ∧
  (kind = "both" → ∃ ds, parts = [.tuple ds] ∧ ds ≠ []) ∧ (kind ≠ "both" → parts = parts.filter notList ++ parts.filter isList ∧ ∀ d ∈ parts, isList d = false → noL d = true) ∧ ∀ v H', Same H H' → Dp K (cutH S H') v (.tuple (.str kind :: parts)) → Q v H'
theorem sc_with_lists : FnScope ["row", "lists", "parts", "part"] ["row", "lists"] (defScope s_with_lists) := ⟨rfl, rfl, rfl, by decide +kernel, rfl, by decide +kernel, by decide +kernel⟩
theorem ok_with_lists {f : Addr} {fd : FuncData} (F : Fun K "with_lists" "with_lists" s_with_lists f fd) (T : Txt mg) : FnOk P w K mg base CX0 1 f fd ["row", "lists"] (spWith K) := by
  refine F.ok sc_with_lists (fun vs H Q E h => ?_) (fun cdv A outer s H vs Q E hr h => ?_)
  · obtain ⟨S, t, l, ws, kind, parts, rfl, _⟩ := h
    rfl
  · obtain ⟨S, t, l, ws, kind, parts, rfl, hd, hl, hS, hw, hpl, hil, hb, hnb, k⟩ := h
    cases hd with
    | @tup _ xs _ hq ha =>
    cases ha with
    | @cons v0 vr d0 dr h0 hr0 =>
    cases h0 with
    | str kind =>
    have hvl := hr0.len
    have hwl := hw.len
    have nS : ∀ b, H b = none → ¬ S b := fun b hb z => by
      obtain ⟨ys, q⟩ := hS b z
      rw [hb] at q
      cases q
    refine ⟨_, (pss_cons (ps_if (pt_cmpR op_eq (pe_ix ix_tup (pv 0) pe_int (fun _ _ => rfl)) pe_str (nomark _)) (pss_one (ps_ret (pe_tup (pa_cons pe_str (pa_cons (pe_callTy call_tuple_of (by rfl) T.b_tuple (by decide +kernel) (pa_cons (pv 1) pa_nil)) pa_nil))))) pss_nil)
      (pss_cons (ps_setLc (i := 2) (own := [("part", 3)]) (g := gName 3)  rfl sc_with_lists.nd rfl rfl (sw_true rfl rfl rfl (by decide +kernel)) (pi_tup (pv 0)) (blkOk_by (own := [("part", 3)]) (N := ["row", "lists", "parts", "part"]) (sc := defScope s_with_lists) (by decide +kernel)) (fun _ _ _ _ _ => (pg_name (i := 3) sc_with_lists.nd rfl (.inl rfl))) (fun _ _ _ _ _ => (pts_one (pt_not (pt_val (pe_callB (id := "isinstance") (r := rIsi K) call_isi (by rfl) T.b_isinstance (by decide +kernel) (pa_cons (pv 3) (pa_cons (pe_bltn (v := .ty "list") (by rfl) T.b_list (by decide +kernel) rfl) pa_nil))))))) (fun _ _ _ _ _ => (pv 3)))
      (pss_one (ps_ret (pe_callTy call_tuple_of (by rfl) T.b_tuple (by decide +kernel) (pa_cons (pe_op op_cat (pv 2) (pv 1)) pa_nil)))))), ?_⟩
    refine ⟨_, rfl, t, _, 0, _, rfl, rfl, hq, atI_zero _ _, rfl, _, rfl, ?_⟩
    rw [dec_strV]
    by_cases e1 : kind = "both"
    · obtain ⟨ds, rfl, _⟩ := hb e1
      refine ifT (decide_eq_true e1) ?_
      have hin : innerL kind [.tuple ds] = ds := by unfold innerL; rw [if_pos e1]
      rw [hin] at hw
      refine ⟨_, rfl, l, ws, rfl, .inl ⟨.inl (.inl hl), fun p hp => ⟨sz2 _ _, fun q hq' => ?_⟩⟩⟩
      have s1 : Same H (upd H p (.tup ws)) := Same.new hp
      have s2 : Same (upd H p (.tup ws)) (upd (upd H p (.tup ws)) q (.tup [.str "both", .ref p])) := Same.new hq'
      have nq : ¬ S q := nS q (s1.free hq')
      refine k (.ref q) _ (s1.trans s2) (.tup (.inl (.inl (by rw [cut_not nq]; exact upd_same))) ?_)
      rw [e1]
      exact .cons (.str _) (.cons (.tup (.inl (.inl (by rw [cut_not (nS p hp)]; exact s2 _ _ upd_same))) (DpAll.mono (cut_same (s1.trans s2)) hw)) .nil)
    · refine ifF (decide_eq_false e1) ⟨_, rfl, t, rfl, ⟨_, hq⟩, fun D hD => ?_⟩
      have hDl : D ≠ l := fun e => by rw [e, hl] at hD; cases hD
      have hin : innerL kind parts = parts.filter isList := by unfold innerL; rw [if_neg e1]
      refine lc_it (walk_tup (xs := .str kind :: vr)) (fun i H' => ∃ acc, H' D = some (.lst acc) ∧ acc.length ≤ i ∧ DpAll K H acc (((.str kind :: parts).take i).filter notList) ∧ Same H H') ⟨[], upd_same, Nat.le_refl _, .nil, Same.new hD⟩ (fun i H' _ p => hq.mono (let ⟨_, _, _, _, s⟩ := p; s)) ?_ ?_
      · rintro i x H1 H2 hi ⟨acc, hacc, hal, hdp, sm⟩ ⟨rfl, hx⟩
        obtain ⟨d, hd1, hd2⟩ := DpAll.get (.cons (.str kind) hr0) hx
        refine ⟨rfl, _, rfl, x, _, _, _, _, rfl, .ty _, ty_dp (hd2.mono sm), kit_list d, _, rfl, ?_⟩
        have hi' : i < 2000 := by rw [List.length_cons] at hi; omega
        have e2 : ((.str kind :: parts).take (i + 1)).filter notList = ((.str kind :: parts).take i).filter notList ++ [d].filter notList := by
          rw [TS.take_one hd1, List.filter_append]
        by_cases q : isList d = true
        · rw [q]
          have q' : ¬ notList d = true := by unfold notList; rw [q]; exact Bool.false_ne_true
          refine ifF rfl ⟨acc, hacc, by omega, ?_, sm⟩
          rw [e2, List.filter_cons_of_neg q', List.filter_nil, List.append_nil]
          exact hdp
        · rw [Bool.eq_false_iff.mpr q]
          have q' : notList d = true := by unfold notList; rw [Bool.eq_false_iff.mpr q]; rfl
          refine ifT rfl ⟨_, rfl, acc, hacc, lt_sz (by omega), acc ++ [x], upd_same, by rw [List.length_append]; show acc.length + 1 ≤ _; omega, ?_, fun b o hb => ?_⟩
          · rw [e2, List.filter_cons_of_pos q', List.filter_nil]
            exact hdp.append (.cons hd2 .nil)
          · rw [upd_ne (ne_of_none hb hD)]
            exact sm b o hb
      · rintro H1 ⟨acc, hacc, hal, hdp, sm⟩
        rw [List.take_of_length_le (by rw [List.length_cons, List.length_cons]; omega)] at hdp
        rw [List.length_cons] at hal
        refine ⟨_, rfl, _, rfl, D, l, acc, ws, rfl, rfl, hacc, sm _ _ hl, sz_lit (by omega), fun p hp => ?_⟩
        refine ⟨p, _, rfl, .inl ⟨.inl (.inl upd_same), fun q hq' => ?_⟩⟩
        have s1 : Same H1 (upd H1 p (.lst (acc ++ ws))) := Same.new hp
        have s2 : Same (upd H1 p (.lst (acc ++ ws))) (upd (upd H1 p (.lst (acc ++ ws))) q (.tup (acc ++ ws))) := Same.new hq'
        have nq : ¬ S q := nS q ((sm.trans s1).free hq')
        refine k (.ref q) _ (sm.trans (s1.trans s2)) (.tup (.inl (.inl (by rw [cut_not nq]; exact upd_same))) ?_)
        have hcat : DpAll K (cutH S H) (acc ++ ws) (.str kind :: parts) := by
          have h1 : DpAll K (cutH S H) acc ((.str kind :: parts).filter notList) := noLs_cut hS hdp (noLs_mem.mpr fun d hd => by
            obtain ⟨m1, m2⟩ := List.mem_filter.mp hd
            rcases List.mem_cons.mp m1 with rfl | m1
            · unfold noL; rfl
            · exact (hnb e1).2 d m1 (by unfold notList at m2; cases q : isList d with | false => rfl | true => rw [q] at m2; cases m2))
          have := h1.append hw
          rw [hin, List.filter_cons_of_pos (by rfl : notList (.str kind) = true), List.cons_append, ← (hnb e1).1] at this
          exact this
        exact DpAll.mono (cut_same (sm.trans (s1.trans s2))) hcat
/-! ### copies -/
theorem wIn_mem {d : PyData} : ∀ {l : List PyData}, d ∈ l → wts (listOf d) ≤ wIn l
  | x :: r, h => by
    show _ ≤ wts (listOf x) + wIn r
    rcases List.mem_cons.mp h with rfl | h
    · omega
    · have := wIn_mem h
      omega
theorem inner_len (kind : Str) (parts : List PyData) : (innerL kind parts).length ≤ wts parts := by
  unfold innerL
  split
  · cases parts with
    | nil => exact Nat.zero_le _
    | cons d r =>
      rw [wts_cons]
      cases d with
      | tuple ds =>
        have := wts_len ds
        rw [wt_tuple]
        show ds.length ≤ _
        omega
      | _ => exact Nat.zero_le _
  · have h1 := List.length_filter_le isList parts
    have h2 := wts_len parts
    omega
def spCRow (K : PySem.W.Frag) (n : Nat) : Sp := fun vs H Q _ => ∃ (v : V) (d : PyData), vs = [v] ∧ Dp K H v d ∧ rowOk (rowsOk n) d ∧ wt d ≤ 30000 ∧ ∀ v' H', Same H H' → Dp K (cutH (LstAt H) H') v' d → Q v' H'
def spCRows (K : PySem.W.Frag) (n : Nat) : Sp := fun vs H Q _ => ∃ (v : V) (ds : List PyData), vs = [v] ∧ Dp K H v (.list ds) ∧ rowsOk n ds ∧ wts ds ≤ 30000 ∧ ∀ p xs H', Same H H' → H p = none → H' p = some (.lst xs) → DpAll K (cutH (fun b => LstAt H b ∨ b = p) H') xs ds → Q (.ref p) H'
theorem sc_copy_rows : FnScope ["rows", "row"] ["rows"] (defScope s_copy_rows) := ⟨rfl, rfl, rfl, by decide +kernel, rfl, by decide +kernel, by decide +kernel⟩
theorem ok_copy_rows {f : Addr} {fd : FuncData} {k : Nat} {n : Nat} (F : Fun K "copy_rows" "copy_rows" s_copy_rows f fd) (T : Txt mg) (c_copy_row : Cal P w K mg base CX0 (k + 1) "copy_row" ["row"] (spCRow K n)) : FnOk P w K mg base CX0 (k + 2) f fd ["rows"] (spCRows K (n + 1)) := by
  refine F.ok sc_copy_rows (fun vs H Q E h => ?_) (fun cdv A outer s H vs Q E hr h => ?_)
  · obtain ⟨v, ds, rfl, _⟩ := h
    rfl
  · obtain ⟨v, ds, rfl, hd, hok, hwt, kk⟩ := h
    cases hd with
    | @lst r xs _ hq ha =>
    have hxl := ha.len
    have hwl := wts_len ds
    refine ⟨_, (pss_one (ps_ret (pe_lc (own := [("row", 1)]) (g := gName 1) (tt := tYes) rfl sc_copy_rows.nd (pi_list (pv 0)) (blkOk_by (own := [("row", 1)]) (N := ["rows", "row"]) (sc := defScope s_copy_rows) (by decide +kernel)) (fun _ _ _ _ _ => (pg_name (i := 1) sc_copy_rows.nd rfl (.inl rfl))) (fun _ _ _ _ _ => pts_nil) (fun _ _ _ _ _ => (pe_cal c_copy_row (hr.mono (by omega)) rfl pass0 (pa_cons (pv 1) pa_nil)))))), ?_⟩
    refine ⟨_, rfl, r, rfl, ⟨_, hq⟩, fun D hD => ?_⟩
    refine lc_it (walk_list (xs := xs)) (fun i H' => ∃ acc, H' D = some (.lst acc) ∧ acc.length ≤ i ∧ DpAll K (cutH (fun b => LstAt H b ∨ b = D) H') acc (ds.take i) ∧ Same H H') ⟨[], upd_same, Nat.le_refl _, .nil, Same.new hD⟩ (fun i H' _ p => hq.mono (let ⟨_, _, _, _, s⟩ := p; s)) ?_ ?_
    · rintro i x H0' H1 hi ⟨acc, hacc, hal, hdp, sm⟩ ⟨rfl, hx⟩
      obtain ⟨d, hd1, hd2⟩ := ha.get hx
      have hm := List.mem_of_getElem? hd1
      have hwd := wts_mem hm
      refine ⟨rfl, ?_⟩
      refine ⟨_, rfl, x, d, rfl, hd2.mono sm, hok d hm, by omega, fun v' H2 s2 hv' => ?_⟩
      have sub : ∀ b, LstAt H b ∨ b = D → LstAt H1 b := fun b hb => by
        rcases hb with hb | rfl
        · exact hb.mono sm
        · exact ⟨acc, hacc⟩
      refine ⟨acc, s2 _ _ hacc, lt_sz (by omega), acc ++ [v'], upd_same, by rw [List.length_append]; show acc.length + 1 ≤ _; omega, ?_, fun b o hb => ?_⟩
      · rw [cut_upd (.inr rfl), TS.take_one hd1]
        exact (DpAll.mono (cut_same s2) hdp).append (.cons (hv'.mono (cut_sub sub)) .nil)
      · rw [upd_ne (ne_of_none hb hD)]
        exact s2 b o (sm b o hb)
    · rintro H1 ⟨acc, hacc, _, hdp, sm⟩
      rw [List.take_of_length_le (by omega)] at hdp
      exact kk D acc H1 sm hD hacc hdp
theorem sc_copy_row : FnScope ["row", "lists", "rows"] ["row"] (defScope s_copy_row) := ⟨rfl, rfl, rfl, by decide +kernel, rfl, by decide +kernel, by decide +kernel⟩
theorem ok_copy_row {f : Addr} {fd : FuncData} {k : Nat} {n : Nat} (F : Fun K "copy_row" "copy_row" s_copy_row f fd) (T : Txt mg) (c_inner_lists : Cal P w K mg base CX0 1 "inner_lists" ["row"] (spInner K)) (c_with_lists : Cal P w K mg base CX0 1 "with_lists" ["row", "lists"] (spWith K)) (c_copy_rows : Cal P w K mg base CX0 (k + 1) "copy_rows" ["rows"] (spCRows K n)) : FnOk P w K mg base CX0 (k + 2) f fd ["row"] (spCRow K n) := by
  refine F.ok sc_copy_row (fun vs H Q E h => ?_) (fun cdv A outer s H vs Q E hr h => ?_)
  · obtain ⟨v, d, rfl, _⟩ := h
    rfl
  · obtain ⟨v, d, rfl, hd, hok, hwt, kk⟩ := h
    obtain ⟨kind, parts, rfl⟩ : ∃ kind parts, d = .tuple (.str kind :: parts) := by
      unfold rowOk at hok
      split at hok
      · exact ⟨_, _, rfl⟩
      · exact hok.elim
    obtain ⟨hpl, hb, hnb, hin⟩ := hok
    have hwi := wIn_inner kind parts
    rw [wt_tuple, wts_cons] at hwt
    obtain ⟨t, rfl⟩ : ∃ t, v = .ref t := by cases hd with | tup _ _ => exact ⟨_, rfl⟩
    refine ⟨_, (pss_cons (ps_set (i := 1) sc_copy_row.nd rfl (.inl rfl) (pe_cal c_inner_lists (hr.mono (by omega)) rfl pass0 (pa_cons (pv 0) pa_nil)))
      (pss_cons (ps_if (pt_cmpR op_eq (pe_callB call_len_seq (by rfl) T.b_len (by decide +kernel) (pa_cons (pv 1) pa_nil)) pe_int (nomark _)) (pss_one (ps_ret (pv 0))) pss_nil)
      (pss_one (ps_ret (pe_cal c_with_lists (hr.mono (by omega)) rfl pass0 (pa_cons (pv 0) (pa_cons (pe_lc (own := [("rows", 2)]) (g := gName 2) (tt := tYes) rfl sc_copy_row.nd (pi_list (pv 1)) (blkOk_by (own := [("rows", 2)]) (N := ["row", "lists", "rows"]) (sc := defScope s_copy_row) (by decide +kernel)) (fun _ _ _ _ _ => (pg_name (i := 2) sc_copy_row.nd rfl (.inl rfl))) (fun _ _ _ _ _ => pts_nil) (fun _ _ _ _ _ => (pe_cal c_copy_rows (hr.mono (by omega)) rfl pass0 (pa_cons (pv 2) pa_nil)))) pa_nil))))))), ?_⟩
    refine ⟨_, rfl, t, kind, parts, rfl, hd, by omega, fun e => ?_, fun p xs H1 s1 hp hp1 hdp => ?_⟩
    · obtain ⟨ds, e', _⟩ := hb e
      exact ⟨ds, [], e'⟩
    have hxl := hdp.len
    refine ⟨_, rfl, p, xs, rfl, .inl (.inl (.inl hp1)), rfl, _, rfl, ?_⟩
    by_cases e0 : xs.length = 0
    · rw [e0]
      refine ifT rfl ⟨_, rfl, ?_⟩
      have hi0 : innerL kind parts = [] := List.length_eq_zero_iff.mp (by omega)
      have nL : noL (.tuple (.str kind :: parts)) = true := by
        unfold noL
        refine noLs_mem.mpr fun d hd' => ?_
        rcases List.mem_cons.mp hd' with rfl | hd'
        · unfold noL; rfl
        · by_cases e : kind = "both"
          · obtain ⟨ds, rfl, hne⟩ := hb e
            unfold innerL at hi0
            rw [if_pos e] at hi0
            exact absurd hi0 hne
          · refine (hnb e).2 d hd' ?_
            unfold innerL at hi0
            rw [if_neg e] at hi0
            exact Bool.eq_false_iff.mpr (List.filter_eq_nil_iff.mp hi0 d hd')
      exact kk (.ref t) H1 s1 ((noL_cut (S := LstAt H) (fun b h => h) hd nL).mono (cut_same s1))
    · refine ifF (decide_eq_false (by intro z; injection z with z; omega)) ?_
      have hil := inner_len kind parts
      refine ⟨_, rfl, _, rfl, p, rfl, ⟨_, .inl (.inl hp1)⟩, fun D hD => ?_⟩
      refine lc_it (walk_list (xs := xs)) (fun i H' => ∃ acc, H' D = some (.lst acc) ∧ acc.length ≤ i ∧ DpAll K (cutH (fun b => LstAt H b ∨ b = D) H') acc ((innerL kind parts).take i) ∧ Same H1 H') ⟨[], upd_same, Nat.le_refl _, .nil, Same.new hD⟩ (fun i H' _ q => .inl (.inl ((let ⟨_, _, _, _, s⟩ := q; s) _ _ hp1))) ?_ ?_
      · rintro i x H0' H2 hi ⟨acc, hacc, hal, hdpa, sm⟩ ⟨rfl, hx⟩
        obtain ⟨d, hd1, hd2⟩ := hdp.get hx
        have hm := List.mem_of_getElem? hd1
        obtain ⟨hisl, hrok⟩ := hin d hm
        obtain ⟨dl, rfl⟩ : ∃ dl, d = .list dl := by
          cases d with
          | list dl => exact ⟨dl, rfl⟩
          | _ => cases hisl
        have hwl : wts dl ≤ wIn (innerL kind parts) := wIn_mem hm
        refine ⟨rfl, ?_⟩
        refine ⟨_, rfl, x, dl, rfl, hd2.mono (s1.trans sm), hrok, by omega, fun p2 xs2 H3 s3 hp2 hx2 hdp2 => ?_⟩
        have sub : ∀ b, LstAt H b ∨ b = D → LstAt H2 b ∨ b = p2 := fun b hb => by
          rcases hb with hb | rfl
          · exact .inl (hb.mono (s1.trans sm))
          · exact .inl ⟨acc, hacc⟩
        have np2 : ¬ (LstAt H p2 ∨ p2 = D) := fun z => by
          rcases z with z | rfl
          · obtain ⟨ys, q⟩ := z.mono (s1.trans sm)
            rw [hp2] at q
            cases q
          · rw [hacc] at hp2
            cases hp2
        refine ⟨acc, s3 _ _ hacc, lt_sz (by omega), acc ++ [.ref p2], upd_same, by rw [List.length_append]; show acc.length + 1 ≤ _; omega, ?_, fun b o hb => ?_⟩
        · rw [cut_upd (.inr rfl), TS.take_one hd1]
          refine (DpAll.mono (cut_same s3) hdpa).append (.cons (.lst (.inl (.inl (by rw [cut_not np2]; exact hx2))) (DpAll.mono (cut_sub sub) hdp2)) .nil)
        · rw [upd_ne (ne_of_none hb hD)]
          exact s3 b o (sm b o hb)
      · rintro H2 ⟨acc, hacc, _, hdpa, sm⟩
        rw [List.take_of_length_le (by omega)] at hdpa
        exact ⟨LstAt H, t, D, acc, kind, parts, rfl, hd.mono (s1.trans sm), hacc, fun b hb => hb.mono (s1.trans sm), DpAll.mono (cut_sub fun b hb => .inl hb) hdpa, hpl, by omega, hb, hnb, fun v' H' s' hv' => kk v' H' ((s1.trans sm).trans s') hv'⟩
/-- copy_rows and copy_row, by depth -/
theorem ok_copies {f1 f2 : Addr} {fd1 fd2 : FuncData} (F1 : Fun K "copy_rows" "copy_rows" s_copy_rows f1 fd1) (F2 : Fun K "copy_row" "copy_row" s_copy_row f2 fd2) (T : Txt mg) (g1 : mg "copy_rows" = some (.ref f1)) (g2 : mg "copy_row" = some (.ref f2)) (k1 : PySem.W.keepIn K (.ref f1) = true) (k2 : PySem.W.keepIn K (.ref f2) = true)
    (b1 : Binds K fd1 ["rows"] []) (b2 : Binds K fd2 ["row"] []) (c_inner_lists : Cal P w K mg base CX0 1 "inner_lists" ["row"] (spInner K)) (c_with_lists : Cal P w K mg base CX0 1 "with_lists" ["row", "lists"] (spWith K)) : ∀ n : Nat, Cal P w K mg base CX0 (2 * n + 1) "copy_rows" ["rows"] (spCRows K n)
  | 0 => ⟨f1, fd1, g1, k1, b1, F1.ok sc_copy_rows (fun vs H Q E h => by obtain ⟨v, ds, rfl, _⟩ := h; rfl) (fun cdv A outer s H vs Q E hr h => by obtain ⟨v, ds, _, _, hk, _⟩ := h; exact hk.elim)⟩
  | n + 1 => ⟨f1, fd1, g1, k1, b1, ok_copy_rows (k := 2 * n + 1) F1 T ⟨f2, fd2, g2, k2, b2, ok_copy_row (k := 2 * n) F2 T c_inner_lists c_with_lists (ok_copies F1 F2 T g1 g2 k1 k2 b1 b2 c_inner_lists c_with_lists n)⟩⟩
end
end Op
namespace L2
open PySem PySem.Spec PyProof.Rows
/-! ### a class by its name, with the promise of its __init__ -/
def Kcal (P : Program) (w : World) (K : PySem.W.Frag) (mg : Str → Option Value) (base : Heap) (CX : CXT) (k : Nat) (x : Str) (C : Addr) (ps : List Str) (sp : Sp) : Prop :=
  ∃ (f : Addr) (fd : FuncData), Mk K C f ∧ mg x = some (.ref C) ∧ Binds K fd ps [] ∧ FnOk P w K mg base CX k f fd ps sp
theorem pe_kcal {X : Cx} {CX : CXT} {k : Nat} {x : Str} {C : Addr} {ps : List Str} {sp : Sp} {E : XK} {p pos : Pos} {e : Expr} {es : List Expr} {t : TA} (c : Kcal X.prog X.w X.K X.mg X.base CX k x C ps sp) (hr : Room (k + 1) X.A) (hg : Gl X x) (hx : Passes CX X E) (ha : PA X (e :: es) t)
    (hdb : (x == ("__debug__" : Str)) = false := by decide) (he : starEach (e :: es) X.env = (false, eval e X.env) :: starEach es X.env := by rfl) (hpl : (backTo pos (starEach es X.env)).any (·.1) = false := by rfl) :
    PE X (.Call (.Name x p) (e :: es) [] pos) (tMake C sp [] E t) := by
  obtain ⟨f, fd, h1, h2, h3, h4⟩ := c
  exact pe_make h1 h4 hr hg h2 h3 .nil hx ha hdb he hpl
end L2
namespace Op
open PySem L2 PyProof.Rows
/-! ### the mirror: a program's parts -/
def progCheck (we : Bool) (asks sigs : ArgD) (ins rows : PyData) : Except (Str × List Int) Chk :=
  match okTab (areWords 4) 6 asks with
  | none => .error ("asks", [])
  | some ka => match okTab isBox 3 sigs with
    | none => .error ("signals", [])
    | some ks => if areWords 3 ins = true then checkAll ⟨ka.map (·.1), ks.map (·.1), we⟩ rows else .error ("inputs", [])
section
variable {K : PySem.W.Frag} {H H' : Hp}
theorem KvsR.has (x : Str) : ∀ {vs : List (Key × V)} {kvs : List (Str × PyData)}, KvsR K H vs kvs → (valV vs (.inr x)).isSome = decide (x ∈ kvs.map (·.1))
  | [], [], _ => rfl
  | (k, v) :: r, (y, d) :: t, ⟨h1, h2, h3⟩ => by
    rw [h1, List.map_cons]
    by_cases e : y = x
    · rw [valV_pos (by rw [e])]
      simp [e]
    · rw [valV_neg (fun q => e (Sum.inr.inj q)), KvsR.has x h3]
      simp [Ne.symm e]
theorem KvsR.known {p : Addr} {ws : List (Key × V)} {kvs kvs' : List (Str × PyData)} (h : H p = some (.dK ws)) (r : KvsR K H' ws kvs') (pm : kvs'.Perm kvs) : Known H p (kvs.map (·.1)) := ⟨ws, h, fun x => by
  rw [r.has x]
  rw [Bool.eq_iff_iff, decide_eq_true_iff, decide_eq_true_iff]
  exact (pm.map (·.1)).mem_iff⟩
end
theorem KvsR.mono {K : PySem.W.Frag} {H H' : Hp} {vs : List (Key × V)} {kvs : List (Str × PyData)} (h : KvsR K H vs kvs) (s : Kp H H') : KvsR K H' vs kvs := KvsR.kp s h
/-- all but x stay -/
def But (x : Addr) (H H' : Hp) : Prop := ∀ b o, H b = some o → b ≠ x → H' b = some o
theorem checkAll_ok {E : Env0} {d : PyData} {c : Chk} (h : checkAll E d = .ok c) : ∃ ds, d = .list ds ∧ chkL E 5 false ds [] chk0 = .ok c ∧ sizes c = none := by
  unfold checkAll at h
  split at h
  · rename_i ds
    refine ⟨ds, rfl, ?_⟩
    split at h
    · cases h
    · rename_i c1 e1
      split at h
      · cases h
      · rename_i e2
        obtain rfl := Except.ok.inj h
        exact ⟨e1, e2⟩
  · cases h
theorem sizes_edits {c : Chk} (h : sizes c = none) : c.edits.length ≤ 4 := by
  unfold sizes at h
  split at h
  · cases h
  · split at h
    · cases h
    · split at h
      · cases h
      · split at h
        · cases h
        · split at h
          · cases h
          · omega
theorem keys_dkT (xs : List Str) : ((dkT xs).map fun kv => kV kv.1) = xs.map V.str := by
  unfold dkT
  rw [List.map_map]
  rfl
section
variable {K : PySem.W.Frag} {H H' H'' : Hp} {x C dx : Addr} {fs : List (Str × V)}
theorem But.kp (b : But x H H') (h : H x = some (.ins C dx fs)) : Kp H H' := fun c o hc ho => b c o hc fun e => by
  rw [e, h] at hc
  cases hc
  cases ho
theorem But.trans (a : But x H H') (b : But x H' H'') : But x H H'' := fun c o h n => b c o (a c o h n) n
theorem Same.but (s : Same H H') : But x H H' := fun c o h _ => s c o h
theorem But.upd {o : HO} (b : But x H H') : But x H (upd H' x o) := fun c u h n => by rw [L2.upd_ne n]; exact b c u h n
theorem ArgV.but {v : V} {a : ArgD} (h : ArgV K H v a) (b : But x H H') (hx : H x = some (.ins C dx fs)) : ArgV K H' v a := by
  cases a with
  | none => exact h
  | other d => exact ⟨h.1.kp (b.kp hx), h.2⟩
  | dict kvs =>
    obtain ⟨p, vs, e, hp, hk, hn⟩ := h
    refine ⟨p, vs, e, b p _ hp fun z => ?_, hk.mono (b.kp hx), hn⟩
    rw [z, hx] at hp
    cases hp
end
structure EdC (K : PySem.W.Frag) (C : Addr) : Prop where
  cls : Cls K C
  n1 : NoAttr K C "ask_table"
  n2 : NoAttr K C "signal_table"
  n3 : NoAttr K C "input_words"
  n4 : NoAttr K C "row_list"
  n5 : NoAttr K C "edit_ids"
section
variable {P : Program} {w : World} {K : PySem.W.Frag} {mg : Str → Option Value} {base : Heap} {pS CI C RC0 : Addr}
def spEdited (K : PySem.W.Frag) (C CI : Addr) (we : Bool) : Sp := fun vs H Q X => ∃ (x dx : Addr) (rv av sv iv : V) (asks sigs : ArgD) (ins rows : PyData), vs = [.ref x, rv, av, sv, iv] ∧ H x = some (.ins C dx []) ∧ ArgV K H av asks ∧ ArgV K H sv sigs ∧ argSmall asks ∧ argSmall sigs ∧ Dp K H iv ins ∧ Dp K H rv rows ∧ small ins = true ∧ wt rows ≤ 30000 ∧
  (∀ c, progCheck we asks sigs ins rows = .ok c → ∀ H', But x H H' → Q .non H') ∧ (∀ part path, progCheck we asks sigs ins rows = .error (part, path) → ∀ H' d, Fr (x :: (argF asks av ++ argF sigs sv)) H H' → XProg K H' d part path → X (.ref CI) (some d) H')
end
end Op
namespace Op
open PySem L2 PyProof.Rows
/-! ### the mirror: the tables of rows and of sizes -/
def putD {α : Type} (t : List (List Int × α)) (p : List Int) (a : α) : List (List Int × α) := if (t.any fun q => decide (q.1 = p)) = true then t.map (fun q => if q.1 = p then (q.1, a) else q) else t ++ [(p, a)]
abbrev Tb := List (List Int × PyData) × List (List Int × Int)
def addIn (rec : List PyData → List Int → Tb → Tb) (pre : List Int) : List PyData → Nat → Tb → Tb
  | [], _, s => s
  | d :: r, j, s => addIn rec pre r (j + 1) (rec (listOf d) (pre ++ [(j : Int)]) s)
def addRow (rec : List PyData → List Int → Tb → Tb) (pre : List Int) (d : PyData) (i : Nat) (s : Tb) : Tb :=
  match d with
  | .tuple (.str kind :: parts) => addIn rec (pre ++ [(i : Int)]) (innerL kind parts) 0 (putD s.1 (pre ++ [(i : Int)]) d, s.2)
  | _ => s
def addRs (row : PyData → Nat → Tb → Tb) : List PyData → Nat → Tb → Tb
  | [], _, s => s
  | d :: r, i, s => addRs row r (i + 1) (row d i s)
def addL : Nat → List PyData → List Int → Tb → Tb
  | 0, _, _, s => s
  | n + 1, ds, pre, s => addRs (addRow (addL n) pre) ds 0 (s.1, putD s.2 pre (ds.length : Int))
theorem putD_len {α : Type} (t : List (List Int × α)) (p : List Int) (a : α) : (putD t p a).length ≤ t.length + 1 := by
  unfold putD
  split
  · rw [List.length_map]; omega
  · rw [List.length_append]; exact Nat.le_refl _
/-! ### sizes -/
def CapT (s : Tb) (m : Nat) : Prop := s.1.length ≤ m ∧ s.2.length ≤ m
theorem CapT.mono {s : Tb} {m n : Nat} (h : CapT s m) (e : m ≤ n) : CapT s n := ⟨by have := h.1; omega, by have := h.2; omega⟩
theorem wIn1 : ∀ ds : List PyData, ds.length + wIn ds ≤ wts ds
  | [] => by rw [wts_nil]; exact Nat.le_refl _
  | d :: r => by
    have := wIn1 r
    have := wts_listOf d
    rw [wts_cons, List.length_cons]
    show _ + (wts (listOf d) + wIn r) ≤ _
    omega
theorem wts_filter (f : PyData → Bool) : ∀ ds : List PyData, wts (ds.filter f) ≤ wts ds
  | [] => Nat.le_refl _
  | d :: r => by
    have := wts_filter f r
    rw [wts_cons]
    by_cases q : f d = true
    · rw [List.filter_cons_of_pos q, wts_cons]; omega
    · rw [List.filter_cons_of_neg q]; omega
theorem wIn_inner1 (kind : Str) (parts : List PyData) : (innerL kind parts).length + wIn (innerL kind parts) ≤ wts parts := by
  unfold innerL
  split
  · cases parts with
    | nil => exact Nat.zero_le _
    | cons d r =>
      rw [wts_cons]
      cases d with
      | tuple ds =>
        have := wIn1 ds
        rw [wt_tuple]
        show ds.length + wIn ds ≤ _
        omega
      | _ => exact Nat.zero_le _
  · have := wIn1 (parts.filter isList)
    have := wts_filter isList parts
    omega
def CapG (f : List PyData → List Int → Tb → Tb) : Prop := ∀ ds pre s m, CapT s m → CapT (f ds pre s) (m + 1 + wts ds)
theorem addIn_cap {f : List PyData → List Int → Tb → Tb} (hf : CapG f) {pre : List Int} : ∀ (l : List PyData) (j : Nat) (s : Tb) (m : Nat), CapT s m → CapT (addIn f pre l j s) (m + (l.length + wIn l))
  | [], j, s, m, k => k
  | d :: r, j, s, m, k => by
    have h1 := hf (listOf d) (pre ++ [(j : Int)]) s m k
    have h2 := addIn_cap hf (pre := pre) r (j + 1) _ _ h1
    refine h2.mono ?_
    show _ ≤ m + (r.length + 1 + (wts (listOf d) + wIn r))
    omega
theorem addRow_cap {f : List PyData → List Int → Tb → Tb} (hf : CapG f) {pre : List Int} {d : PyData} {i : Nat} {s : Tb} {m : Nat} (k : CapT s m) : CapT (addRow f pre d i s) (m + wt d) := by
  unfold addRow
  split
  · rename_i kind parts
    have h1 := putD_len s.1 (pre ++ [(i : Int)]) (.tuple (.str kind :: parts))
    have h2 := addIn_cap hf (pre := pre ++ [(i : Int)]) (innerL kind parts) 0 (putD s.1 (pre ++ [(i : Int)]) (.tuple (.str kind :: parts)), s.2) (m + 1) ⟨by have := k.1; show (putD _ _ _).length ≤ _; omega, by have := k.2; show s.2.length ≤ _; omega⟩
    have h3 := wIn_inner1 kind parts
    refine h2.mono ?_
    rw [wt_tuple, wts_cons]
    omega
  · exact k.mono (by omega)
theorem addRs_cap {row : PyData → Nat → Tb → Tb} (hr : ∀ d i s m, CapT s m → CapT (row d i s) (m + wt d)) : ∀ (l : List PyData) (i : Nat) (s : Tb) (m : Nat), CapT s m → CapT (addRs row l i s) (m + wts l)
  | [], i, s, m, k => k.mono (by omega)
  | d :: r, i, s, m, k => by
    have h2 := addRs_cap hr r (i + 1) _ _ (hr d i s m k)
    exact h2.mono (by rw [wts_cons]; omega)
theorem addL_cap : ∀ n : Nat, CapG (addL n)
  | 0 => fun ds pre s m k => k.mono (by omega)
  | n + 1 => fun ds pre s m k => by
    have h1 := putD_len s.2 pre (ds.length : Int)
    exact addRs_cap (fun d i s m k => addRow_cap (addL_cap n) k) ds 0 (s.1, putD s.2 pre (ds.length : Int)) (m + 1) ⟨by have := k.1; show s.1.length ≤ _; omega, by have := k.2; show (putD _ _ _).length ≤ _; omega⟩
/-! ### the tables in the heap -/
def kI (p : List Int) : List Key := p.map Sum.inl
theorem kI_inj : ∀ {p q : List Int}, kI p = kI q → p = q
  | [], [], _ => rfl
  | [], _ :: _, h => by cases h
  | _ :: _, [], h => by cases h
  | a :: r, b :: t, h => by
    have h : (Sum.inl a : Key) :: kI r = Sum.inl b :: kI t := h
    obtain ⟨h1, h2⟩ := List.cons.inj h
    rw [Sum.inl.inj h1, kI_inj h2]
theorem kI_kV (p : List Int) : (kI p).map kV = p.map V.int := by
  unfold kI
  rw [List.map_map]
  rfl
def TabR (K : PySem.W.Frag) (H : Hp) : List (List Key × V) → List (List Int × PyData) → Prop
  | [], [] => True
  | (k, v) :: r, (p, d) :: t => k = kI p ∧ Dp K H v d ∧ TabR K H r t
  | _, _ => False
section
variable {K : PySem.W.Frag} {H H' : Hp}
theorem TabR.kp (s : Kp H H') : ∀ {kvs : List (List Key × V)} {t : List (List Int × PyData)}, TabR K H kvs t → TabR K H' kvs t
  | [], [], _ => trivial
  | (k, v) :: r, (p, d) :: t, ⟨h1, h2, h3⟩ => ⟨h1, h2.kp s, TabR.kp s h3⟩
theorem TabR.len : ∀ {kvs : List (List Key × V)} {t : List (List Int × PyData)}, TabR K H kvs t → kvs.length = t.length
  | [], [], _ => rfl
  | (k, v) :: r, (p, d) :: t, ⟨h1, h2, h3⟩ => congrArg Nat.succ (TabR.len h3)
theorem TabR.any {q : List Int} : ∀ {kvs : List (List Key × V)} {t : List (List Int × PyData)}, TabR K H kvs t → (kvs.any fun kv => decide (kv.1 = kI q)) = t.any fun x => decide (x.1 = q)
  | [], [], _ => rfl
  | (k, v) :: r, (p, d) :: t, ⟨h1, h2, h3⟩ => by
    rw [List.any_cons, List.any_cons, TabR.any h3, h1]
    congr 1
    exact decide_eq_decide.mpr ⟨fun e => kI_inj e, fun e => congrArg kI e⟩
theorem TabR.set {q : List Int} {v : V} {d : PyData} (hv : Dp K H v d) : ∀ {kvs : List (List Key × V)} {t : List (List Int × PyData)}, TabR K H kvs t → TabR K H (kvs.map fun kv => if kv.1 = kI q then (kv.1, v) else kv) (t.map fun x => if x.1 = q then (x.1, d) else x)
  | [], [], _ => trivial
  | (k, u) :: r, (p, e) :: t, ⟨h1, h2, h3⟩ => by
    rw [List.map_cons, List.map_cons]
    by_cases z : p = q
    · rw [if_pos z, if_pos (by rw [h1, z])]
      exact ⟨h1, hv, TabR.set hv h3⟩
    · rw [if_neg z, if_neg (fun y => z (kI_inj (h1.symm.trans y)))]
      exact ⟨h1, h2, TabR.set hv h3⟩
theorem TabR.snoc {q : List Int} {v : V} {d : PyData} (hv : Dp K H v d) : ∀ {kvs : List (List Key × V)} {t : List (List Int × PyData)}, TabR K H kvs t → TabR K H (kvs ++ [(kI q, v)]) (t ++ [(q, d)])
  | [], [], _ => ⟨rfl, hv, trivial⟩
  | (k, u) :: r, (p, e) :: t, ⟨h1, h2, h3⟩ => ⟨h1, h2, TabR.snoc hv h3⟩
theorem TabR.put {q : List Int} {v : V} {d : PyData} {kvs : List (List Key × V)} {t : List (List Int × PyData)} (h : TabR K H kvs t) (hv : Dp K H v d) : TabR K H (putK kvs (kI q) v) (putD t q d) := by
  unfold putK putD
  rw [h.any]
  split
  · exact h.set hv
  · exact h.snoc hv
end
def zT (t : List (List Int × Int)) : List (List Key × V) := t.map fun p => (kI p.1, .int p.2)
theorem zT_put (t : List (List Int × Int)) (q : List Int) (n : Int) : putK (zT t) (kI q) (.int n) = zT (putD t q n) := by
  unfold putK putD
  have e : ((zT t).any fun kv => decide (kv.1 = kI q)) = t.any fun x => decide (x.1 = q) := by
    unfold zT
    rw [List.any_map]
    congr 1
    funext x
    exact decide_eq_decide.mpr ⟨fun e => kI_inj e, fun e => congrArg kI e⟩
  rw [e]
  split
  · unfold zT
    rw [List.map_map, List.map_map]
    refine List.map_congr_left fun x _ => ?_
    show (if kI x.1 = kI q then (kI x.1, V.int n) else (kI x.1, .int x.2)) = (kI (if x.1 = q then (x.1, n) else x).1, V.int (if x.1 = q then (x.1, n) else x).2)
    by_cases z : x.1 = q
    · rw [if_pos z, if_pos (by rw [z])]
    · rw [if_neg z, if_neg fun y => z (kI_inj y)]
  · unfold zT
    rw [List.map_append]
    rfl
structure TbA where
  x : Addr
  C : Addr
  dx : Addr
  rt : Addr
  lz : Addr
  fs : List (Str × V)
structure TB (K : PySem.W.Frag) (H : Hp) (A : TbA) (s : Tb) : Prop where
  ob : H A.x = some (.ins A.C A.dx A.fs)
  f1 : A.fs.lookup ("row_table" : Str) = some (.ref A.rt)
  f2 : A.fs.lookup ("list_sizes" : Str) = some (.ref A.lz)
  f3 : A.fs.lookup ("add_rows" : Str) = none
  rt : ∃ kvs, H A.rt = some (.dT kvs) ∧ TabR K H kvs s.1
  lz : H A.lz = some (.dT (zT s.2))
  ne : A.rt ≠ A.lz
section
variable {K : PySem.W.Frag} {H H' : Hp} {A : TbA} {s : Tb}
theorem TB.mono (h : TB K H A s) (m : Same H H') : TB K H' A s := ⟨m _ _ h.ob, h.f1, h.f2, h.f3, let ⟨k, a, b⟩ := h.rt; ⟨k, m _ _ a, b.kp m.kp⟩, m _ _ h.lz, h.ne⟩
theorem TB.kp (h : TB K H A s) (f : Fr [A.rt, A.lz] H H') : Kp H H' := fun b o hb ho => f b o hb fun m => by
  obtain ⟨k, e, _⟩ := h.rt
  rcases List.mem_cons.mp m with z | m
  · rw [z, e] at hb; cases hb; cases ho
  · rw [List.mem_singleton.mp m, h.lz] at hb; cases hb; cases ho
end
theorem kp_upd {H : Hp} {a : Addr} {o o' : HO} (h : H a = some o) (n : seqO o = false) : Kp H (upd H a o') := fun b u hb hu => by
  have : b ≠ a := fun e => by
    rw [e, h] at hb
    cases hb
    rw [n] at hu
    cases hu
  rw [upd_ne this]
  exact hb
section
variable {K : PySem.W.Frag} {H : Hp} {A : TbA} {s : Tb}
theorem TB.nx (h : TB K H A s) : A.x ≠ A.rt ∧ A.x ≠ A.lz := by
  obtain ⟨kvs, e1, _⟩ := h.rt
  exact ⟨fun e => (by have := h.ob; rw [e, e1] at this; cases this), fun e => (by have := h.ob; rw [e, h.lz] at this; cases this)⟩
theorem TB.putZ (h : TB K H A s) (p : List Int) (n : Int) : TB K (upd H A.lz (.dT (putK (zT s.2) (kI p) (.int n)))) A (s.1, putD s.2 p n) := by
  obtain ⟨kvs, e1, e2⟩ := h.rt
  exact ⟨by rw [upd_ne h.nx.2]; exact h.ob, h.f1, h.f2, h.f3, ⟨kvs, by rw [upd_ne h.ne]; exact e1, e2.kp (kp_upd h.lz rfl)⟩, by rw [upd_same, zT_put], h.ne⟩
theorem TB.putT {kvs : List (List Key × V)} {p : List Int} {v : V} {d : PyData} (h : TB K H A s) (e1 : H A.rt = some (.dT kvs)) (e2 : TabR K H kvs s.1) (hv : Dp K H v d) : TB K (upd H A.rt (.dT (putK kvs (kI p) v))) A (putD s.1 p d, s.2) :=
  ⟨by rw [upd_ne h.nx.1]; exact h.ob, h.f1, h.f2, h.f3, ⟨_, upd_same, (e2.put hv).kp (kp_upd e1 rfl)⟩, by rw [upd_ne h.ne.symm]; exact h.lz, h.ne⟩
end
theorem rowOk_form {R : List PyData → Prop} {d : PyData} (h : rowOk R d) : ∃ kind parts, d = .tuple (.str kind :: parts) ∧ parts.length ≤ 4 ∧ (kind = "both" → ∃ ds, parts = [.tuple ds] ∧ ds ≠ []) ∧ (∀ d ∈ innerL kind parts, isList d = true ∧ R (listOf d)) := by
  unfold rowOk at h
  split at h
  · rename_i kind parts
    exact ⟨kind, parts, rfl, h.1, h.2.1, h.2.2.2⟩
  · exact h.elim
/-- t + u of tuples that are tracked -/
theorem cat_trk {K : PySem.W.Frag} {H : Hp} {a b : Addr} {xs ys : List V} {Q : VK} (ha : H a = some (.tup xs)) (hb : H b = some (.tup ys)) (hz : xs.length + ys.length ≤ sizeLine) (k : ∀ t H', Same H H' → H' t = some (.tup (xs ++ ys)) → Q (.ref t) H') : rCatA K (.ref a) (.ref b) H Q := by
  refine ⟨a, b, xs, ys, rfl, rfl, .inl (.inl ha), .inl (.inl hb), hz, fun e => ?_, fun _ e => ?_, fun _ _ p hp => ?_⟩
  · subst e
    exact k b H (fun _ _ h => h) hb
  · subst e
    exact k a H (fun _ _ h => h) (by rw [List.append_nil]; exact ha)
  · exact k p _ (Same.new hp) upd_same
theorem addRs_cons {row : PyData → Nat → Tb → Tb} {d : PyData} {r : List PyData} {i : Nat} {s : Tb} : addRs row (d :: r) i s = addRs row r (i + 1) (row d i s) := rfl
theorem addIn_cons {rec : List PyData → List Int → Tb → Tb} {pre : List Int} {d : PyData} {r : List PyData} {j : Nat} {s : Tb} : addIn rec pre (d :: r) j s = addIn rec pre r (j + 1) (rec (listOf d) (pre ++ [(j : Int)]) s) := rfl
theorem cut_fr {S : Addr → Prop} {L : List Addr} {H H' : Hp} (f : Fr L H H') : Fr L (cutH S H) (cutH S H') := fun b o h n => by
  unfold cutH at h ⊢
  split at h
  · cases h
  · rename_i z
    rw [if_neg z]
    exact f b o h n
theorem cut_put {S : Addr → Prop} {H : Hp} {a : Addr} {o : HO} (n : ¬ S a) : cutH S (upd H a o) = upd (cutH S H) a o := by
  funext b
  unfold cutH
  by_cases e : b = a
  · subst e
    rw [if_neg n, upd_same, upd_same]
  · rw [upd_ne e, upd_ne e]
theorem cut_has {S : Addr → Prop} {H : Hp} {a : Addr} {o : HO} (h : cutH S H a = some o) : ¬ S a := fun z => by
  unfold cutH at h
  rw [if_pos z] at h
  cases h
theorem cut_at {S : Addr → Prop} {H : Hp} {a : Addr} {o : HO} (h : cutH S H a = some o) : H a = some o := cut_all _ _ h
structure PgC (K : PySem.W.Frag) (C : Addr) : Prop where
  cls : Cls K C
  n1 : NoAttr K C "ask_table"
  n2 : NoAttr K C "signal_table"
  n3 : NoAttr K C "input_words"
  n4 : NoAttr K C "row_list"
  n5 : NoAttr K C "label_names"
  n6 : NoAttr K C "slot_names"
  n7 : NoAttr K C "gate_names"
  n8 : NoAttr K C "row_table"
  n9 : NoAttr K C "list_sizes"
section
variable {P : Program} {w : World} {K : PySem.W.Frag} {mg : Str → Option Value} {base : Heap} {C : Addr}
def spAdd (K : PySem.W.Frag) (C : Addr) (n : Nat) : Sp := fun vs H Q _ => ∃ (S : Addr → Prop) (A : TbA) (s : Tb) (rws pr : Addr) (ds : List PyData) (pre : List Int) (m : Nat), vs = [.ref A.x, .ref rws, .ref pr] ∧ A.C = C ∧ TB K (cutH S H) A s ∧ Dp K (cutH S H) (.ref rws) (.list ds) ∧ rowsOk n ds ∧ H pr = some (.tup (pre.map V.int)) ∧ pre.length + 2 * n ≤ 100 ∧ CapT s m ∧ m + 1 + wts ds ≤ 90000 ∧
  ∀ H', Fr [A.rt, A.lz] H H' → TB K (cutH S H') A (addL n ds pre s) → Q .non H'
theorem sc_Program_add_rows : FnScope ["self", "rows", "prefix", "index", "row", "number", "inner"] ["self", "rows", "prefix"] (defScope s_Program_add_rows) := ⟨rfl, rfl, rfl, by decide +kernel, rfl, by decide +kernel, by decide +kernel⟩
theorem ok_add_rows {f : Addr} {fd : FuncData} (F : Fun K "add_rows" "Program.add_rows" s_Program_add_rows f fd) (T : Txt mg) (pc : PgC K C) (hm : Meth K C "add_rows" f) (hb : Binds K fd ["self", "rows", "prefix"] []) (c_inner_lists : Cal P w K mg base CX0 1 "inner_lists" ["row"] (spInnerG K)) :
    ∀ n : Nat, FnOk P w K mg base CX0 (1 + n + 1) f fd ["self", "rows", "prefix"] (spAdd K C n)
  | 0 => F.ok sc_Program_add_rows (fun vs H Q E h => by obtain ⟨S, A, s, rws, pr, ds, pre, m, rfl, _⟩ := h; rfl) (fun cdv A outer s H vs Q E hr h => by obtain ⟨S, A, s, rws, pr, ds, pre, m, _, _, _, _, hk, _⟩ := h; exact hk.elim)
  | n + 1 => by
    have m_add_rows : Mcal P w K mg base CX0 (1 + n + 1) C "add_rows" ["self", "rows", "prefix"] (spAdd K C n) := ⟨f, fd, hm, hb, ok_add_rows F T pc hm hb c_inner_lists n⟩
    refine F.ok sc_Program_add_rows (fun vs H Q E h => ?_) (fun cdv A outer s H vs Q E hr h => ?_)
    · obtain ⟨S, A, s, rws, pr, ds, pre, m, rfl, _⟩ := h
      rfl
    · obtain ⟨S, R, s0, rws, pr, ds, pre, m, rfl, hC, Oc, hd, hok, hpr, hpl, hcap, hw, k⟩ := h
      have hu := hu_of hr
      have c_Program := pc.cls
      subst hC
      have O := Oc.mono cut_all
      have nlz := cut_has Oc.lz
      have nrt : ¬ S R.rt := let ⟨_, e, _⟩ := Oc.rt; cut_has e
      refine ⟨_, (pss_cons (ps_dput hu (pe_fld (pv 0) rfl) (pv 2) (pe_callB call_len_seq (by rfl) T.b_len (by decide +kernel) (pa_cons (pv 1) pa_nil)) rfl)
      (pss_one (ps_for PassesOwn.never rfl (pi_enum (by rfl) T.b_enumerate (pa_cons (pv 1) pa_nil)) (pg_tup rfl (pgs_cons (pg_name (i := 3) sc_Program_add_rows.nd rfl (.inl rfl)) (pgs_cons (pg_name (i := 4) sc_Program_add_rows.nd rfl (.inl rfl)) pgs_nil))) (pss_cons (ps_dput hu (pe_fld (pv 0) rfl) (pe_op op_catA (pv 2) (pe_tup (pa_cons (pv 3) pa_nil))) (pv 4) rfl)
      (pss_one (ps_for PassesOwn.never rfl (pi_enum (by rfl) T.b_enumerate (pa_cons (pe_cal c_inner_lists (hr.mono (by omega)) rfl pass0 (pa_cons (pv 4) pa_nil)) pa_nil)) (pg_tup rfl (pgs_cons (pg_name (i := 5) sc_Program_add_rows.nd rfl (.inl rfl)) (pgs_cons (pg_name (i := 6) sc_Program_add_rows.nd rfl (.inl rfl)) pgs_nil))) (pss_one (ps_expr (pe_mcal (pv 0) c_Program m_add_rows (hr.mono (by omega)) pass0 (pa_cons (pv 6) (pa_cons (pe_op op_catA (pv 2) (pe_tup (pa_cons (pv 3) (pa_cons (pv 5) pa_nil)))) pa_nil))))))))))), ?_⟩
      cases hd with
      | @lst _ xs _ hq ha =>
      have hxl := ha.len
      have hcz : (zT s0.2).length ≤ m := by unfold zT; rw [List.length_map]; exact hcap.2
      refine ⟨_, rfl, rws, xs, rfl, .inl (hq.mono cut_all), _, rfl, _, _, _, _, _, rfl, O.ob, pc.cls, pc.n9, O.f2, _, rfl, R.lz, _, rfl, DPut.t (k := kI pre) O.lz (by rw [kI_kV]; exact hpr) (lt_sz (by omega)), ?_⟩
      have O1 := Oc.putZ pre (xs.length : Nat)
      rw [← cut_put nlz] at O1
      have fr1 : Fr [R.rt, R.lz] H (upd H R.lz (.dT (putK (zT s0.2) (kI pre) (.int (xs.length : Nat))))) := Fr.refl.upd (by simp)
      have cap1 : CapT (s0.1, putD s0.2 pre ((xs.length : Nat) : Int)) (m + 1) := ⟨by have := hcap.1; show s0.1.length ≤ _; omega, by have := putD_len s0.2 pre ((xs.length : Nat) : Int); have := hcap.2; show (putD _ _ _).length ≤ _; omega⟩
      revert O1 fr1
      generalize upd H R.lz _ = H1
      intro O1 fr1
      have e0 : addL (n + 1) ds pre s0 = addRs (addRow (addL n) pre) ds 0 (s0.1, putD s0.2 pre ((xs.length : Nat) : Int)) := by rw [hxl]; rfl
      refine ⟨_, rfl, rws, xs, rfl, (hq.mono cut_all).kp (O.kp fr1), ?_⟩
      refine for_it walk_enum (fun i σ H' => (∃ y3 y4 y5 y6 : Option V, σ = [some (.ref R.x), some (.ref rws), some (.ref pr), y3, y4, y5, y6]) ∧ ∃ si mi, TB K (cutH S H') R si ∧ Fr [R.rt, R.lz] H H' ∧ CapT si mi ∧ mi + wts (ds.drop i) ≤ 90000 ∧ addL (n + 1) ds pre s0 = addRs (addRow (addL n) pre) (ds.drop i) i si) ⟨⟨_, _, _, _, rfl⟩, _, m + 1, O1, fr1, cap1, by rw [List.drop_zero]; omega, e0⟩ (fun i σ H' _ p => by
        obtain ⟨_, si, mi, O2, fr, _⟩ := p
        exact (hq.mono cut_all).kp (O.kp fr)) ?_ ?_
      · rintro i v σ H2 H3 hi ⟨⟨y3, y4, y5, y6, rfl⟩, si, mi, O2, fr2, cap2, hw2, hres⟩ ⟨T0, x0, y, rfl, hT0, rfl, hx0, hy⟩
        obtain rfl : x0 = .int (i : Nat) := (Option.some.inj hx0).symm
        obtain ⟨d, hd1, hdy⟩ := ha.get hy
        have hdrop : ds.drop i = d :: ds.drop (i + 1) := by
          obtain ⟨h1, h2⟩ := List.getElem?_eq_some_iff.mp hd1
          rw [List.drop_eq_getElem_cons h1, h2]
        rw [hdrop] at hw2 hres
        rw [wts_cons] at hw2
        refine ⟨T0, _, rfl, .inl (.inl upd_same), rfl, _, _, rfl, _, _, rfl, rfl, ?_⟩
        have sm3 : Same H2 (upd H2 T0 (.tup [.int (i : Nat), y])) := Same.new hT0
        have O3 := O2.mono (cut_same (S := S) sm3)
        have fr3 : Fr [R.rt, R.lz] H (upd H2 T0 (.tup [.int (i : Nat), y])) := fr2.trans sm3.fr
        revert O3 fr3
        generalize upd H2 T0 (.tup [.int (i : Nat), y]) = H3
        intro O3 fr3
        obtain ⟨kind, parts, rfl, hp4, hboth, hinn⟩ := rowOk_form (hok d (List.mem_of_getElem? hd1))
        have hpr3 : H3 pr = some (.tup (pre.map V.int)) := O.kp fr3 _ _ hpr rfl
        obtain ⟨kvs, e1, e2⟩ := O3.rt
        have hkl := e2.len
        have hc1 := cap2.1
        refine ⟨_, rfl, _, rfl, _, _, _, _, _, rfl, cut_at O3.ob, pc.cls, pc.n8, O3.f1, _, rfl, _, rfl, sz1 _, fun p hp => cat_trk (Same.new hp _ _ hpr3) upd_same (sz_lit (by rw [List.length_map]; show _ + 1 ≤ _; omega)) fun t H4 s4 ht => ⟨R.rt, _, rfl, DPut.t (kvs := kvs) (k := kI (pre ++ [(i : Int)])) (s4 _ _ (Same.new hp _ _ (cut_at e1))) (by rw [kI_kV, ← map_snoc]; exact ht) (lt_sz (by omega)), ?_⟩⟩
        have s34 := (Same.new (o := .tup [.int (i : Nat)]) hp).trans s4
        have c34 := cut_same (S := S) s34
        have O4 := (O3.mono c34).putT (p := pre ++ [(i : Int)]) (c34 _ _ e1) (e2.kp c34.kp) ((hdy.kp (Oc.kp (cut_fr fr3))).mono c34)
        rw [← cut_put nrt] at O4
        have fr4 : Fr [R.rt, R.lz] H (upd H4 R.rt (.dT (putK kvs (kI (pre ++ [(i : Int)])) y))) := (fr3.trans s34.fr).upd (by simp)
        have cap4 : CapT (putD si.1 (pre ++ [(i : Int)]) (.tuple (.str kind :: parts)), si.2) (mi + 1) := ⟨by have := putD_len si.1 (pre ++ [(i : Int)]) (.tuple (.str kind :: parts)); show (putD _ _ _).length ≤ _; omega, by have := cap2.2; show si.2.length ≤ _; omega⟩
        revert O4 fr4
        generalize upd H4 R.rt _ = H5
        intro O4 fr4
        have hd5 := hdy.kp (Oc.kp (cut_fr fr4))
        obtain ⟨ty, rfl⟩ : ∃ ty, y = .ref ty := by
          cases hdy with
          | tup _ _ => exact ⟨_, rfl⟩
        refine ⟨_, rfl, _, ty, kind, parts, rfl, cut_all, hd5, by omega, fun e => ?_, fun p' xs' H6 s6 _ hp6 hdp6 => ?_⟩
        · obtain ⟨ds', e', _⟩ := hboth e
          exact ⟨ds', [], e'⟩
        refine ⟨p', xs', rfl, .inl (.inl hp6), ?_⟩
        have O6 := O4.mono (cut_same (S := S) s6)
        have fr6 : Fr [R.rt, R.lz] H H6 := fr4.trans s6.fr
        have hlen6 := hdp6.len
        have hwi := wIn_inner1 kind parts
        have hres' : addL (n + 1) ds pre s0 = addRs (addRow (addL n) pre) (ds.drop (i + 1)) (i + 1) (addIn (addL n) (pre ++ [(i : Int)]) (innerL kind parts) 0 (putD si.1 (pre ++ [(i : Int)]) (.tuple (.str kind :: parts)), si.2)) := hres
        rw [wt_tuple, wts_cons] at hw2
        refine for_it walk_enum (fun j σ H' => (∃ y5' y6' : Option V, σ = [some (.ref R.x), some (.ref rws), some (.ref pr), some (.int (i : Nat)), some (.ref ty), y5', y6']) ∧ ∃ sj mj, TB K (cutH S H') R sj ∧ Fr [R.rt, R.lz] H6 H' ∧ CapT sj mj ∧ mj + (((innerL kind parts).drop j).length + wIn ((innerL kind parts).drop j)) + wts (ds.drop (i + 1)) ≤ 90000 ∧ addL (n + 1) ds pre s0 = addRs (addRow (addL n) pre) (ds.drop (i + 1)) (i + 1) (addIn (addL n) (pre ++ [(i : Int)]) ((innerL kind parts).drop j) j sj)) ⟨⟨_, _, rfl⟩, _, mi + 1, O6, Fr.refl, cap4, by rw [List.drop_zero]; omega, hres'⟩ (fun j σ H' _ q => by
          obtain ⟨_, sj, mj, O7, fr7, _⟩ := q
          exact SqL.kp (.inl (.inl hp6)) ((O6.mono cut_all).kp fr7)) ?_ ?_
        · rintro j v σ H7 H8 hj ⟨⟨y5', y6', rfl⟩, sj, mj, O7, fr7, cap7, hw7, hres7⟩ ⟨T1, x1, y1, rfl, hT1, rfl, hx1, hy1⟩
          obtain rfl : x1 = .int (j : Nat) := (Option.some.inj hx1).symm
          obtain ⟨d1, hd1', hdy1⟩ := hdp6.get hy1
          have hdrop1 : (innerL kind parts).drop j = d1 :: (innerL kind parts).drop (j + 1) := by
            obtain ⟨h1, h2⟩ := List.getElem?_eq_some_iff.mp hd1'
            rw [List.drop_eq_getElem_cons h1, h2]
          rw [hdrop1] at hw7 hres7
          have hw7 : mj + (((innerL kind parts).drop (j + 1)).length + 1 + (wts (listOf d1) + wIn ((innerL kind parts).drop (j + 1)))) + wts (ds.drop (i + 1)) ≤ 90000 := hw7
          obtain ⟨hl1, hr1⟩ := hinn d1 (List.mem_of_getElem? hd1')
          obtain ⟨dl, rfl⟩ : ∃ dl, d1 = .list dl := by
            cases d1 with
            | list dl => exact ⟨dl, rfl⟩
            | _ => cases hl1
          refine ⟨T1, _, rfl, .inl (.inl upd_same), rfl, _, _, rfl, _, _, rfl, rfl, ?_⟩
          have sm8 : Same H7 (upd H7 T1 (.tup [.int (j : Nat), y1])) := Same.new hT1
          have O8 := O7.mono (cut_same (S := S) sm8)
          have fr8 : Fr [R.rt, R.lz] H6 (upd H7 T1 (.tup [.int (j : Nat), y1])) := fr7.trans sm8.fr
          revert O8 fr8
          generalize upd H7 T1 (.tup [.int (j : Nat), y1]) = H8
          intro O8 fr8
          have frA : Fr [R.rt, R.lz] H H8 := fr6.trans fr8
          have hdl : Dp K (cutH S H8) y1 (.list dl) := (hdy1.mono (cut_same s6)).kp (O6.kp (cut_fr fr8))
          have hp8 : H8 pr = some (.tup (pre.map V.int)) := O.kp frA _ _ hpr rfl
          obtain ⟨q1, rfl⟩ : ∃ q1, y1 = .ref q1 := by
            cases hdl with
            | lst _ _ => exact ⟨_, rfl⟩
          refine ⟨_, rfl, _, _, _, rfl, cut_at O8.ob, O8.f3, _, rfl, _, rfl, _, rfl, _, rfl, sz2 _ _, fun p9 hp9 => cat_trk (Same.new hp9 _ _ hp8) upd_same (sz_lit (by rw [List.length_map]; show _ + 2 ≤ _; omega)) fun t9 H9 s9 ht9 => ?_⟩
          have s89 : Same H8 H9 := (Same.new hp9).trans s9
          rw [map_snoc2] at ht9
          refine ⟨S, R, sj, q1, t9, dl, pre ++ [(i : Int)] ++ [(j : Int)], mj, rfl, rfl, O8.mono (cut_same s89), hdl.mono (cut_same s89), hr1, ht9, ?_, cap7, ?_, fun H' fr' O' => ?_⟩
          · rw [List.length_append, List.length_append]
            show pre.length + 1 + 1 + 2 * n ≤ 100
            omega
          · have : wts (listOf (.list dl)) = wts dl := rfl
            omega
          · refine ⟨⟨_, _, rfl⟩, _, mj + 1 + wts dl, O', fr8.trans (s89.fr.trans fr'), addL_cap n _ _ _ _ cap7, ?_, ?_⟩
            · have : wts (listOf (.list dl)) = wts dl := rfl
              omega
            · rw [hres7, addIn_cons]
              rfl
        · rintro σ H7 ⟨⟨y5', y6', rfl⟩, sj, mj, O7, fr7, cap7, hw7, hres7⟩
          rw [List.drop_of_length_le (l := innerL kind parts) (by omega)] at hres7
          exact ⟨⟨_, _, _, _, rfl⟩, sj, mj, O7, fr6.trans fr7, cap7, by omega, hres7⟩
      · rintro σ H' ⟨_, si, mi, O2, fr, _, _, e⟩
        rw [List.drop_of_length_le (by omega)] at e
        exact k H' fr (e ▸ O2)
end
end Op
namespace L2
theorem cut_kpS {S : PySem.Addr → Prop} {H H' : Hp} (s : Kp H H') : Kp (cutH S H) (cutH S H') := fun b o h ho => by
  unfold cutH at h ⊢
  split at h
  · cases h
  · rename_i n
    rw [if_neg n]
    exact s b o h ho
end L2
namespace Op
open PySem L2 PyProof.Rows
theorem at_new {H : Hp} {a : Addr} {o : HO} (_ : H a = none) : upd H a o a = some o := upd_same
theorem sizes_small {c : Chk} (h : sizes c = none) : c.labels.length < 64 ∧ c.slots.length < 64 ∧ c.gates.length < 64 := by
  unfold sizes at h
  split at h
  · cases h
  · split at h
    · cases h
    · split at h
      · cases h
      · split at h
        · cases h
        · omega
theorem dkT_keys (xs : List Str) : (dkT xs).map (·.1) = xs.map Sum.inr := by
  unfold dkT
  rw [List.map_map]
  rfl
theorem okTab_mem {ok : PyData → Bool} {most : Nat} {a : ArgD} {kvs : List (Str × PyData)} (h : okTab ok most a = some kvs) : ∀ q ∈ kvs, ok q.2 = true := by
  cases a with
  | none => 
    obtain rfl := Option.some.inj h
    exact fun q hq => (List.not_mem_nil hq).elim
  | other d => cases h
  | dict kv =>
    have h : (if kv.length ≤ most ∧ (kv.all fun p => isWordS p.1 && ok p.2) = true then some kv else none) = some kvs := h
    split at h
    · rename_i z
      obtain rfl := Option.some.inj h
      exact fun q hq => (Bool.and_eq_true_iff.mp (List.all_eq_true.mp z.2 q hq)).2
    · cases h
theorem noL_box {d : PyData} (h : isBox d = true) : noL d = true := by
  unfold isBox at h
  split at h
  · rename_i n d
    have := noL_words (Bool.and_eq_true_iff.mp h).2
    unfold noL
    refine noLs_mem.mpr fun z hz => ?_
    rcases List.mem_cons.mp hz with rfl | hz
    · unfold noL; rfl
    · rw [List.mem_singleton.mp hz]; exact this
  · cases h
theorem KvsR.cutN {K : PySem.W.Frag} {H : Hp} {S : Addr → Prop} (hs : ∀ b, S b → LstAt H b) : ∀ {vs : List (Key × V)} {kvs : List (Str × PyData)}, KvsR K H vs kvs → (∀ q ∈ kvs, noL q.2 = true) → KvsR K (cutH S H) vs kvs
  | [], [], _, _ => trivial
  | (k, v) :: r, (x, d) :: t, ⟨h1, h2, h3⟩, hn => ⟨h1, noL_cut hs h2 (hn _ List.mem_cons_self), KvsR.cutN hs h3 fun q hq => hn q (List.mem_cons_of_mem _ hq)⟩
theorem RwV.but {K : PySem.W.Frag} {H H' : Hp} {x C dx : Addr} {fs : List (Str × V)} {v : V} {d : PyData} (h : RwV K H v d) (b : But x H H') (hx : H x = some (.ins C dx fs)) : RwV K H' v d := by
  rcases h with h | ⟨h, p, e, hp⟩
  · exact .inl (h.kp (b.kp hx))
  · exact .inr ⟨h, p, e, b p _ hp fun z => by rw [z, hx] at hp; cases hp⟩
/-! ### a program -/
structure Pg where
  asks : List (Str × PyData)
  sigs : List (Str × PyData)
  ins : PyData
  rows : List PyData
  labels : List Str
  slots : List Str
  gates : List Str
structure PgA where
  x : Addr
  C : Addr
  dx : Addr
  pa : Addr
  ps : Addr
  pr : Addr
  l1 : Addr
  l2 : Addr
  l3 : Addr
  rt : Addr
  lz : Addr
  iv : V
def pgF (A : PgA) : List (Str × V) := [("ask_table", .ref A.pa), ("signal_table", .ref A.ps), ("input_words", A.iv), ("row_list", .ref A.pr), ("label_names", .ref A.l1), ("slot_names", .ref A.l2), ("gate_names", .ref A.l3), ("row_table", .ref A.rt), ("list_sizes", .ref A.lz)]
structure PgO (K : PySem.W.Frag) (H : Hp) (A : PgA) (g : Pg) : Prop where
  ob : H A.x = some (.ins A.C A.dx (pgF A))
  da : ∃ ws, H A.pa = some (.dK ws) ∧ KvsR K H ws g.asks
  ds : ∃ ws, H A.ps = some (.dK ws) ∧ KvsR K H ws g.sigs
  di : Dp K H A.iv g.ins
  dr : Dp K H (.ref A.pr) (.list g.rows)
  n1 : H A.l1 = some (.lst (g.labels.map V.str))
  n2 : H A.l2 = some (.lst (g.slots.map V.str))
  n3 : H A.l3 = some (.lst (g.gates.map V.str))
  tb : TB K H ⟨A.x, A.C, A.dx, A.rt, A.lz, pgF A⟩ (addL 5 g.rows [] ([], []))
theorem PgO.mono {K : PySem.W.Frag} {H H' : Hp} {A : PgA} {g : Pg} (h : PgO K H A g) (s : Same H H') : PgO K H' A g :=
  ⟨s _ _ h.ob, let ⟨w, a, b⟩ := h.da; ⟨w, s _ _ a, b.mono s.kp⟩, let ⟨w, a, b⟩ := h.ds; ⟨w, s _ _ a, b.mono s.kp⟩, h.di.mono s, h.dr.mono s, s _ _ h.n1, s _ _ h.n2, s _ _ h.n3, h.tb.mono s⟩
section
variable {P : Program} {w : World} {K : PySem.W.Frag} {mg : Str → Option Value} {base : Heap} {pS CI C RC0 : Addr}
def spProg (K : PySem.W.Frag) (C CI : Addr) : Sp := fun vs H Q X => ∃ (x dx : Addr) (rv av sv iv : V) (asks sigs : ArgD) (ins rows : PyData), vs = [.ref x, rv, av, sv, iv] ∧ H x = some (.ins C dx []) ∧ ArgV K H av asks ∧ ArgV K H sv sigs ∧ argSmall asks ∧ argSmall sigs ∧ Dp K H iv ins ∧ RwV K H rv rows ∧ small ins = true ∧ wt rows ≤ 30000 ∧
  (∀ ka ks ds c, okTab (areWords 4) 6 asks = some ka → okTab isBox 3 sigs = some ks → areWords 3 ins = true → rows = .list ds → checkAll ⟨ka.map (·.1), ks.map (·.1), false⟩ (.list ds) = .ok c → ∀ H' A kva kvs ls ss gs, But x H H' → A.x = x → A.C = C → kva.Perm ka → sortedS (kva.map (·.1)) = true → kvs.Perm ks → sortedS (kvs.map (·.1)) = true → ls.Perm c.labels → sortedS ls = true → ss.Perm c.slots → sortedS ss = true → gs.Perm c.gates → sortedS gs = true → PgO K (cutH (LstAt H) H') A ⟨kva, kvs, ins, ds, ls, ss, gs⟩ → Q .non H') ∧
  (∀ part path, progCheck false asks sigs ins rows = .error (part, path) → ∀ H' d, Fr (x :: (argF asks av ++ argF sigs sv)) H H' → XProg K H' d part path → X (.ref CI) (some d) H')
theorem sc_Program___init__ : FnScope ["self", "rows", "asks", "signals", "inputs", "found"] ["self", "rows", "asks", "signals", "inputs"] (defScope s_Program___init__) := ⟨rfl, rfl, rfl, by decide +kernel, rfl, by decide +kernel, by decide +kernel⟩
theorem ok_prog {f : Addr} {fd : FuncData} (F : Fun K "__init__" "Program.__init__" s_Program___init__ f fd) (T : TxtC P w K mg pS CI) (pc : PgC K C) (rc : RcC K RC0)
    (c_checked_asks : Cal P w K mg base (L2.CX P w) 3 "checked_asks" ["value"] (spTab K CI "asks" (areWords 4) 6)) (c_checked_signals : Cal P w K mg base (L2.CX P w) 4 "checked_signals" ["value"] (spTab K CI "signals" isBox 3)) (c_checked_inputs : Cal P w K mg base (L2.CX P w) 3 "checked_inputs" ["value"] (spInputs K CI))
    (k_RowCheck : Kcal P w K mg base CX0 1 "RowCheck" RC0 ["self", "asks", "signals", "with_edits"] (spRcInit K RC0)) (m_check : Mcal P w K mg base (L2.CX P w) 12 RC0 "check" ["self", "rows"] (spCheck K RC0 CI)) (c_copy_rows : Cal P w K mg base CX0 11 "copy_rows" ["rows"] (spCRows K 5)) (m_add_rows : Mcal P w K mg base CX0 7 C "add_rows" ["self", "rows", "prefix"] (spAdd K C 5)) :
    FnOk P w K mg base (L2.CX P w) 13 f fd ["self", "rows", "asks", "signals", "inputs"] (spProg K C CI) := by
  refine F.okX sc_Program___init__ (fun vs H Q E h => ?_) (fun cdv A outer s H vs Q E hr h => ?_)
  · obtain ⟨x, dx, rv, av, sv, iv, asks, sigs, ins, rows, rfl, _⟩ := h
    rfl
  · obtain ⟨x, dx, rv, av, sv, iv, asks, sigs, ins, rows, rfl, hx, hav, hsv, hsa, hss, hiv, hrv, hsi, hwr, k1, k2⟩ := h
    have c_RowCheck := rc.cls
    have c_Program := pc.cls
    refine ⟨_, (pss_cons (ps_fld (pv 0) (pe_cal c_checked_asks (hr.mono (by omega)) rfl (passes_call (takes_of rfl rfl rfl rfl) (fun _ _ _ _ h => h)) (pa_cons (pv 2) pa_nil)) rfl)
      (pss_cons (ps_fld (pv 0) (pe_cal c_checked_signals (hr.mono (by omega)) rfl (passes_call (takes_of rfl rfl rfl rfl) (fun _ _ _ _ h => h)) (pa_cons (pv 3) pa_nil)) rfl)
      (pss_cons (ps_fld (pv 0) (pe_cal c_checked_inputs (hr.mono (by omega)) rfl (passes_call (takes_of rfl rfl rfl rfl) (fun _ _ _ _ h => h)) (pa_cons (pv 4) pa_nil)) rfl)
      (pss_cons (ps_set (i := 5) sc_Program___init__.nd rfl (.inl rfl) (pe_kcal k_RowCheck (hr.mono (by omega)) rfl pass0 (pa_cons (pe_fld (pv 0) rfl) (pa_cons (pe_fld (pv 0) rfl) (pa_cons pe_bl pa_nil)))))
      (pss_cons (ps_expr (pe_mcal (pv 5) c_RowCheck m_check (hr.mono (by omega)) (passes_call (takes_of rfl rfl rfl rfl) (fun _ _ _ _ h => h)) (pa_cons (pv 1) pa_nil)))
      (pss_cons (ps_fld (pv 0) (pe_cal c_copy_rows (hr.mono (by omega)) rfl pass0 (pa_cons (pv 1) pa_nil)) rfl)
      (pss_cons (ps_fld (pv 0) (pe_callB (call_sortedKV rfl) (by rfl) T.b_sorted (by decide +kernel) (pa_cons (pe_bm0 PySem.F.plainAttrs_dict PySem.F.slot_dict_keys PySem.F.type_dict_keys mt_keysV (pe_fld (pv 5) rfl)) pa_nil)) rfl)
      (pss_cons (ps_fld (pv 0) (pe_callB (call_sortedKV rfl) (by rfl) T.b_sorted (by decide +kernel) (pa_cons (pe_bm0 PySem.F.plainAttrs_dict PySem.F.slot_dict_keys PySem.F.type_dict_keys mt_keysV (pe_fld (pv 5) rfl)) pa_nil)) rfl)
      (pss_cons (ps_fld (pv 0) (pe_callB (call_sortedKV rfl) (by rfl) T.b_sorted (by decide +kernel) (pa_cons (pe_bm0 PySem.F.plainAttrs_dict PySem.F.slot_dict_keys PySem.F.type_dict_keys mt_keysV (pe_fld (pv 5) rfl)) pa_nil)) rfl)
      (pss_cons (ps_fld (pv 0) pe_dnewT rfl)
      (pss_cons (ps_fld (pv 0) pe_dnewT rfl)
      (pss_one (ps_expr (pe_mcal (pv 0) c_Program m_add_rows (hr.mono (by omega)) pass0 (pa_cons (pe_fld (pv 0) rfl) (pa_cons (pe_tup pa_nil) pa_nil)))))))))))))))), ?_⟩
    unfold progCheck at k2
    refine ⟨_, rfl, av, asks, rfl, hav, hsa, fun ka hka pa H1 wsa kva s1 hpa hpa1 pma srta hra => ?_, fun hn H1 d f1 hxp => ?_⟩
    · rw [hka] at k2
      have nxa : pa ≠ x := fun e => by rw [e, hx] at hpa; cases hpa
      refine ⟨_, rfl, x, C, dx, _, rfl, s1 _ _ hx, pc.cls, pc.n1, (by show 0 < 1000; decide), ?_⟩
      have b2 : But x H (upd H1 x (.ins C dx (putF "ask_table" (.ref pa) []))) := (Same.but s1).upd
      have x2 : upd H1 x (.ins C dx (putF "ask_table" (.ref pa) [])) x = some (.ins C dx [("ask_table", .ref pa)]) := upd_same
      have b12' : But x H1 (upd H1 x (.ins C dx (putF "ask_table" (.ref pa) []))) := (Same.but fun _ _ z => z).upd
      have pa2 : upd H1 x (.ins C dx (putF "ask_table" (.ref pa) [])) pa = some (.dK wsa) := by rw [upd_ne nxa]; exact hpa1
      revert b2 x2 pa2 b12'
      generalize upd H1 x (.ins C dx (putF "ask_table" (.ref pa) [])) = H2
      intro b2 x2 b12' pa2
      refine ⟨_, rfl, sv, sigs, rfl, hsv.but b2 hx, hss, fun ks hks ps H3 wss kvs s3 hps hps3 pms srts hrs => ?_, fun hn H3 d f3 hxp => ?_⟩
      · rw [hks] at k2
        have nxs : ps ≠ x := fun e => by rw [e, x2] at hps; cases hps
        have nas : pa ≠ ps := fun e => by rw [← e, pa2] at hps; cases hps
        refine ⟨_, rfl, x, C, dx, _, rfl, s3 _ _ x2, pc.cls, pc.n2, (by show 1 < 1000; decide), ?_⟩
        have b4 : But x H (upd H3 x (.ins C dx (putF "signal_table" (.ref ps) [("ask_table", .ref pa)]))) := (b2.trans (Same.but s3)).upd
        have x4 : upd H3 x (.ins C dx (putF "signal_table" (.ref ps) [("ask_table", .ref pa)])) x = some (.ins C dx [("ask_table", .ref pa), ("signal_table", .ref ps)]) := upd_same
        have b34 : But x H3 (upd H3 x (.ins C dx (putF "signal_table" (.ref ps) [("ask_table", .ref pa)]))) := (Same.but fun _ _ z => z).upd
        have pa4 : upd H3 x (.ins C dx (putF "signal_table" (.ref ps) [("ask_table", .ref pa)])) pa = some (.dK wsa) := by rw [upd_ne nxa]; exact s3 _ _ pa2
        have ps4 : upd H3 x (.ins C dx (putF "signal_table" (.ref ps) [("ask_table", .ref pa)])) ps = some (.dK wss) := by rw [upd_ne nxs]; exact hps3
        revert b4 x4 pa4 ps4 b34
        generalize upd H3 x (.ins C dx (putF "signal_table" (.ref ps) [("ask_table", .ref pa)])) = H4
        intro b4 x4 b34 pa4 ps4
        refine ⟨_, rfl, iv, ins, rfl, hiv.kp (b4.kp hx), hsi, fun hi => ?_, fun hi H5 d s5 hxp => ?_⟩
        · simp only [hi, if_true] at k2
          refine ⟨_, rfl, x, C, dx, _, rfl, x4, pc.cls, pc.n3, (by show 2 < 1000; decide), ?_⟩
          have b5 : But x H (upd H4 x (.ins C dx (putF "input_words" iv [("ask_table", .ref pa), ("signal_table", .ref ps)]))) := b4.upd
          have x5 : upd H4 x (.ins C dx (putF "input_words" iv [("ask_table", .ref pa), ("signal_table", .ref ps)])) x = some (.ins C dx [("ask_table", .ref pa), ("signal_table", .ref ps), ("input_words", iv)]) := upd_same
          have b45 : But x H4 (upd H4 x (.ins C dx (putF "input_words" iv [("ask_table", .ref pa), ("signal_table", .ref ps)]))) := (Same.but fun _ _ z => z).upd
          have pa5 : upd H4 x (.ins C dx (putF "input_words" iv [("ask_table", .ref pa), ("signal_table", .ref ps)])) pa = some (.dK wsa) := by rw [upd_ne nxa]; exact pa4
          have ps5 : upd H4 x (.ins C dx (putF "input_words" iv [("ask_table", .ref pa), ("signal_table", .ref ps)])) ps = some (.dK wss) := by rw [upd_ne nxs]; exact ps4
          revert b5 x5 pa5 ps5 b45
          generalize upd H4 x (.ins C dx (putF "input_words" iv [("ask_table", .ref pa), ("signal_table", .ref ps)])) = H5
          intro b5 x5 b45 pa5 ps5
          have b35 : But x H3 H5 := b34.trans b45
          have b25 : But x H2 H5 := (Same.but s3).trans b35
          refine ⟨_, rfl, x, C, dx, _, _, rfl, x5, pc.cls, pc.n1, rfl, _, rfl, x, C, dx, _, _, rfl, x5, pc.cls, pc.n2, rfl, fun y dy hy hdy hne => ?_⟩
          have s6 : Same H5 (upd (upd H5 dy (.own y)) y (.ins RC0 dy [])) := (Same.new hdy).trans (Same.new (by rw [upd_ne hne.symm]; exact hy))
          have y6 : upd (upd H5 dy (.own y)) y (.ins RC0 dy []) y = some (.ins RC0 dy []) := upd_same
          revert s6 y6
          generalize upd (upd H5 dy (.own y)) y (.ins RC0 dy []) = H6
          intro s6 y6
          refine ⟨y, dy, pa, ps, ⟨ka.map (·.1), ks.map (·.1), false⟩, rfl, y6, KvsR.known (s6 _ _ pa5) hra pma, KvsR.known (s6 _ _ ps5) hrs pms, fun H7 R eR1 eR2 hfree O7 but7 => ⟨rfl, ?_⟩⟩
          subst eR1
          have but57 : Same H5 H7 := fun b o hb => but7 b o (s6 b o hb) fun e => by rw [e, hy] at hb; cases hb
          have b7 : But x H H7 := b5.trans (Same.but but57)
          have outL : ∀ b o, H5 b = some o → b ∉ R.L := fun b o hb hm => by
            have hm : b = R.a ∨ b ∈ [R.l, R.s, R.g, R.e] := by simpa [RcA.L] using hm
            rcases hm with e | hm
            · rw [e, hy] at hb; cases hb
            · have := hfree b hm
              rw [s6 b o hb] at this
              cases this
          refine ⟨_, rfl, _, _, _, rfl, by rw [← eR2]; exact O7.ob, rfl, _, rfl, R, _, rv, rows, rfl, eR2, O7, hrv.but b7 hx, hwr, fun c hc H8 f8 O8 => ?_, fun part path he H8 d f8 hxp => ?_⟩
          · have s8 : Same H5 H8 := fun b o hb => f8 b o (but57 b o hb) (outL b o hb)
            have b8 : But x H H8 := b5.trans (Same.but s8)
            obtain ⟨ds, rfl, hchk, hsz⟩ := checkAll_ok hc
            have hwd : wts ds ≤ 30000 := by rw [wt_list] at hwr; omega
            have hrok := rowsOk_of _ 5 _ _ _ _ _ hchk (by decide)
            refine ⟨_, rfl, rv, ds, rfl, (hrv.but b8 hx).lst, hrok, hwd, fun p xs H9 s9 hp hp9 hdp => ?_⟩
            have x9 := s9 _ _ (s8 _ _ x5)
            refine ⟨_, rfl, x, C, dx, _, rfl, x9, pc.cls, pc.n4, (by show 3 < 1000; decide), ?_⟩
            have O9 := O8.mono s9
            have ob9 : H9 R.a = some (.ins R.C R.dx (rcF R ⟨ka.map (·.1), ks.map (·.1), false⟩ c)) := O9.ob
            have nRx : R.a ≠ x := fun e => by rw [e, x9] at ob9; simp [rcF] at ob9
            have nLx : R.l ≠ x := fun e => by have := O9.dl; rw [e, x9] at this; cases this
            have nSx : R.s ≠ x := fun e => by have := O9.ds; rw [e, x9] at this; cases this
            have nGx : R.g ≠ x := fun e => by have := O9.dg; rw [e, x9] at this; cases this
            have npx : p ≠ x := fun e => by rw [e, x9] at hp9; cases hp9
            have b10 : But x H9 (upd H9 x (.ins C dx (putF "row_list" (.ref p) [("ask_table", .ref pa), ("signal_table", .ref ps), ("input_words", iv)]))) := (Same.but fun _ _ z => z).upd
            have x10 : upd H9 x (.ins C dx (putF "row_list" (.ref p) [("ask_table", .ref pa), ("signal_table", .ref ps), ("input_words", iv)])) x = some (.ins C dx [("ask_table", .ref pa), ("signal_table", .ref ps), ("input_words", iv), ("row_list", .ref p)]) := upd_same
            revert b10 x10
            generalize upd H9 x (.ins C dx _) = H10
            intro b10 x10
            obtain ⟨z1, z2, z3⟩ := sizes_small hsz
            refine ⟨_, rfl, R.a, R.C, R.dx, _, _, rfl, b10 _ _ ob9 nRx, eR2 ▸ rc.cls, eR2 ▸ rc.n5, rfl, tyV_dK (b10 _ _ O9.dl nLx), R.l, dkT c.labels, rfl, rfl, .inl (b10 _ _ O9.dl nLx), fun q0 hq0 => ?_⟩
            refine ⟨q0, R.l, dkT c.labels, c.labels, rfl, upd_same, .inl (Same.new hq0 _ _ (b10 _ _ O9.dl nLx)), dkT_keys c.labels, by omega, fun y0 l0 perm0 sort0 hl0 => ?_⟩
            have s10 := (Same.new (o := keysO q0 R.l) hq0).trans (Same.new (o := .lst (y0.map V.str)) hl0)
            have el0 := at_new (o := .lst (y0.map V.str)) hl0
            have free0 : H10 l0 = none := (Same.new (o := keysO q0 R.l) hq0).free hl0
            revert s10 el0
            generalize upd (upd H10 q0 _) l0 _ = G0
            intro s10 el0
            refine ⟨_, rfl, x, C, dx, _, rfl, s10 _ _ x10, pc.cls, pc.n5, (by show 4 < 1000; decide), ?_⟩
            have b11 : But x H9 (upd G0 x (.ins C dx (putF "label_names" (.ref l0) [("ask_table", .ref pa), ("signal_table", .ref ps), ("input_words", iv), ("row_list", .ref p)]))) := (b10.trans (Same.but s10)).upd
            have x11 : upd G0 x (.ins C dx (putF "label_names" (.ref l0) [("ask_table", .ref pa), ("signal_table", .ref ps), ("input_words", iv), ("row_list", .ref p)])) x = some (.ins C dx [("ask_table", .ref pa), ("signal_table", .ref ps), ("input_words", iv), ("row_list", .ref p), ("label_names", .ref l0)]) := upd_same
            have nl0 : l0 ≠ x := fun e => by rw [e, x10] at free0; cases free0
            have c10 : But x H10 (upd G0 x (.ins C dx (putF "label_names" (.ref l0) [("ask_table", .ref pa), ("signal_table", .ref ps), ("input_words", iv), ("row_list", .ref p)]))) := (Same.but s10).upd
            have fl0 : upd G0 x (.ins C dx (putF "label_names" (.ref l0) [("ask_table", .ref pa), ("signal_table", .ref ps), ("input_words", iv), ("row_list", .ref p)])) l0 = some (.lst (y0.map V.str)) := by rw [upd_ne nl0]; exact el0
            revert b11 x11 c10 fl0
            generalize upd G0 x (.ins C dx _) = H11
            intro b11 x11 c10 fl0
            refine ⟨_, rfl, R.a, R.C, R.dx, _, _, rfl, b11 _ _ ob9 nRx, eR2 ▸ rc.cls, eR2 ▸ rc.n6, rfl, tyV_dK (b11 _ _ O9.ds nSx), R.s, dkT c.slots, rfl, rfl, .inl (b11 _ _ O9.ds nSx), fun q1 hq1 => ?_⟩
            refine ⟨q1, R.s, dkT c.slots, c.slots, rfl, upd_same, .inl (Same.new hq1 _ _ (b11 _ _ O9.ds nSx)), dkT_keys c.slots, by omega, fun y1 l1 perm1 sort1 hl1 => ?_⟩
            have s11 := (Same.new (o := keysO q1 R.s) hq1).trans (Same.new (o := .lst (y1.map V.str)) hl1)
            have el1 := at_new (o := .lst (y1.map V.str)) hl1
            have free1 : H11 l1 = none := (Same.new (o := keysO q1 R.s) hq1).free hl1
            revert s11 el1
            generalize upd (upd H11 q1 _) l1 _ = G1
            intro s11 el1
            refine ⟨_, rfl, x, C, dx, _, rfl, s11 _ _ x11, pc.cls, pc.n6, (by show 5 < 1000; decide), ?_⟩
            have b12 : But x H9 (upd G1 x (.ins C dx (putF "slot_names" (.ref l1) [("ask_table", .ref pa), ("signal_table", .ref ps), ("input_words", iv), ("row_list", .ref p), ("label_names", .ref l0)]))) := (b11.trans (Same.but s11)).upd
            have x12 : upd G1 x (.ins C dx (putF "slot_names" (.ref l1) [("ask_table", .ref pa), ("signal_table", .ref ps), ("input_words", iv), ("row_list", .ref p), ("label_names", .ref l0)])) x = some (.ins C dx [("ask_table", .ref pa), ("signal_table", .ref ps), ("input_words", iv), ("row_list", .ref p), ("label_names", .ref l0), ("slot_names", .ref l1)]) := upd_same
            have nl1 : l1 ≠ x := fun e => by rw [e, x11] at free1; cases free1
            have c11 : But x H11 (upd G1 x (.ins C dx (putF "slot_names" (.ref l1) [("ask_table", .ref pa), ("signal_table", .ref ps), ("input_words", iv), ("row_list", .ref p), ("label_names", .ref l0)]))) := (Same.but s11).upd
            have fl1 : upd G1 x (.ins C dx (putF "slot_names" (.ref l1) [("ask_table", .ref pa), ("signal_table", .ref ps), ("input_words", iv), ("row_list", .ref p), ("label_names", .ref l0)])) l1 = some (.lst (y1.map V.str)) := by rw [upd_ne nl1]; exact el1
            revert b12 x12 c11 fl1
            generalize upd G1 x (.ins C dx _) = H12
            intro b12 x12 c11 fl1
            refine ⟨_, rfl, R.a, R.C, R.dx, _, _, rfl, b12 _ _ ob9 nRx, eR2 ▸ rc.cls, eR2 ▸ rc.n7, rfl, tyV_dK (b12 _ _ O9.dg nGx), R.g, dkT c.gates, rfl, rfl, .inl (b12 _ _ O9.dg nGx), fun q2 hq2 => ?_⟩
            refine ⟨q2, R.g, dkT c.gates, c.gates, rfl, upd_same, .inl (Same.new hq2 _ _ (b12 _ _ O9.dg nGx)), dkT_keys c.gates, by omega, fun y2 l2 perm2 sort2 hl2 => ?_⟩
            have s12 := (Same.new (o := keysO q2 R.g) hq2).trans (Same.new (o := .lst (y2.map V.str)) hl2)
            have el2 := at_new (o := .lst (y2.map V.str)) hl2
            have free2 : H12 l2 = none := (Same.new (o := keysO q2 R.g) hq2).free hl2
            revert s12 el2
            generalize upd (upd H12 q2 _) l2 _ = G2
            intro s12 el2
            refine ⟨_, rfl, x, C, dx, _, rfl, s12 _ _ x12, pc.cls, pc.n7, (by show 6 < 1000; decide), ?_⟩
            have b13 : But x H9 (upd G2 x (.ins C dx (putF "gate_names" (.ref l2) [("ask_table", .ref pa), ("signal_table", .ref ps), ("input_words", iv), ("row_list", .ref p), ("label_names", .ref l0), ("slot_names", .ref l1)]))) := (b12.trans (Same.but s12)).upd
            have x13 : upd G2 x (.ins C dx (putF "gate_names" (.ref l2) [("ask_table", .ref pa), ("signal_table", .ref ps), ("input_words", iv), ("row_list", .ref p), ("label_names", .ref l0), ("slot_names", .ref l1)])) x = some (.ins C dx [("ask_table", .ref pa), ("signal_table", .ref ps), ("input_words", iv), ("row_list", .ref p), ("label_names", .ref l0), ("slot_names", .ref l1), ("gate_names", .ref l2)]) := upd_same
            have nl2 : l2 ≠ x := fun e => by rw [e, x12] at free2; cases free2
            have c12 : But x H12 (upd G2 x (.ins C dx (putF "gate_names" (.ref l2) [("ask_table", .ref pa), ("signal_table", .ref ps), ("input_words", iv), ("row_list", .ref p), ("label_names", .ref l0), ("slot_names", .ref l1)]))) := (Same.but s12).upd
            have fl2 : upd G2 x (.ins C dx (putF "gate_names" (.ref l2) [("ask_table", .ref pa), ("signal_table", .ref ps), ("input_words", iv), ("row_list", .ref p), ("label_names", .ref l0), ("slot_names", .ref l1)])) l2 = some (.lst (y2.map V.str)) := by rw [upd_ne nl2]; exact el2
            revert b13 x13 c12 fl2
            generalize upd G2 x (.ins C dx _) = H13
            intro b13 x13 c12 fl2
            intro rt hrt
            refine ⟨_, rfl, x, C, dx, _, rfl, Same.new hrt _ _ x13, pc.cls, pc.n8, (by show 7 < 1000; decide), ?_⟩
            have nrt : rt ≠ x := fun e => by rw [e, x13] at hrt; cases hrt
            have c13 : But x H13 (upd (upd H13 rt (.dT [])) x (.ins C dx (putF "row_table" (.ref rt) [("ask_table", .ref pa), ("signal_table", .ref ps), ("input_words", iv), ("row_list", .ref p), ("label_names", .ref l0), ("slot_names", .ref l1), ("gate_names", .ref l2)]))) := (Same.but (Same.new hrt)).upd
            have x14 : upd (upd H13 rt (.dT [])) x (.ins C dx (putF "row_table" (.ref rt) [("ask_table", .ref pa), ("signal_table", .ref ps), ("input_words", iv), ("row_list", .ref p), ("label_names", .ref l0), ("slot_names", .ref l1), ("gate_names", .ref l2)])) x = some (.ins C dx [("ask_table", .ref pa), ("signal_table", .ref ps), ("input_words", iv), ("row_list", .ref p), ("label_names", .ref l0), ("slot_names", .ref l1), ("gate_names", .ref l2), ("row_table", .ref rt)]) := upd_same
            have ert : upd (upd H13 rt (.dT [])) x (.ins C dx (putF "row_table" (.ref rt) [("ask_table", .ref pa), ("signal_table", .ref ps), ("input_words", iv), ("row_list", .ref p), ("label_names", .ref l0), ("slot_names", .ref l1), ("gate_names", .ref l2)])) rt = some (.dT []) := by rw [upd_ne nrt]; exact upd_same
            revert c13 x14 ert
            generalize upd (upd H13 rt (.dT [])) x (.ins C dx _) = H14
            intro c13 x14 ert
            intro lz hlz
            refine ⟨_, rfl, x, C, dx, _, rfl, Same.new hlz _ _ x14, pc.cls, pc.n9, (by show 8 < 1000; decide), ?_⟩
            have nlz : lz ≠ x := fun e => by rw [e, x14] at hlz; cases hlz
            have c14 : But x H14 (upd (upd H14 lz (.dT [])) x (.ins C dx (putF "list_sizes" (.ref lz) [("ask_table", .ref pa), ("signal_table", .ref ps), ("input_words", iv), ("row_list", .ref p), ("label_names", .ref l0), ("slot_names", .ref l1), ("gate_names", .ref l2), ("row_table", .ref rt)]))) := (Same.but (Same.new hlz)).upd
            have x15 : upd (upd H14 lz (.dT [])) x (.ins C dx (putF "list_sizes" (.ref lz) [("ask_table", .ref pa), ("signal_table", .ref ps), ("input_words", iv), ("row_list", .ref p), ("label_names", .ref l0), ("slot_names", .ref l1), ("gate_names", .ref l2), ("row_table", .ref rt)])) x = some (.ins C dx [("ask_table", .ref pa), ("signal_table", .ref ps), ("input_words", iv), ("row_list", .ref p), ("label_names", .ref l0), ("slot_names", .ref l1), ("gate_names", .ref l2), ("row_table", .ref rt), ("list_sizes", .ref lz)]) := upd_same
            have elz : upd (upd H14 lz (.dT [])) x (.ins C dx (putF "list_sizes" (.ref lz) [("ask_table", .ref pa), ("signal_table", .ref ps), ("input_words", iv), ("row_list", .ref p), ("label_names", .ref l0), ("slot_names", .ref l1), ("gate_names", .ref l2), ("row_table", .ref rt)])) lz = some (.dT []) := by rw [upd_ne nlz]; exact upd_same
            revert c14 x15 elz
            generalize upd (upd H14 lz (.dT [])) x (.ins C dx _) = H15
            intro c14 x15 elz
            refine ⟨_, rfl, x, dx, _, rfl, x15, rfl, _, rfl, x, C, dx, _, _, rfl, x15, pc.cls, pc.n4, rfl, sz_lit (by show 0 ≤ 100000; decide), fun e0 he0 => ?_⟩
            have s15 := Same.new (o := .tup []) he0
            have l15 := at_new (o := .tup []) he0
            revert s15 l15
            generalize upd H15 e0 _ = H16
            intro s15 l15
            have b14 : But x H9 H14 := b13.trans c13
            have b15 : But x H9 H15 := b14.trans c14
            have b16 : But x H9 H16 := b15.trans (Same.but s15)
            have bH : But x H H16 := (b8.trans (Same.but s9)).trans b16
            have lst16 : ∀ b, LstAt H b → LstAt H16 b := fun b hb => by
              obtain ⟨zs, hz⟩ := hb
              exact ⟨zs, bH b _ hz fun e => by rw [e, hx] at hz; cases hz⟩
            have nS : ∀ b, b ≠ x → ∀ G, But x H G → G b = none → ¬ LstAt H b := fun b hb G hG hn hl => by
              obtain ⟨zs, hz⟩ := hl
              rw [hG b _ hz hb] at hn
              cases hn
            have nxS : ¬ LstAt H x := fun hl => by obtain ⟨zs, hz⟩ := hl; rw [hx] at hz; cases hz
            have b9H : But x H H9 := b8.trans (Same.but s9)
            have npS : ¬ LstAt H p := nS p npx H8 b8 hp
            have nrtS : ¬ LstAt H rt := nS rt nrt H13 (b9H.trans b13) hrt
            have nlzS : ¬ LstAt H lz := nS lz nlz H14 (b9H.trans b14) hlz
            have nl0S : ¬ LstAt H l0 := nS l0 nl0 H10 (b9H.trans b10) free0
            have nl1S : ¬ LstAt H l1 := nS l1 nl1 H11 (b9H.trans b11) free1
            have nl2S : ¬ LstAt H l2 := nS l2 nl2 H12 (b9H.trans b12) free2
            have kp16 : Kp H9 H16 := b16.kp x9
            have hdp16 : DpAll K (cutH (LstAt H) H16) xs ds := by
              refine DpAll.kp (cut_kpS kp16) (DpAll.mono (cut_sub fun b hb => ?_) hdp)
              obtain ⟨zs, hz⟩ := hb
              exact .inl ⟨zs, b8 b _ hz fun e => by rw [e, hx] at hz; cases hz⟩
            have row16 : Dp K (cutH (LstAt H) H16) (.ref p) (.list ds) := .lst (.inl (.inl (by rw [cut_not npS]; exact b16 _ _ hp9 npx))) hdp16
            have nrl : rt ≠ lz := fun e => by rw [← e, ert] at hlz; cases hlz
            have tb16 : TB K (cutH (LstAt H) H16) ⟨x, C, dx, rt, lz, [("ask_table", .ref pa), ("signal_table", .ref ps), ("input_words", iv), ("row_list", .ref p), ("label_names", .ref l0), ("slot_names", .ref l1), ("gate_names", .ref l2), ("row_table", .ref rt), ("list_sizes", .ref lz)]⟩ ([], []) := ⟨by rw [cut_not nxS]; exact s15 _ _ x15, rfl, rfl, rfl, ⟨[], by rw [cut_not nrtS]; exact s15 _ _ (c14 _ _ ert nrt), trivial⟩, by rw [cut_not nlzS]; exact s15 _ _ elz, nrl⟩
            refine ⟨LstAt H, ⟨x, C, dx, rt, lz, [("ask_table", .ref pa), ("signal_table", .ref ps), ("input_words", iv), ("row_list", .ref p), ("label_names", .ref l0), ("slot_names", .ref l1), ("gate_names", .ref l2), ("row_table", .ref rt), ("list_sizes", .ref lz)]⟩, ([], []), p, e0, ds, [], 0, rfl, rfl, tb16, row16, hrok, l15, by decide, ⟨Nat.le_refl _, Nat.le_refl _⟩, by omega, fun H17 fr17 tb17 => ?_⟩
            have kp17 : Kp H16 H17 := (tb16.mono cut_all).kp fr17
            have at17 : ∀ b o, H16 b = some o → b ≠ rt → b ≠ lz → H17 b = some o := fun b o hb h1 h2 => fr17 b o hb fun m => by
              rcases List.mem_cons.mp m with e | m
              · exact h1 e
              · exact h2 (List.mem_singleton.mp m)
            have bH17 : But x H H17 := fun b o hb hn => at17 b o (bH b o hb hn) (fun e => by rw [e] at hb; have := (b9H.trans b13) rt o hb nrt; rw [this] at hrt; cases hrt) (fun e => by rw [e] at hb; have := (b9H.trans b14) lz o hb nlz; rw [this] at hlz; cases hlz)
            have lst17 : ∀ b, LstAt H b → LstAt H17 b := fun b hb => by
              obtain ⟨zs, hz⟩ := hb
              exact ⟨zs, bH17 b _ hz fun e => by rw [e, hx] at hz; cases hz⟩
            have s59 : Same H5 H9 := s8.trans s9
            have pa9 := s59 _ _ pa5
            have ps9 := s59 _ _ ps5
            have nrta : pa ≠ rt := fun e => by have := b13 _ _ pa9 nxa; rw [e, hrt] at this; cases this
            have nlza : pa ≠ lz := fun e => by have := b14 _ _ pa9 nxa; rw [e, hlz] at this; cases this
            have nrts : ps ≠ rt := fun e => by have := b13 _ _ ps9 nxs; rw [e, hrt] at this; cases this
            have nlzs : ps ≠ lz := fun e => by have := b14 _ _ ps9 nxs; rw [e, hlz] at this; cases this
            have pa17 : H17 pa = some (.dK wsa) := at17 _ _ (b16 _ _ pa9 nxa) nrta nlza
            have ps17 : H17 ps = some (.dK wss) := at17 _ _ (b16 _ _ ps9 nxs) nrts nlzs
            have dS : ∀ b kv, H17 b = some (.dK kv) → ¬ LstAt H b := fun b kv hb hl => by
              obtain ⟨zs, hz⟩ := lst17 b hl
              rw [hb] at hz
              cases hz
            have k517 : Kp H5 H17 := (s59.kp.trans kp16).trans kp17
            have k117 : Kp H1 H17 := fun b o hb ho => by
              have hbx : b ≠ x := fun e => by rw [e, s1 _ _ hx] at hb; cases hb; cases ho
              exact k517 b o (b25 b o (b12' b o hb hbx) hbx) ho
            have k317 : Kp H3 H17 := fun b o hb ho => by
              have hbx : b ≠ x := fun e => by rw [e, s3 _ _ x2] at hb; cases hb; cases ho
              exact k517 b o (b35 b o hb hbx) ho
            have noA : ∀ q ∈ kva, noL q.2 = true := fun q hq => noL_words (okTab_mem hka q (pma.mem_iff.mp hq))
            have noB : ∀ q ∈ kvs, noL q.2 = true := fun q hq => noL_box (okTab_mem hks q (pms.mem_iff.mp hq))
            refine k1 ka ks ds c hka hks hi rfl hc H17 ⟨x, C, dx, pa, ps, p, l0, l1, l2, rt, lz, iv⟩ kva kvs y0 y1 y2 bH17 rfl rfl pma srta pms srts perm0 sort0 perm1 sort1 perm2 sort2 ?_
            refine ⟨by rw [cut_not nxS]; exact at17 _ _ (s15 _ _ x15) nrt.symm nlz.symm, ⟨wsa, by rw [cut_not (dS _ _ pa17)]; exact pa17, (hra.mono k117).cutN lst17 noA⟩, ⟨wss, by rw [cut_not (dS _ _ ps17)]; exact ps17, (hrs.mono k317).cutN lst17 noB⟩, noL_cut lst17 (hiv.kp (bH17.kp hx)) (noL_words hi), ?_, ?_, ?_, ?_, tb17⟩
            · exact row16.kp (cut_kpS kp17)
            · show cutH (LstAt H) H17 l0 = _
              rw [cut_not nl0S]
              exact kp17 _ _ (s15 _ _ (c14 _ _ (c13 _ _ (c12 _ _ (c11 _ _ fl0 nl0) nl0) nl0) nl0)) rfl
            · show cutH (LstAt H) H17 l1 = _
              rw [cut_not nl1S]
              exact kp17 _ _ (s15 _ _ (c14 _ _ (c13 _ _ (c12 _ _ fl1 nl1) nl1) nl1)) rfl
            · show cutH (LstAt H) H17 l2 = _
              rw [cut_not nl2S]
              exact kp17 _ _ (s15 _ _ (c14 _ _ (c13 _ _ fl2 nl2) nl2)) rfl
          · refine k2 part path he H8 d (fun b o hb hn => ?_) hxp
            have hbx : b ≠ x := fun e => hn (by rw [e]; exact List.mem_cons_self)
            have h5 := b5 b o hb hbx
            exact f8 b o (but57 b o h5) (outL b o h5)
        · simp only [hi, if_false, Bool.false_eq_true] at k2
          exact k2 _ _ rfl H5 d (fun b o hb hn => s5 b o (b4 b o hb fun e => hn (by rw [e]; exact List.mem_cons_self))) hxp
      · rw [hn] at k2
        exact k2 _ _ rfl H3 d (fun b o hb hn => f3 b o (b2 b o hb fun e => hn (by rw [e]; exact List.mem_cons_self)) fun m => hn (List.mem_cons_of_mem _ (List.mem_append_right _ m))) hxp
    · rw [hn] at k2
      exact k2 _ _ rfl H1 d (fun b o hb hn => f1 b o hb fun m => hn (List.mem_cons_of_mem _ (List.mem_append_left _ m))) hxp
end
end Op
namespace Op
open PySem L2 PyProof.Rows
/-! ### the bag -/
def bag (l : Addr) (a r sd m : Int) : HO := .dK [((.inr "cells" : Key), .ref l), (.inr "at", .int a), (.inr "rest", .int r), (.inr "seed", .int sd), (.inr "many", .int m)]
theorem mk_bag (l : Addr) (a r sd m : Int) : mergeK [] [((.inr "cells" : Key), V.ref l), (.inr "at", .int a), (.inr "rest", .int r), (.inr "seed", .int sd), (.inr "many", .int m)] = [((.inr "cells" : Key), .ref l), (.inr "at", .int a), (.inr "rest", .int r), (.inr "seed", .int sd), (.inr "many", .int m)] := by
  first | rfl | kernel_rfl
theorem put_at (l : Addr) (a r sd m a' : Int) : putK [((.inr "cells" : Key), V.ref l), (.inr "at", .int a), (.inr "rest", .int r), (.inr "seed", .int sd), (.inr "many", .int m)] (.inr "at") (.int a') = [((.inr "cells" : Key), .ref l), (.inr "at", .int a'), (.inr "rest", .int r), (.inr "seed", .int sd), (.inr "many", .int m)] := by
  first | rfl | kernel_rfl
theorem put_rest (l : Addr) (a r sd m a' : Int) : putK [((.inr "cells" : Key), V.ref l), (.inr "at", .int a), (.inr "rest", .int r), (.inr "seed", .int sd), (.inr "many", .int m)] (.inr "rest") (.int a') = [((.inr "cells" : Key), .ref l), (.inr "at", .int a), (.inr "rest", .int a'), (.inr "seed", .int sd), (.inr "many", .int m)] := by
  first | rfl | kernel_rfl
theorem put_seed (l : Addr) (a r sd m a' : Int) : putK [((.inr "cells" : Key), V.ref l), (.inr "at", .int a), (.inr "rest", .int r), (.inr "seed", .int sd), (.inr "many", .int m)] (.inr "seed") (.int a') = [((.inr "cells" : Key), .ref l), (.inr "at", .int a), (.inr "rest", .int r), (.inr "seed", .int a'), (.inr "many", .int m)] := by
  first | rfl | kernel_rfl
theorem put_many (l : Addr) (a r sd m a' : Int) : putK [((.inr "cells" : Key), V.ref l), (.inr "at", .int a), (.inr "rest", .int r), (.inr "seed", .int sd), (.inr "many", .int m)] (.inr "many") (.int a') = [((.inr "cells" : Key), .ref l), (.inr "at", .int a), (.inr "rest", .int r), (.inr "seed", .int sd), (.inr "many", .int a')] := by
  first | rfl | kernel_rfl
section
variable {H : Hp} {p l : Addr} {a r sd m : Int}
theorem get_cells (h : H p = some (bag l a r sd m)) : DGet H p (.str "cells") (some (.ref l)) := DGet.k (k := (.inr "cells" : Key)) h
theorem get_at (h : H p = some (bag l a r sd m)) : DGet H p (.str "at") (some (.int a)) := DGet.k (k := (.inr "at" : Key)) h
theorem get_rest (h : H p = some (bag l a r sd m)) : DGet H p (.str "rest") (some (.int r)) := DGet.k (k := (.inr "rest" : Key)) h
theorem get_seed (h : H p = some (bag l a r sd m)) : DGet H p (.str "seed") (some (.int sd)) := DGet.k (k := (.inr "seed" : Key)) h
theorem get_many (h : H p = some (bag l a r sd m)) : DGet H p (.str "many") (some (.int m)) := DGet.k (k := (.inr "many" : Key)) h
theorem dput_at (h : H p = some (bag l a r sd m)) (c : Int) : DPut H p (.str "at") (.int c) (upd H p (bag l c r sd m)) := by
  have z := DPut.k (k := (.inr "at" : Key)) (v := .int c) h (by show 5 < sizeLine; rw [sizeLine_eq]; decide)
  rw [put_at] at z
  exact z
theorem dput_rest (h : H p = some (bag l a r sd m)) (c : Int) : DPut H p (.str "rest") (.int c) (upd H p (bag l a c sd m)) := by
  have z := DPut.k (k := (.inr "rest" : Key)) (v := .int c) h (by show 5 < sizeLine; rw [sizeLine_eq]; decide)
  rw [put_rest] at z
  exact z
theorem dput_seed (h : H p = some (bag l a r sd m)) (c : Int) : DPut H p (.str "seed") (.int c) (upd H p (bag l a r c m)) := by
  have z := DPut.k (k := (.inr "seed" : Key)) (v := .int c) h (by show 5 < sizeLine; rw [sizeLine_eq]; decide)
  rw [put_seed] at z
  exact z
theorem dput_many (h : H p = some (bag l a r sd m)) (c : Int) : DPut H p (.str "many") (.int c) (upd H p (bag l a r sd c)) := by
  have z := DPut.k (k := (.inr "many" : Key)) (v := .int c) h (by show 5 < sizeLine; rw [sizeLine_eq]; decide)
  rw [put_many] at z
  exact z
end
theorem fmod_lt {a m : Int} (h : 0 < m) : 0 ≤ a.fmod m ∧ a.fmod m < m := ⟨Int.fmod_nonneg_of_pos _ h, Int.fmod_lt_of_pos _ h⟩
/-- the bag stands at p -/
def Pl (H : Hp) (p l : Addr) : Prop := ∃ a r sd m, ∃ ns : List Int, H p = some (bag l a r sd m) ∧ H l = some (.lst (ns.map V.int)) ∧ 0 ≤ a ∧ 0 ≤ r
section
variable {K : PySem.W.Frag} {H H' : Hp} {p c : Addr}
theorem Pl.at (h : Pl H p c) : ∃ kvs, H p = some (.dK kvs) := let ⟨_, _, _, _, _, h, _⟩ := h; ⟨_, h⟩
theorem Pl.cells (h : Pl H p c) : ∃ xs, H c = some (.lst xs) := let ⟨_, _, _, _, _, _, h, _⟩ := h; ⟨_, h⟩
theorem Pl.kp (h : Pl H p c) (b : But p H H') : Kp H H' := fun c o hc ho => b c o hc fun e => by
  obtain ⟨_, h⟩ := h.at
  rw [e, h] at hc
  cases hc
  cases ho
theorem Pl.mono (h : Pl H p c) (s : Same H H') : Pl H' p c := let ⟨a, r, sd, m, ns, h1, h2, h3, h4⟩ := h; ⟨a, r, sd, m, ns, s _ _ h1, s _ _ h2, h3, h4⟩
theorem Pl.put {D : Addr} {o : HO} (h : Pl H p c) (h1 : D ≠ p) (h2 : D ≠ c) : Pl (upd H D o) p c := let ⟨a, r, sd, m, ns, g1, g2, g3, g4⟩ := h; ⟨a, r, sd, m, ns, by rw [L2.upd_ne h1.symm]; exact g1, by rw [L2.upd_ne h2.symm]; exact g2, g3, g4⟩
/-- what was free while the bag stood is not of the bag -/
theorem Pl.new {D : Addr} (h : Pl H p c) (hD : H D = none) : D ≠ p ∧ D ≠ c := by
  refine ⟨fun e => ?_, fun e => ?_⟩
  · obtain ⟨_, g⟩ := h.at
    rw [e, g] at hD
    cases hD
  · obtain ⟨_, g⟩ := h.cells
    rw [e, g] at hD
    cases hD
end
theorem lt64b {a : Int} : -(2 ^ 64) < a.fmod 2147483647 ∧ a.fmod 2147483647 < 2 ^ 64 := by
  have := fmod_lt (a := a) (m := 2147483647) (by decide)
  omega
def spBag (K : PySem.W.Frag) : Sp := fun vs H Q _ => ∃ (a : Addr) (ns : List Int), vs = [.ref a] ∧ SqL K H a (ns.map V.int) ∧ ns.length ≤ 63 ∧
  ∀ (p c : Addr) H', H p = none → Same H H' → Pl H' p c → Q (.ref p) H'
def spD : Sp := fun vs H Q _ => ∃ (p l : Addr) (m : Int), vs = [.ref p, .int m] ∧ Pl H p l ∧ m < 1073741824 ∧ ∀ (r : Int) H', 0 ≤ r → (r < m ∨ m < 2 ∧ r = 0) → But p H H' → Pl H' p l → Q (.int r) H'
section
variable {P : Program} {w : World} {K : PySem.W.Frag} {mg : Str → Option Value} {base : Heap}
theorem sc__law_bag : FnScope ["_law_script", "_law_cell"] ["_law_script"] (defScope s__law_bag) := ⟨rfl, rfl, rfl, by decide +kernel, rfl, by decide +kernel, by decide +kernel⟩
theorem ok_bag {f : Addr} {fd : FuncData} (F : Fun K "_law_bag" "_law_bag" s__law_bag f fd) (T : Txt mg) : FnOk P w K mg base CX0 1 f fd ["_law_script"] (spBag K) := by
  refine F.ok sc__law_bag (fun vs H Q E h => ?_) (fun cdv A outer s H vs Q E hr h => ?_)
  · obtain ⟨a, ns, rfl, _⟩ := h
    rfl
  · obtain ⟨a, ns, rfl, hS, hlen, k⟩ := h
    refine ⟨_, (pss_one (ps_ret (pe_disp (pps_cons pe_str (pe_lc (own := [("_law_cell", 1)]) (g := gName 1) (tt := tYes) rfl sc__law_bag.nd (pi_list (pe_slice sl_list (pv 0) po_none (po_some pe_int))) (blkOk_by (own := [("_law_cell", 1)]) (N := ["_law_script", "_law_cell"]) (sc := defScope s__law_bag) (by decide +kernel)) (fun _ _ _ _ _ => (pg_name (i := 1) sc__law_bag.nd rfl (.inl rfl))) (fun _ _ _ _ _ => pts_nil) (fun _ _ _ _ _ => (pe_callTy call_int1 (by rfl) T.b_int (by decide +kernel) (pa_cons (pv 1) pa_nil)))) (pps_cons pe_str pe_int (pps_cons pe_str pe_int (pps_cons pe_str pe_int (pps_cons pe_str pe_int pps_nil))))) (by rfl) (by rfl) (fun z => by cases z) (by decide)))), ?_⟩
    intro p hp
    have s1 : Same H (upd H p (.dK [])) := Same.new hp
    have p1 : upd H p (.dK []) p = some (.dK []) := upd_same
    revert s1 p1
    generalize upd H p (.dK []) = H1
    intro s1 p1
    obtain ⟨ms, hms⟩ : ∃ ms : List Int, cutV (ns.map V.int) none (some 63) = ms.map V.int := by
      unfold cutV
      exact ⟨_, by rw [← List.map_drop, ← List.map_take]⟩
    have hml : ms.length ≤ 63 := by
      have := cutV_length (ns.map V.int) none (some 63)
      rw [hms, List.length_map, List.length_map] at this
      omega
    refine ⟨_, rfl, 63, rfl, a, _, rfl, hS.mono s1, fun q hq => ?_⟩
    rw [hms]
    have s2 := s1.trans (Same.new (o := .lst (ms.map V.int)) hq)
    have s12 := Same.new (o := .lst (ms.map V.int)) hq
    have q2 := at_new (o := .lst (ms.map V.int)) hq
    revert s2 q2 s12
    generalize upd H1 q _ = H2
    intro s2 s12 q2
    refine ⟨q, rfl, ⟨_, .inl (.inl q2)⟩, fun D hD => ?_⟩
    refine lc_it (walk_list (xs := ms.map V.int)) (fun i H' => H' D = some (.lst ((ms.take i).map V.int)) ∧ Same H2 H') ⟨upd_same, Same.new hD⟩ (fun i H' _ q => .inl (.inl (q.2 _ _ q2))) ?_ ?_
    · rintro i x H5 H4 hi ⟨hD4, s4⟩ ⟨rfl, hx⟩
      have hi' : i < ms.length := by rw [List.length_map] at hi; exact hi
      have hmi : ms[i]? = some ms[i] := List.getElem?_eq_getElem hi'
      obtain rfl : x = .int ms[i] := by
        rw [List.getElem?_map, hmi] at hx
        exact (Option.some.inj hx).symm
      refine ⟨rfl, _, rfl, .inl ⟨_, rfl, _, hD4, lt_sz (by rw [List.length_map, List.length_take]; omega), ?_, fun b o hb => ?_⟩⟩
      · rw [upd_same, TS.take_one hmi, List.map_append]
        rfl
      · rw [L2.upd_ne (ne_of_none hb hD)]
        exact s4 b o hb
    · rintro H4 ⟨hD4, s4⟩
      rw [List.length_map, List.take_length] at hD4
      have s14 := s12.trans s4
      refine ⟨s14 _ _ p1, [((.inr "cells" : Key), V.ref D), (.inr "at", .int 0), (.inr "rest", .int 0), (.inr "seed", .int 1), (.inr "many", .int 0)], rfl, (by show 5 ≤ 15; decide), ?_⟩
      have hDp : D ≠ p := fun e => by rw [e, s12 _ _ p1] at hD; cases hD
      have e1 := mk_bag D 0 0 1 0
      refine k p D _ hp (fun b o hb => ?_) ⟨0, 0, 1, 0, ms, by rw [upd_same]; exact congrArg (fun l => some (HO.dK l)) e1, by rw [L2.upd_ne hDp]; exact hD4, by decide, by decide⟩
      rw [L2.upd_ne (ne_of_none hb hp)]
      exact s14 _ _ (s1 _ _ hb)
theorem sc__law_draw : FnScope ["_law_bag_here", "_law_many", "_law_cell", "_law_value", "_law_number"] ["_law_bag_here", "_law_many"] (defScope s__law_draw) := ⟨rfl, rfl, rfl, by decide +kernel, rfl, by decide +kernel, by decide +kernel⟩
theorem ok_draw {f : Addr} {fd : FuncData} (F : Fun K "_law_draw" "_law_draw" s__law_draw f fd) (T : Txt mg) : FnOk P w K mg base CX0 1 f fd ["_law_bag_here", "_law_many"] spD := by
  refine F.ok sc__law_draw (fun vs H Q E h => ?_) (fun cdv A outer s H vs Q E hr h => ?_)
  · obtain ⟨p, l, m, rfl, _⟩ := h
    rfl
  · obtain ⟨p, l, m, rfl, ⟨a, r, sd, c, ns, hp, hl, ha, hr0⟩, h2, k⟩ := h
    have hu := hu_of hr
    refine ⟨_, (pss_cons (ps_if (pt_cmpR op_lt (pv 1) pe_int (nomark _)) (pss_one (ps_ret pe_int)) pss_nil)
      (pss_cons (ps_dput hu (pv 0) pe_str (pe_op op_add (pe_dget hu (pv 0) pe_str (fun _ _ => rfl)) pe_int) rfl)
      (Evl.pss_cut (ps_if (PW.pt (pw_and (pt_cmpR op_eq (pe_dget hu (pv 0) pe_str (fun _ _ => rfl)) pe_int (nomark _)) (pw_and1 (pt_cmpR op_lt (pe_dget hu (pv 0) pe_str (fun _ _ => rfl)) (pe_callB call_len_seq (by rfl) T.b_len (by decide +kernel) (pa_cons (pe_dget hu (pv 0) pe_str (fun _ _ => rfl)) pa_nil)) (nomark _))))) (pss_cons (ps_set (i := 2) sc__law_draw.nd rfl (.inl rfl) (pe_ix ix_list (pe_dget hu (pv 0) pe_str (fun _ _ => rfl)) (pe_dget hu (pv 0) pe_str (fun _ _ => rfl)) (fun _ _ => rfl)))
      (pss_cons (ps_dput hu (pv 0) pe_str (pe_op op_add (pe_dget hu (pv 0) pe_str (fun _ _ => rfl)) pe_int) rfl)
      (pss_one (ps_if (pt_cmpR op_ge (pv 2) (pe_op op_pow pe_int pe_int) (nomark _)) (pss_one (ps_dput hu (pv 0) pe_str (pv 2) rfl)) (pss_one (ps_dput hu (pv 0) pe_str (pe_op op_modN (pe_callTy call_int1 (by rfl) T.b_int (by decide +kernel) (pa_cons (pe_op op_add (pe_op op_add (pe_op op_mul (pe_dget hu (pv 0) pe_str (fun _ _ => rfl)) pe_int) (pe_op op_modN (pe_callTy call_int1 (by rfl) T.b_int (by decide +kernel) (pa_cons (pv 2) pa_nil)) pe_int)) pe_int) pa_nil)) pe_int) rfl)))))) pss_nil)
      (pss_cons (ps_if (pt_cmpR op_gt (pe_dget hu (pv 0) pe_str (fun _ _ => rfl)) pe_int (nomark _)) (pss_cons (ps_set (i := 3) sc__law_draw.nd rfl (.inl rfl) (pe_op op_modN (pe_callTy call_int1 (by rfl) T.b_int (by decide +kernel) (pa_cons (pe_dget hu (pv 0) pe_str (fun _ _ => rfl)) pa_nil)) (pv 1)))
      (pss_cons (ps_dput hu (pv 0) pe_str (pe_op op_fdivN (pe_dget hu (pv 0) pe_str (fun _ _ => rfl)) (pv 1)) rfl)
      (pss_one (ps_ret (pv 3))))) pss_nil)
      (pss_cons (ps_set (i := 4) sc__law_draw.nd rfl (.inl rfl) (pe_op op_modN (pe_callTy call_int1 (by rfl) T.b_int (by decide +kernel) (pa_cons (pe_op op_mul (pe_op op_add (pe_op op_add (pe_dget hu (pv 0) pe_str (fun _ _ => rfl)) (pe_op op_mul pe_int (pe_dget hu (pv 0) pe_str (fun _ _ => rfl)))) pe_int) pe_int) pa_nil)) pe_int))
      (pss_cons (ps_set (i := 4) sc__law_draw.nd rfl (.inl rfl) (pe_op op_modN (pe_callTy call_int1 (by rfl) T.b_int (by decide +kernel) (pa_cons (pe_op op_mul (pv 4) (pe_op op_add (pe_op op_fdivN (pv 4) pe_int) pe_int)) pa_nil)) pe_int))
      (pss_one (ps_ret (pe_op op_modN (pe_op op_fdivN (pe_op op_modN (pe_callTy call_int1 (by rfl) T.b_int (by decide +kernel) (pa_cons (pe_op op_mul (pv 4) (pe_op op_add (pe_op op_fdivN (pv 4) pe_int) pe_int)) pa_nil)) pe_int) pe_int) (pv 1)))))))))), ?_⟩
    refine ⟨_, rfl, _, _, rfl, rfl, _, rfl, ?_⟩
    have pl0 : Pl H p l := ⟨a, r, sd, c, ns, hp, hl, ha, hr0⟩
    have nlp : l ≠ p := fun e => by rw [e, hp] at hl; cases hl
    by_cases e : m < 2
    · exact ifT (decide_eq_true e) (k 0 H (Int.le_refl _) (.inr ⟨e, rfl⟩) (fun _ _ h _ => h) pl0)
    refine ifF (decide_eq_false e) ?_
    refine ⟨_, rfl, p, _, rfl, get_many hp, _, _, rfl, rfl, _, rfl, p, _, rfl, dput_many hp _, ?_⟩
    have hp1 : upd H p (bag l a r sd (c + 1)) p = some (bag l a r sd (c + 1)) := upd_same
    have hl1 : upd H p (bag l a r sd (c + 1)) l = some (.lst (ns.map V.int)) := by rw [L2.upd_ne nlp]; exact hl
    have b1 : But p H (upd H p (bag l a r sd (c + 1))) := fun b o hb n => by rw [L2.upd_ne n]; exact hb
    revert hp1 hl1 b1
    generalize upd H p (bag l a r sd (c + 1)) = H1
    intro hp1 hl1 b1
    have upL : ∀ {G : Hp} {o : HO}, G l = some (.lst (ns.map V.int)) → upd G p o l = some (.lst (ns.map V.int)) := fun h => by rw [L2.upd_ne nlp]; exact h
    refine ⟨fun σ H' => ∃ y2 a r sd, σ = [some (.ref p), some (.int m), y2, none, none] ∧ H' p = some (bag l a r sd (c + 1)) ∧ H' l = some (.lst (ns.map V.int)) ∧ 0 ≤ a ∧ 0 ≤ r ∧ But p H H', ?_, ?_⟩
    · refine ⟨_, rfl, p, _, rfl, get_rest hp1, rfl, _, rfl, ?_⟩
      by_cases e0 : r = 0
      · refine ifT (decide_eq_true (congrArg V.int e0)) ?_
        refine ⟨_, rfl, p, _, rfl, get_at hp1, _, rfl, p, _, rfl, get_cells hp1, l, _, rfl, .inl (.inl (.inl hl1)), _, _, rfl, rfl, _, rfl, ?_⟩
        by_cases e1 : a < ((ns.map V.int).length : Int)
        · refine ifT (decide_eq_true e1) ?_
          obtain ⟨j, rfl⟩ := Int.eq_ofNat_of_zero_le ha
          have hj : j < ns.length := by rw [List.length_map] at e1; omega
          have hz : ns[j]? = some ns[j] := List.getElem?_eq_getElem hj
          refine ⟨_, rfl, p, _, rfl, get_cells hp1, _, rfl, p, _, rfl, get_at hp1, l, _, _, .int ns[j], rfl, rfl, .inl (.inl hl1), atI_nat (j := j) (by rw [List.getElem?_map, hz]; rfl), ?_⟩
          refine ⟨_, rfl, p, _, rfl, get_at hp1, _, _, rfl, rfl, _, rfl, p, _, rfl, dput_at hp1 _, ?_⟩
          have hp2 : upd H1 p (bag l ((j : Int) + 1) r sd (c + 1)) p = some (bag l ((j : Int) + 1) r sd (c + 1)) := upd_same
          have hl2 : upd H1 p (bag l ((j : Int) + 1) r sd (c + 1)) l = some (.lst (ns.map V.int)) := upL hl1
          have b2 : But p H (upd H1 p (bag l ((j : Int) + 1) r sd (c + 1))) := b1.upd
          revert hp2 hl2 b2
          generalize upd H1 p (bag l ((j : Int) + 1) r sd (c + 1)) = H2
          intro hp2 hl2 b2
          refine ⟨_, rfl, _, _, rfl, rfl, ⟨by decide, by decide, by decide⟩, _, _, rfl, rfl, _, rfl, ?_⟩
          by_cases e2 : (10 : Int) ^ (18 : Int).toNat ≤ ns[j]
          · refine ifT (decide_eq_true e2) ?_
            refine ⟨_, rfl, _, rfl, p, _, rfl, dput_rest hp2 _, _, _, _, _, rfl, upd_same, upL hl2, by omega, ?_, b2.upd⟩
            exact Int.le_trans (by decide) e2
          · refine ifF (decide_eq_false e2) ?_
            exact ⟨_, rfl, p, _, rfl, get_seed hp2, _, _, rfl, rfl, .inr ⟨by decide, by decide⟩, _, rfl, .inl ⟨_, rfl, _, _, rfl, rfl, (by show (2147483399 : Int) ≠ 0; decide), _, _, rfl, rfl, _, _, rfl, rfl, .inl ⟨_, rfl, _, _, rfl, rfl, (by show (2147483647 : Int) ≠ 0; decide), _, rfl, p, _, rfl, dput_seed hp2 _, _, _, _, _, rfl, upd_same, upL hl2, by omega, hr0, b2.upd⟩⟩⟩
        · exact ifF (decide_eq_false e1) ⟨_, _, _, _, rfl, hp1, hl1, ha, hr0, b1⟩
      · exact ifF (decide_eq_false fun z => e0 (V.int.inj z)) ⟨_, _, _, _, rfl, hp1, hl1, ha, hr0, b1⟩
    · rintro _ H2 ⟨y2, a, r, sd, rfl, hp2, hl2, ha2, hr2, b2⟩
      refine ⟨_, rfl, p, _, rfl, get_rest hp2, _, _, rfl, rfl, _, rfl, ?_⟩
      by_cases e3 : 0 < r
      · refine ifT (decide_eq_true e3) ?_
        refine ⟨_, rfl, p, _, rfl, get_rest hp2, .inl ⟨r, rfl, _, rfl, _, _, rfl, rfl, (by show m ≠ 0; omega), ?_⟩⟩
        refine ⟨_, rfl, p, _, rfl, get_rest hp2, _, rfl, _, _, rfl, rfl, ⟨(by omega), (by omega)⟩, _, rfl, p, _, rfl, dput_rest hp2 _, _, rfl, ?_⟩
        exact k _ _ (fmod_lt (by omega)).1 (.inl (fmod_lt (by omega)).2) b2.upd ⟨_, _, _, _, ns, upd_same, upL hl2, ha2, Int.fdiv_nonneg (by omega) (by omega)⟩
      · refine ifF (decide_eq_false e3) ?_
        refine ⟨_, rfl, p, _, rfl, get_seed hp2, _, rfl, p, _, rfl, get_many hp2, _, _, rfl, rfl, .inl ⟨by decide, by decide⟩, _, _, rfl, rfl, _, _, rfl, rfl, _, _, rfl, rfl, .inr ⟨by decide, by decide⟩, .inl ⟨_, rfl, _, _, rfl, rfl, (by show (2147483647 : Int) ≠ 0; decide), ?_⟩⟩
        refine ⟨_, rfl, _, rfl, _, _, rfl, rfl, ⟨by decide, by decide⟩, _, _, rfl, rfl, _, _, rfl, rfl, .inl lt64b, .inl ⟨_, rfl, _, _, rfl, rfl, (by show (2147483647 : Int) ≠ 0; decide), ?_⟩⟩
        refine ⟨_, rfl, _, rfl, _, _, rfl, rfl, ⟨by decide, by decide⟩, _, _, rfl, rfl, _, _, rfl, rfl, .inl lt64b, .inl ⟨_, rfl, _, _, rfl, rfl, (by show (2147483399 : Int) ≠ 0; decide), _, _, rfl, rfl, ⟨by decide, by decide⟩, _, rfl, _, _, rfl, rfl, (by show m ≠ 0; omega), ?_⟩⟩
        exact k _ _ (fmod_lt (by omega)).1 (.inl (fmod_lt (by omega)).2) b2 ⟨_, _, _, _, ns, hp2, hl2, ha2, hr2⟩
end
end Op
namespace Op
open PySem L2 PyProof.Rows
/-! ### drawn words -/
def wd (pre : List Nat) (c : Nat) : Str := ⟨(pre ++ [97 + c]).toArray⟩
def sh (pre : List Nat) (c j : Nat) : Str := wd pre ((c + j) % 26)
theorem wd_len (pre : List Nat) (c : Nat) : (wd pre c).length = pre.length + 1 := by
  show ((pre ++ [97 + c]).toArray).size = _
  rw [List.size_toArray, List.length_append]
  rfl
theorem letter_mem : ∀ x : Nat, 97 ≤ x → x < 123 → x ∈ letters.cps.toList := by
  have h : ∀ j : Nat, j < 26 → 97 + j ∈ letters.cps.toList := by decide +kernel
  intro x h1 h2
  have := h (x - 97) (by omega)
  rw [show 97 + (x - 97) = x by omega] at this
  exact this
theorem wd_word {pre : List Nat} {c : Nat} (h : ∀ x ∈ pre, 97 ≤ x ∧ x < 123) (hc : c < 26) (hl : pre.length + 1 ≤ 8) : isWordS (wd pre c) = true := by
  unfold isWordS
  rw [wd_len, decide_eq_true ⟨by omega, hl⟩, Bool.true_and]
  refine List.all_eq_true.mpr fun x hx => decide_eq_true ?_
  have hx : x ∈ pre ++ [97 + c] := by
    have : (wd pre c).cps.toList = pre ++ [97 + c] := List.toList_toArray
    rw [this] at hx
    exact hx
  rcases List.mem_append.mp hx with hx | hx
  · exact letter_mem x (h x hx).1 (h x hx).2
  · rw [List.mem_singleton.mp hx]
    exact letter_mem _ (by omega) (by omega)
theorem letter_at : ∀ j : Nat, j < 26 → letters.cps.toList[j]? = some (97 + j) := by decide +kernel
theorem find_letter : ∀ c : Nat, c < 26 → Txt.find letters ⟨#[97 + c]⟩ = (c : Int) := by decide +kernel
theorem wd_last (pre : List Nat) (c : Nat) : cutS (wd pre c) (some ((pre.length : Nat) : Int)) none = ⟨#[97 + c]⟩ := by
  unfold cutS
  rw [wd_len, HT.sIx_nat, HT.sIx_none, Nat.min_eq_left (by omega)]
  have : (wd pre c).cps.toList = pre ++ [97 + c] := List.toList_toArray
  rw [this, List.drop_left' rfl]
  rw [show pre.length + 1 - pre.length = 1 by omega]
  rfl
theorem wd_init (pre : List Nat) (c d : Nat) : cutS (wd pre c) none (some ((pre.length : Nat) : Int)) ++ (⟨#[97 + d]⟩ : Str) = wd pre d := by
  unfold cutS
  rw [wd_len, HT.sIx_nat, HT.sIx_none, Nat.min_eq_left (by omega)]
  have : (wd pre c).cps.toList = pre ++ [97 + c] := List.toList_toArray
  rw [this, List.drop_zero, Nat.sub_zero, List.take_left' rfl]
  show (⟨pre.toArray ++ #[97 + d]⟩ : Str) = ⟨(pre ++ [97 + d]).toArray⟩
  congr 1
  simp
theorem wd_inj {pre : List Nat} {c d : Nat} (h : wd pre c = wd pre d) : c = d := by
  have h1 : (wd pre c).cps.toList = (wd pre d).cps.toList := by rw [h]
  have e1 : (wd pre c).cps.toList = pre ++ [97 + c] := List.toList_toArray
  have e2 : (wd pre d).cps.toList = pre ++ [97 + d] := List.toList_toArray
  rw [e1, e2] at h1
  have := List.append_cancel_left h1
  injection this with h2
  omega
theorem sh_zero {pre : List Nat} {c : Nat} (h : c < 26) : sh pre c 0 = wd pre c := by
  unfold sh
  rw [Nat.add_zero, Nat.mod_eq_of_lt h]
theorem sh_next (pre : List Nat) (c j : Nat) : wd pre (((c + j) % 26 + 1) % 26) = sh pre c (j + 1) := by
  unfold sh
  congr 1
  omega
theorem nd_le : ∀ {l T : List Str}, l.Nodup → (∀ x ∈ l, x ∈ T) → l.length ≤ T.length
  | [], T, _, _ => Nat.zero_le _
  | x :: l, T, hn, hs => by
    rw [List.nodup_cons] at hn
    have hx : x ∈ T := hs x List.mem_cons_self
    have h1 := nd_le (l := l) (T := T.erase x) hn.2 fun y hy => by
      have hne : y ≠ x := fun e => hn.1 (e ▸ hy)
      exact (List.mem_erase_of_ne hne).mpr (hs y (List.mem_cons_of_mem _ hy))
    rw [List.length_erase_of_mem hx] at h1
    have : 0 < T.length := List.length_pos_of_mem hx
    rw [List.length_cons]
    omega
theorem sh_free {pre : List Nat} {c : Nat} {T : List Str} (h : ∀ j, j < 26 → sh pre c j ∈ T) : 26 ≤ T.length := by
  have h1 : ((List.range 26).map (sh pre c)).Nodup := by
    refine List.pairwise_map.mpr (List.Pairwise.imp_of_mem ?_ List.nodup_range)
    intro a b ha hb hne e
    have ha := List.mem_range.mp ha
    have hb := List.mem_range.mp hb
    have := wd_inj e
    omega
  have := nd_le h1 fun x hx => by
    obtain ⟨j, hj, rfl⟩ := List.mem_map.mp hx
    exact h j (List.mem_range.mp hj)
  rw [List.length_map, List.length_range] at this
  exact this
/-- how far the shifts are: j of them were taken -/
def ShI (pre : List Nat) (c : Nat) (T : List Str) (i : Nat) (z : Str) : Prop := ∃ j, j ≤ i ∧ z = sh pre c j ∧ (∀ k, k < j → sh pre c k ∈ T) ∧ (j < i → z ∉ T)
theorem ShI.start {pre : List Nat} {c : Nat} {T : List Str} (h : c < 26) : ShI pre c T 0 (wd pre c) := ⟨0, Nat.le_refl _, (sh_zero h).symm, fun k hk => absurd hk (Nat.not_lt_zero _), fun hk => absurd hk (Nat.lt_irrefl _)⟩
theorem ShI.stay {pre : List Nat} {c i : Nat} {T : List Str} {z : Str} (h : ShI pre c T i z) (hz : z ∉ T) : ShI pre c T (i + 1) z := by
  obtain ⟨j, h1, h2, h3, h4⟩ := h
  exact ⟨j, by omega, h2, h3, fun _ => hz⟩
theorem ShI.go {pre : List Nat} {c i : Nat} {T : List Str} {z : Str} (h : ShI pre c T i z) (hz : z ∈ T) : ∃ d, d < 26 ∧ z = wd pre d ∧ ShI pre c T (i + 1) (wd pre ((d + 1) % 26)) := by
  obtain ⟨j, h1, h2, h3, h4⟩ := h
  have hj : j = i := by
    rcases Nat.lt_or_ge j i with e | e
    · exact absurd hz (h4 e)
    · omega
  subst hj
  refine ⟨(c + j) % 26, Nat.mod_lt _ (by decide), h2, j + 1, by omega, sh_next pre c j, fun k hk => ?_, fun hk => absurd hk (Nat.lt_irrefl _)⟩
  rcases Nat.lt_or_ge k j with e | e
  · exact h3 k e
  · rw [show k = j by omega, ← h2]
    exact hz
theorem ShI.done {pre : List Nat} {c : Nat} {T : List Str} {z : Str} (h : ShI pre c T 26 z) (hT : T.length < 26) : z ∉ T ∧ ∃ d, d < 26 ∧ z = wd pre d := by
  obtain ⟨j, h1, h2, h3, h4⟩ := h
  refine ⟨?_, (c + j) % 26, Nat.mod_lt _ (by decide), h2⟩
  rcases Nat.lt_or_ge j 26 with e | e
  · exact h4 e
  · have := sh_free (pre := pre) (c := c) (T := T) fun k hk => h3 k (by omega)
    omega
theorem join_letters : ∀ cs : List Nat, Txt.join "" (cs.map fun c => (⟨#[c]⟩ : Str)) = ⟨cs.toArray⟩ := by
  intro cs
  rw [show Txt.join "" (cs.map fun c => (⟨#[c]⟩ : Str)) = Str.join "" (cs.map fun c => (⟨#[c]⟩ : Str)) from StrLaws.glued_eq_join _ _]
  induction cs with
  | nil => rfl
  | cons x r ih =>
    cases r with
    | nil => rfl
    | cons y r =>
      show (⟨#[x]⟩ : Str) ++ "" ++ Str.join "" ((y :: r).map fun c => (⟨#[c]⟩ : Str)) = _
      rw [ih]
      show (⟨#[x] ++ #[] ++ (y :: r).toArray⟩ : Str) = ⟨(x :: y :: r).toArray⟩
      congr 1
      simp
theorem split_last : ∀ {cs : List Nat}, 1 ≤ cs.length → (∀ x ∈ cs, 97 ≤ x ∧ x < 123) → ∃ pre c, (⟨cs.toArray⟩ : Str) = wd pre c ∧ c < 26 ∧ (∀ x ∈ pre, 97 ≤ x ∧ x < 123) ∧ pre.length + 1 = cs.length := by
  intro cs hl h
  have hne : cs ≠ [] := fun e => by rw [e] at hl; simp at hl
  have e := List.dropLast_concat_getLast hne
  have hg := h _ (List.getLast_mem hne)
  refine ⟨cs.dropLast, cs.getLast hne - 97, ?_, by omega, fun x hx => h x (List.dropLast_subset cs hx), ?_⟩
  · unfold wd
    rw [show 97 + (cs.getLast hne - 97) = cs.getLast hne by omega, e]
  · rw [List.length_dropLast]
    omega
end Op
namespace L2
theorem ix_or {X : Cx} {r1 r2 : R2} (h1 : IxR X r1) (h2 : IxR X r2) : IxR X (fun x y H Q => r1 x y H Q ∨ r2 x y H Q) := by
  intro value slice pins s σ H x y v u Q I rx ry h hs
  rcases h with h | h
  · exact h1 value slice pins s σ H x y v u Q I rx ry h hs
  · exact h2 value slice pins s σ H x y v u Q I rx ry h hs
end L2
namespace Op
open PySem L2 PyProof.Rows
theorem DpAll.at {K : PySem.W.Frag} {H : Hp} {vs : List V} {ds : List PyData} {i : Nat} {v : V} {d : PyData} (h : L2.DpAll K H vs ds) (hv : vs[i]? = some v) (hd : ds[i]? = some d) : Dp K H v d := by
  obtain ⟨d', h1, h2⟩ := h.get hv
  rw [hd] at h1
  cases h1
  exact h2
/-! ### the same data -/
def smK : Nat → PyData → Prop
  | 0, _ => False
  | n + 1, .tuple ds => ds.length ≤ 10000 ∧ ∀ d ∈ ds, smK n d
  | n + 1, .list ds => ds.length ≤ 10000 ∧ ∀ d ∈ ds, smK n d
  | n + 1, .none => True
  | n + 1, .bool _ => True
  | n + 1, .int _ => True
  | n + 1, .str s => s.length ≤ 100000
  | n + 1, .dict _ => False
def spSame (K : PySem.W.Frag) (n : Nat) : Sp := fun vs H Q _ => ∃ (v u : V) (d : PyData), vs = [v, u] ∧ Dp K H v d ∧ Dp K H u d ∧ smK n d ∧ ∀ H', Same H H' → Q (.bl true) H'
theorem kit_seq {K : PySem.W.Frag} (d : PyData) : PySem.W.kitAny K (.type (tyN d)) [.type "tuple", .type "list"] = some (isTup d || isList d) := by
  unfold PySem.W.kitAny
  rw [kit_tuple]
  cases h : isTup d with
  | true => rfl
  | false =>
    show PySem.W.kitAny K (.type (tyN d)) [.type "list"] = _
    unfold PySem.W.kitAny
    rw [kit_list]
    cases isList d <;> rfl
def isLf : PyData → Bool
  | .int _ => true
  | .bool _ => true
  | .str _ => true
  | _ => false
theorem kit_intstr {K : PySem.W.Frag} (d : PyData) (h : isLf d = true) : PySem.W.kitAny K (.type (tyN d)) [.type "int", .type "str"] = some true := by
  unfold PySem.W.kitAny
  rw [kit_int]
  cases d with
  | int _ => rfl
  | bool _ => rfl
  | str _ =>
    show PySem.W.kitAny K (.type "str") [.type "str"] = _
    unfold PySem.W.kitAny
    rw [kit_ty (show kitB "str" "str" = some true by decide +kernel)]
  | _ => cases h
section
variable {P : Program} {w : World} {K : PySem.W.Frag} {mg : Str → Option Value} {base : Heap}
theorem sc__law_same : FnScope ["_law_told", "_law_due", "_law_k"] ["_law_told", "_law_due"] (defScope s__law_same) := ⟨rfl, rfl, rfl, by decide +kernel, rfl, by decide +kernel, by decide +kernel⟩
theorem ok_same {f : Addr} {fd : FuncData} {n : Nat} (F : Fun K "_law_same" "_law_same" s__law_same f fd) (T : Txt mg) (c__law_same : Cal P w K mg base CX0 (n + 1) "_law_same" ["_law_told", "_law_due"] (spSame K n)) :
    FnOk P w K mg base CX0 (n + 2) f fd ["_law_told", "_law_due"] (spSame K (n + 1)) := by
  refine F.ok sc__law_same (fun vs H Q E h => ?_) (fun cdv A outer s H vs Q E hr h => ?_)
  · obtain ⟨v, u, d, rfl, _⟩ := h
    rfl
  · obtain ⟨v, u, d, rfl, hv, hu, hd, k⟩ := h
    refine ⟨_, (pss_cons (ps_if (pt_val (pe_callB call_isiT (by rfl) T.b_isinstance (by decide +kernel) (pa_cons (pv 1) (pa_cons (pe_tup (pa_cons (pe_bltn (v := .ty "tuple") (by rfl) T.b_tuple (by decide +kernel) rfl) (pa_cons (pe_bltn (v := .ty "list") (by rfl) T.b_list (by decide +kernel) rfl) pa_nil))) pa_nil)))) (pss_cons (ps_if (PW.pt (pw_or (pt_not (pt_val (pe_callB call_isiT (by rfl) T.b_isinstance (by decide +kernel) (pa_cons (pv 0) (pa_cons (pe_tup (pa_cons (pe_bltn (v := .ty "tuple") (by rfl) T.b_tuple (by decide +kernel) rfl) (pa_cons (pe_bltn (v := .ty "list") (by rfl) T.b_list (by decide +kernel) rfl) pa_nil))) pa_nil))))) (pw_or1 (pt_cmpR op_ne (pe_callB call_len_seq (by rfl) T.b_len (by decide +kernel) (pa_cons (pv 0) pa_nil)) (pe_callB call_len_seq (by rfl) T.b_len (by decide +kernel) (pa_cons (pv 1) pa_nil)) (nomark _))))) (pss_one (ps_ret pe_bl)) pss_nil)
      (pss_cons (ps_if (pt_cmpR op_ne (pe_callB call_isi (by rfl) T.b_isinstance (by decide +kernel) (pa_cons (pv 0) (pa_cons (pe_bltn (v := .ty "tuple") (by rfl) T.b_tuple (by decide +kernel) rfl) pa_nil))) (pe_callB call_isi (by rfl) T.b_isinstance (by decide +kernel) (pa_cons (pv 1) (pa_cons (pe_bltn (v := .ty "tuple") (by rfl) T.b_tuple (by decide +kernel) rfl) pa_nil))) (nomark _)) (pss_one (ps_ret pe_bl)) pss_nil)
      (pss_one (ps_ret (pe_cmpR op_notIn_seq pe_bl (pe_lc (own := [("_law_k", 2)]) (g := gName 2) (tt := tYes) rfl sc__law_same.nd (pi_range1 (by rfl) T.b_range (pa_cons (pe_callB call_len_seq (by rfl) T.b_len (by decide +kernel) (pa_cons (pv 1) pa_nil)) pa_nil)) (blkOk_by (own := [("_law_k", 2)]) (N := ["_law_told", "_law_due", "_law_k"]) (sc := defScope s__law_same) (by decide +kernel)) (fun _ _ _ _ _ => (pg_name (i := 2) sc__law_same.nd rfl (.inl rfl))) (fun _ _ _ _ _ => pts_nil) (fun _ _ _ _ _ => (pe_cal c__law_same (hr.mono (by omega)) rfl pass0 (pa_cons (pe_ix (ix_or (r1 := rIxL K) (r2 := rIxT K) ix_list ix_tup) (pv 0) (pv 2) (fun _ _ => rfl)) (pa_cons (pe_ix (ix_or (r1 := rIxL K) (r2 := rIxT K) ix_list ix_tup) (pv 1) (pv 2) (fun _ _ => rfl)) pa_nil))))) (by rfl)))))) pss_nil)
      (pss_cons (ps_if (PW.pt (pw_or (pt_cmpR op_isN (pv 1) pe_non (nomark _)) (pw_or1 (pt_cmpR op_isN (pv 0) pe_non (nomark _))))) (pss_one (ps_ret (pe_and (pe_cmpR op_isN (pv 1) pe_non (nomark _)) (pe_one (pe_cmpR op_isN (pv 0) pe_non (nomark _)))))) pss_nil)
      (pss_cons (ps_if (pt_cmpR op_ne (pe_callB call_isi (by rfl) T.b_isinstance (by decide +kernel) (pa_cons (pv 0) (pa_cons (pe_bltn (v := .ty "bool") (by rfl) T.b_bool (by decide +kernel) rfl) pa_nil))) (pe_callB call_isi (by rfl) T.b_isinstance (by decide +kernel) (pa_cons (pv 1) (pa_cons (pe_bltn (v := .ty "bool") (by rfl) T.b_bool (by decide +kernel) rfl) pa_nil))) (nomark _)) (pss_one (ps_ret pe_bl)) pss_nil)
      (pss_cons (ps_if (pt_cmpR op_ne (pe_callB call_isi (by rfl) T.b_isinstance (by decide +kernel) (pa_cons (pv 0) (pa_cons (pe_bltn (v := .ty "str") (by rfl) T.b_str (by decide +kernel) rfl) pa_nil))) (pe_callB call_isi (by rfl) T.b_isinstance (by decide +kernel) (pa_cons (pv 1) (pa_cons (pe_bltn (v := .ty "str") (by rfl) T.b_str (by decide +kernel) rfl) pa_nil))) (nomark _)) (pss_one (ps_ret pe_bl)) pss_nil)
      (pss_one (ps_ret (pe_and (pe_callB call_isiT (by rfl) T.b_isinstance (by decide +kernel) (pa_cons (pv 0) (pa_cons (pe_tup (pa_cons (pe_bltn (v := .ty "int") (by rfl) T.b_int (by decide +kernel) rfl) (pa_cons (pe_bltn (v := .ty "str") (by rfl) T.b_str (by decide +kernel) rfl) pa_nil))) pa_nil))) (pe_one (pe_cmpR op_eq (pv 0) (pv 1) (nomark _)))))))))), ?_⟩
    refine ⟨_, rfl, sz2 _ _, fun t1 g1 => ?_⟩
    have s1 := Same.new (o := .tup [.ty "tuple", .ty "list"]) g1
    have l1 := at_new (o := .tup [.ty "tuple", .ty "list"]) g1
    revert s1 l1
    generalize upd _ t1 _ = H1
    intro s1 l1
    have hv1 := hv.mono s1
    have hu1 := hu.mono s1
    refine ⟨_, t1, _, _, _, _, rfl, l1, .cons (.ty _) (.cons (.ty _) .nil), ty_dp hu1, kit_seq d, _, rfl, ?_⟩
    have seq : ∀ ds : List PyData, (d = .tuple ds ∨ d = .list ds) → ∀ G, Same H G → ∃ xs ys pv pu, v = .ref pv ∧ u = .ref pu ∧ (SqL K G pv xs ∨ SqT K G pv xs) ∧ (SqL K G pu ys ∨ SqT K G pu ys) ∧ DpAll K G xs ds ∧ DpAll K G ys ds := by
      rintro ds (rfl | rfl) G sG
      · cases hv.mono sG with
        | tup h1 h2 => cases hu.mono sG with
          | tup h3 h4 => exact ⟨_, _, _, _, rfl, rfl, .inr h1, .inr h3, h2, h4⟩
      · cases hv.mono sG with
        | lst h1 h2 => cases hu.mono sG with
          | lst h3 h4 => exact ⟨_, _, _, _, rfl, rfl, .inl h1, .inl h3, h2, h4⟩
    cases hseq : (isTup d || isList d) with
    | true =>
      refine ifT rfl ?_
      obtain ⟨ds, hds⟩ : ∃ ds, d = .tuple ds ∨ d = .list ds := by
        cases d with
        | tuple ds => exact ⟨ds, .inl rfl⟩
        | list ds => exact ⟨ds, .inr rfl⟩
        | _ => cases hseq
      have hsm : ds.length ≤ 10000 ∧ ∀ e ∈ ds, smK n e := by
        rcases hds with rfl | rfl <;> exact hd
      obtain ⟨xs, ys, pv', pu', rfl, rfl, _⟩ := seq ds hds H (Same.refl _)
      refine ⟨_, rfl, sz2 _ _, fun t2 g2 => ?_⟩
      have s2 := Same.new (o := .tup [.ty "tuple", .ty "list"]) g2
      have l2 := at_new (o := .tup [.ty "tuple", .ty "list"]) g2
      revert s2 l2
      generalize upd _ t2 _ = H2
      intro s2 l2
      have s02 := s1.trans s2
      have hv2 := hv.mono s02
      have hu2 := hu.mono s02
      obtain ⟨xs, ys, pv', pu', e1, e2, q1, q2, a1, a2⟩ := seq ds hds H2 s02
      cases e1
      cases e2
      refine ⟨_, t2, _, _, _, _, rfl, l2, .cons (.ty _) (.cons (.ty _) .nil), ty_dp hv2, kit_seq d, _, rfl, ?_⟩
      rw [hseq]
      have hl1 : xs.length = ds.length := a1.len
      have hl2 : ys.length = ds.length := a2.len
      refine ifF rfl ⟨_, rfl, _, _, rfl, q1, _, rfl, _, _, rfl, q2, rfl, _, rfl, ifF ?_ ?_⟩
      · rw [hl1, hl2]
        simp
      refine ⟨_, rfl, _, _, _, _, _, rfl, .ty _, ty_dp hv2, kit_tuple d, _, rfl, _, _, _, _, _, rfl, .ty _, ty_dp hu2, kit_tuple d, rfl, _, rfl, ifF ?_ ?_⟩
      · simp
      refine ⟨_, rfl, _, _, rfl, q2, (ys.length : Int), rfl, by omega, by omega, fun D hD => ?_⟩
      rw [Int.toNat_natCast]
      refine lc_it (walk_range (lo := 0) (n := ys.length)) (fun i H' => H' D = some (.lst (List.replicate i (.bl true))) ∧ Same H2 H') ⟨upd_same, Same.new hD⟩ (fun _ _ _ _ => trivial) ?_ ?_
      · rintro i x H5 H4 hi ⟨hD4, s4⟩ ⟨rfl, rfl⟩
        have hx : xs[i]? = some xs[i] := List.getElem?_eq_getElem (by omega)
        have hy : ys[i]? = some ys[i] := List.getElem?_eq_getElem hi
        have hdi : ds[i]? = some ds[i] := List.getElem?_eq_getElem (by omega)
        have zi : (0 : Int) + (i : Int) = i := by omega
        have at1 : atI xs (0 + (i : Int)) = some xs[i] := by rw [zi]; exact atI_nat hx
        have at2 : atI ys (0 + (i : Int)) = some ys[i] := by rw [zi]; exact atI_nat hy
        have fin : ∃ (v u : V) (d : PyData), [xs[i], ys[i]] = [v, u] ∧ Dp K H4 v d ∧ Dp K H4 u d ∧ smK n d ∧ ∀ H', Same H4 H' → ∃ acc, H' D = some (.lst acc) ∧ acc.length < sizeLine ∧ upd H' D (.lst (acc ++ [.bl true])) D = some (.lst (List.replicate (i + 1) (.bl true))) ∧ Same H2 (upd H' D (.lst (acc ++ [.bl true]))) := by
          refine ⟨_, _, ds[i], rfl, (DpAll.at a1 hx hdi).mono s4, (DpAll.at a2 hy hdi).mono s4, hsm.2 _ (List.mem_of_getElem? hdi), fun H' s' => ⟨_, s' _ _ hD4, lt_sz (by rw [List.length_replicate]; omega), ?_, fun b o hb => ?_⟩⟩
          · rw [upd_same, List.replicate_succ']
          · rw [L2.upd_ne (ne_of_none hb hD)]
            exact s' _ _ (s4 b o hb)
        refine ⟨rfl, _, rfl, _, rfl, ?_⟩
        rcases q1 with q1 | q1 <;> rcases q2 with q2 | q2
        · exact .inl ⟨_, _, _, _, rfl, rfl, q1.mono s4, at1, _, rfl, _, rfl, .inl ⟨_, _, _, _, rfl, rfl, q2.mono s4, at2, fin⟩⟩
        · exact .inl ⟨_, _, _, _, rfl, rfl, q1.mono s4, at1, _, rfl, _, rfl, .inr ⟨_, _, _, _, rfl, rfl, q2.mono s4, at2, fin⟩⟩
        · exact .inr ⟨_, _, _, _, rfl, rfl, q1.mono s4, at1, _, rfl, _, rfl, .inl ⟨_, _, _, _, rfl, rfl, q2.mono s4, at2, fin⟩⟩
        · exact .inr ⟨_, _, _, _, rfl, rfl, q1.mono s4, at1, _, rfl, _, rfl, .inr ⟨_, _, _, _, rfl, rfl, q2.mono s4, at2, fin⟩⟩
      · rintro H4 ⟨hD4, s4⟩
        refine ⟨D, _, rfl, .inl (.inl (.inl hD4)), rfl, ?_, ?_⟩
        · exact List.all_eq_true.mpr fun v hv => by rw [(List.mem_replicate.mp hv).2]; rfl
        · have : inV (.bl false) (List.replicate ys.length (.bl true)) = false := by
            unfold inV
            refine List.any_eq_false.mpr fun v hv => ?_
            rw [(List.mem_replicate.mp hv).2]
            decide
          rw [if_pos rfl, this]
          exact k H4 (s02.trans s4)
    | false =>
      refine ifF rfl ?_
      by_cases hnon : d = .none
      · subst hnon
        cases hv
        cases hu
        exact ⟨_, rfl, rfl, _, rfl, ifT rfl (ifT rfl ⟨_, rfl, rfl, _, rfl, ifT rfl ⟨_, rfl, rfl, k H1 s1⟩⟩)⟩
      · have leaf : isLf d = true := by
          cases d with
          | none => exact (hnon rfl).elim
          | bool b => exact rfl
          | int i => exact rfl
          | str z => exact rfl
          | tuple ds => cases hseq
          | list ds => cases hseq
          | dict ds => exact hd.elim
        have f1 := leaf
        have nv : decide (v = .non) = false := decide_eq_false fun e => by
          subst e
          cases hv
          exact hnon rfl
        have nu : decide (u = .non) = false := decide_eq_false fun e => by
          subst e
          cases hu
          exact hnon rfl
        refine ⟨_, rfl, rfl, _, rfl, ifF nu ⟨_, rfl, rfl, _, rfl, ifF nv ?_⟩⟩
        refine ⟨_, rfl, _, _, _, _, _, rfl, .ty _, ty_dp hv1, kit_bool d, _, rfl, _, _, _, _, _, rfl, .ty _, ty_dp hu1, kit_bool d, rfl, _, rfl, ifF ?_ ?_⟩
        · simp
        refine ⟨_, rfl, _, _, _, _, _, rfl, .ty _, ty_dp hv1, kit_str d, _, rfl, _, _, _, _, _, rfl, .ty _, ty_dp hu1, kit_str d, rfl, _, rfl, ifF ?_ ?_⟩
        · simp
        refine ⟨_, rfl, sz2 _ _, fun t2 g2 => ?_⟩
        have s2 := Same.new (o := .tup [.ty "int", .ty "str"]) g2
        have l2 := at_new (o := .tup [.ty "int", .ty "str"]) g2
        revert s2 l2
        generalize upd _ t2 _ = H2
        intro s2 l2
        refine ⟨_, t2, _, _, _, _, rfl, l2, .cons (.ty _) (.cons (.ty _) .nil), ty_dp (hv1.mono s2), kit_intstr d f1, _, rfl, ifT rfl ?_⟩
        have fin := k H2 (s1.trans s2)
        cases d with
        | none => cases f1
        | bool b =>
          cases hv
          cases hu
          refine ⟨_, rfl, _, rfl, rfl, ?_⟩
          rw [decide_eq_true rfl]
          exact fin
        | int i =>
          cases hv
          cases hu
          refine ⟨_, rfl, _, rfl, rfl, ?_⟩
          rw [decide_eq_true rfl]
          exact fin
        | str z =>
          cases hv
          cases hu
          refine ⟨_, rfl, _, rfl, rfl, ?_⟩
          rw [decide_eq_true rfl]
          exact fin
        | _ => cases f1
theorem ok_sameN {f : Addr} {fd : FuncData} (F : Fun K "_law_same" "_law_same" s__law_same f fd) (T : Txt mg) (g1 : mg "_law_same" = some (.ref f)) (k1 : PySem.W.keepIn K (.ref f) = true)
    (b1 : Binds K fd ["_law_told", "_law_due"] []) : ∀ n : Nat, Cal P w K mg base CX0 (n + 1) "_law_same" ["_law_told", "_law_due"] (spSame K n)
  | 0 => ⟨f, fd, g1, k1, b1, F.ok sc__law_same (fun vs H Q E h => by obtain ⟨v, u, d, rfl, _⟩ := h; rfl) (fun cdv A outer s H vs Q E hr h => by obtain ⟨v, u, d, _, _, _, hk, _⟩ := h; exact hk.elim)⟩
  | n + 1 => ⟨f, fd, g1, k1, b1, ok_same F T (ok_sameN F T g1 k1 b1 n)⟩
end
end Op
namespace Op
open PySem L2 PyProof.Rows
def spOne (K : PySem.W.Frag) : Sp := fun vs H Q _ => ∃ (p c l : Addr) (zs : List V), vs = [.ref p, .ref l] ∧ Pl H p c ∧ SqL K H l zs ∧ 1 ≤ zs.length ∧ zs.length ≤ 1000 ∧ ∀ z H', z ∈ zs → But p H H' → Pl H' p c → Q z H'
def spWords (K : PySem.W.Frag) : Sp := fun vs H Q _ => ∃ (p pc t : Addr) (n most : Nat) (ts : List Str), vs = [.ref p, .int n, .int most, .ref t] ∧ Pl H p pc ∧ SqL K H t (ts.map V.str) ∧ 1 ≤ most ∧ most ≤ 8 ∧ ts.length + n ≤ 25 ∧
  ∀ (l : Addr) (zs : List Str) H', H l = none → But p H H' → Pl H' p pc → H' l = some (.lst (zs.map V.str)) → zs.length = n → zs.Nodup → (∀ z ∈ zs, isWordS z = true ∧ z ∉ ts) → Q (.ref l) H'
theorem inV_strs (z : Str) : ∀ zs : List Str, inV (.str z) (zs.map V.str) = decide (z ∈ zs)
  | [] => rfl
  | x :: r => by
    have ih := inV_strs z r
    unfold inV at ih ⊢
    rw [List.map_cons, List.any_cons, ih]
    by_cases e : x = z
    · subst e
      rw [show eqV (.str x) (.str x) = true by simp [eqV], decide_eq_true List.mem_cons_self]
      rfl
    · rw [show eqV (.str x) (.str z) = false by simp [eqV, e], Bool.false_or]
      exact decide_eq_decide.mpr ⟨List.mem_cons_of_mem _, fun h => (List.mem_cons.mp h).resolve_left fun q => e q.symm⟩
theorem flat_strs (zs : List Str) : (zs.map V.str).all flatV = true := List.all_eq_true.mpr fun v hv => by
  obtain ⟨z, _, rfl⟩ := List.mem_map.mp hv
  rfl
section
variable {P : Program} {w : World} {K : PySem.W.Frag} {mg : Str → Option Value} {base : Heap}
theorem sc__law_one : FnScope ["_law_bag_here", "_law_items"] ["_law_bag_here", "_law_items"] (defScope s__law_one) := ⟨rfl, rfl, rfl, by decide +kernel, rfl, by decide +kernel, by decide +kernel⟩
theorem ok_one {f : Addr} {fd : FuncData} (F : Fun K "_law_one" "_law_one" s__law_one f fd) (T : Txt mg) (c__law_draw : Cal P w K mg base CX0 1 "_law_draw" ["_law_bag_here", "_law_many"] spD) : FnOk P w K mg base CX0 2 f fd ["_law_bag_here", "_law_items"] (spOne K) := by
  refine F.ok sc__law_one (fun vs H Q E h => ?_) (fun cdv A outer s H vs Q E hr h => ?_)
  · obtain ⟨p, c, l, zs, rfl, _⟩ := h
    rfl
  · obtain ⟨p, c, l, zs, rfl, hp, hl, h1, h2, k⟩ := h
    refine ⟨_, (pss_one (ps_ret (pe_ix ix_list (pv 1) (pe_cal c__law_draw (hr.mono (by omega)) rfl pass0 (pa_cons (pv 0) (pa_cons (pe_callB call_len_seq (by rfl) T.b_len (by decide +kernel) (pa_cons (pv 1) pa_nil)) pa_nil))) (fun _ _ => rfl)))), ?_⟩
    refine ⟨_, rfl, _, rfl, _, rfl, l, _, rfl, .inl hl, p, c, _, rfl, hp, by omega, fun r H' r1 r2 but pl => ?_⟩
    obtain ⟨n, rfl⟩ := Int.eq_ofNat_of_zero_le r1
    have hn : n < zs.length := by omega
    have hz : zs[n]? = some zs[n] := List.getElem?_eq_getElem hn
    exact ⟨l, _, _, zs[n], rfl, rfl, hl.kp (hp.kp but), atI_nat (j := n) hz, k _ H' (List.mem_of_getElem? hz) but pl⟩
theorem sc__law_words : FnScope ["_law_bag_here", "_law_many", "_law_most", "_law_taken", "_law_letters", "_law_words_here", "_law_k", "_law_size", "_law_word", "_law_shift", "_law_last", "_law_place"] ["_law_bag_here", "_law_many", "_law_most", "_law_taken"] (defScope s__law_words) := ⟨rfl, rfl, rfl, by decide +kernel, rfl, by decide +kernel, by decide +kernel⟩
theorem ok_words {f : Addr} {fd : FuncData} (F : Fun K "_law_words" "_law_words" s__law_words f fd) (T : Txt mg) (c__law_draw : Cal P w K mg base CX0 1 "_law_draw" ["_law_bag_here", "_law_many"] spD) : FnOk P w K mg base CX0 2 f fd ["_law_bag_here", "_law_many", "_law_most", "_law_taken"] (spWords K) := by
  refine F.ok sc__law_words (fun vs H Q E h => ?_) (fun cdv A outer s H vs Q E hr h => ?_)
  · obtain ⟨p, pc, t, n, most, ts, rfl, _⟩ := h
    rfl
  · obtain ⟨p, pc, t, n, most, ts, rfl, hp, ht, hm1, hm8, hn, k⟩ := h
    refine ⟨_, (pss_cons (ps_set (i := 4) sc__law_words.nd rfl (.inr rfl) pe_str)
      (pss_cons (ps_set (i := 5) sc__law_words.nd rfl (.inl rfl) (pe_lst pa_nil))
      (pss_cons (ps_for PassesOwn.never rfl (pi_range1 (by rfl) T.b_range (pa_cons (pv 1) pa_nil)) (pg_name (i := 6) sc__law_words.nd rfl (.inl rfl)) (pss_cons (ps_set (i := 7) sc__law_words.nd rfl (.inl rfl) (pe_op op_add pe_int (pe_cal c__law_draw (hr.mono (by omega)) rfl pass0 (pa_cons (pv 0) (pa_cons (pv 2) pa_nil)))))
      (pss_cons (ps_set (i := 8) sc__law_words.nd rfl (.inl rfl) (pe_join pe_str (pe_lc (own := [("_law_place", 11)]) (g := gName 11) (tt := tYes) rfl sc__law_words.nd (pi_range1 (by rfl) T.b_range (pa_cons (pv 7) pa_nil)) (blkOk_by (own := [("_law_place", 11)]) (N := ["_law_bag_here", "_law_many", "_law_most", "_law_taken", "_law_letters", "_law_words_here", "_law_k", "_law_size", "_law_word", "_law_shift", "_law_last", "_law_place"]) (sc := defScope s__law_words) (by decide +kernel)) (fun _ _ _ _ _ => (pg_name (i := 11) sc__law_words.nd rfl (.inl rfl))) (fun _ _ _ _ _ => pts_nil) (fun _ _ _ _ _ => (pe_ix ix_str (pv 4) (pe_cal c__law_draw (hr.mono (by omega)) rfl pass0 (pa_cons (pv 0) (pa_cons pe_int pa_nil))) (fun _ _ => rfl))))))
      (pss_cons (ps_for PassesOwn.never rfl (pi_range1 (by rfl) T.b_range (pa_cons pe_int pa_nil)) (pg_name (i := 9) sc__law_words.nd rfl (.inl rfl)) (pss_one (ps_if (PW.pt (pw_or (pt_cmpR op_in_seq (pv 8) (pv 3) (by rfl)) (pw_or1 (pt_cmpR op_in_seq (pv 8) (pv 5) (by rfl))))) (pss_cons (ps_set (i := 10) sc__law_words.nd rfl (.inl rfl) (pe_m1 PySem.F.slot_str_find PySem.F.type_str_find mt_find (pv 4) (pe_slice sl_str (pv 8) (po_some (pe_op op_sub (pe_callB call_len_str (by rfl) T.b_len (by decide +kernel) (pa_cons (pv 8) pa_nil)) pe_int)) po_none)))
      (pss_one (ps_set (i := 8) sc__law_words.nd rfl (.inl rfl) (pe_op op_add_str (pe_slice sl_str (pv 8) po_none (po_some (pe_op op_sub (pe_callB call_len_str (by rfl) T.b_len (by decide +kernel) (pa_cons (pv 8) pa_nil)) pe_int))) (pe_ix ix_str (pv 4) (pe_op op_modN (pe_op op_add (pv 10) pe_int) pe_int) (fun _ _ => rfl)))))) pss_nil)))
      (pss_one (ps_expr (pe_bm PySem.F.plainAttrs_list PySem.F.slot_list_append PySem.F.type_list_append mt_append (pv 5) (pa_cons (pv 8) pa_nil))))))))
      (pss_one (ps_ret (pv 5)))))), ?_⟩
    refine ⟨sz_lit (by decide), fun l hl => ?_⟩
    have s1 : Same H (upd H l (.lst [])) := Same.new hl
    have l1 : upd H l (.lst []) l = some (.lst (([] : List Str).map V.str)) := upd_same
    revert s1 l1
    generalize upd H l (.lst []) = H1
    intro s1 l1
    refine ⟨_, rfl, n, rfl, by omega, by omega, ?_⟩
    rw [Int.toNat_natCast]
    refine for_it (walk_range (lo := 0) (n := n)) (fun i σ H' => (∃ y6 y7 y8 y9 y10 : Option V, σ = [some (.ref p), some (.int n), some (.int most), some (.ref t), some (.str letters), some (.ref l), y6, y7, y8, y9, y10, none]) ∧ ∃ zs : List Str, H' l = some (.lst (zs.map V.str)) ∧ zs.length = i ∧ zs.Nodup ∧ (∀ z ∈ zs, isWordS z = true ∧ z ∉ ts) ∧ But p H H' ∧ Pl H' p pc) ⟨⟨_, _, _, _, _, rfl⟩, [], l1, rfl, List.nodup_nil, fun z hz => (List.not_mem_nil hz).elim, Same.but s1, hp.mono s1⟩ (fun _ _ _ _ _ => trivial) ?_ ?_
    · rintro i x σ H3 H2 hi ⟨⟨y6, y7, y8, y9, y10, rfl⟩, zs, hl2, hzl, hnd, hz, b2, pl2⟩ ⟨rfl, rfl⟩
      refine ⟨_, rfl, _, rfl, p, pc, most, rfl, pl2, by omega, fun r H3 r1 r2 b3 pl3 => ⟨_, _, rfl, rfl, ?_⟩⟩
      obtain ⟨sz, hsz⟩ : ∃ sz : Nat, (1 : Int) + r = sz := ⟨(1 + r).toNat, (Int.toNat_of_nonneg (by omega)).symm⟩
      have hs1 : 1 ≤ sz := by omega
      have hs2 : sz ≤ most := by omega
      show tSeq _ _ _ (List.set _ 7 (some (V.int (1 + r)))) H3
      rw [hsz]
      refine ⟨⟨_, rfl⟩, _, rfl, sz, rfl, by omega, by omega, fun D hD => ?_⟩
      rw [Int.toNat_natCast]
      have nlp : l ≠ p := fun e => by obtain ⟨_, h⟩ := pl2.at; rw [e, h] at hl2; cases hl2
      refine lc_it (walk_range (lo := 0) (n := sz)) (fun i H' => ∃ cs : List Nat, H' D = some (.lst ((cs.map fun c => (⟨#[c]⟩ : Str)).map V.str)) ∧ cs.length = i ∧ (∀ x ∈ cs, 97 ≤ x ∧ x < 123) ∧ But p H3 H' ∧ Pl H' p pc) ⟨[], upd_same, rfl, fun x hx => (List.not_mem_nil hx).elim, Same.but (Same.new hD), pl3.mono (Same.new hD)⟩ (fun _ _ _ _ => trivial) ?_ ?_
      · rintro i' x H5 H4 hi' ⟨cs, hD4, hcl, hcs, b4, pl4⟩ ⟨rfl, rfl⟩
        refine ⟨rfl, _, rfl, _, rfl, p, pc, 26, rfl, pl4, by decide, fun r H5 r1 r2 b5 pl5 => ?_⟩
        obtain ⟨j, rfl⟩ := Int.eq_ofNat_of_zero_le r1
        have hj : j < 26 := by omega
        have hDp : D ≠ p := fun e => by obtain ⟨_, h⟩ := pl4.at; rw [e, h] at hD4; cases hD4
        have hD5 := b5 _ _ hD4 hDp
        refine ⟨letters, j, 97 + j, rfl, rfl, sz_lit (by decide +kernel), atI_nat (letter_at j hj), _, hD5, lt_sz (by rw [List.length_map, List.length_map]; omega), cs ++ [97 + j], ?_, ?_, ?_, ?_, ?_⟩
        · rw [upd_same, List.map_append, List.map_append]
          rfl
        · rw [List.length_append, hcl]
          rfl
        · intro x hx
          rcases List.mem_append.mp hx with hx | hx
          · exact hcs x hx
          · rw [List.mem_singleton.mp hx]
            omega
        · intro b o hb n
          rw [L2.upd_ne (ne_of_none hb hD)]
          exact b5 b o (b4 b o hb n) n
        · exact pl5.put hDp (pl3.new hD).2
      · rintro H4 ⟨cs, hD4, hcl, hcs, b4, pl4⟩
        refine ⟨"", D, cs.map fun c => (⟨#[c]⟩ : Str), rfl, rfl, .inl (.inl (.inl hD4)), ?_, ?_⟩
        · rw [List.map_map, List.length_map]
          have : ∀ l : List Nat, (l.map ((fun x : Str => x.length) ∘ fun c => (⟨#[c]⟩ : Str))).sum = l.length := by
            intro l
            induction l with
            | nil => rfl
            | cons a r ih =>
              rw [List.map_cons, List.sum_cons, ih]
              show 1 + r.length = r.length + 1
              omega
          rw [this]
          show cs.length + cs.length * 0 ≤ 16777216
          omega
        rw [join_letters]
        obtain ⟨pre, c, e, hc, hpre, hpl⟩ := split_last (cs := cs) (by omega) hcs
        rw [e]
        have b24 : But p H H4 := b2.trans (b3.trans b4)
        have ht4 : SqL K H4 t (ts.map V.str) := ht.kp (hp.kp b24)
        have hl4 : H4 l = some (.lst (zs.map V.str)) := b4 _ _ (b3 _ _ hl2 nlp) nlp
        refine ⟨26, rfl, by omega, by omega, ?_⟩
        rw [show (26 : Int).toNat = 26 from rfl]
        refine for_it (walk_range (lo := 0) (n := 26)) (fun j σ H' => (∃ (z : Str) (y9 y10 : Option V), σ = [some (.ref p), some (.int n), some (.int most), some (.ref t), some (.str letters), some (.ref l), some (.int (0 + (i : Int))), some (.int sz), some (.str z), y9, y10, none] ∧ ShI pre c (ts ++ zs) j z) ∧ H' = H4) ⟨⟨_, _, _, rfl, ShI.start hc⟩, rfl⟩ (fun _ _ _ _ _ => trivial) ?_ ?_
        · rintro j x σ H6 H5 hj ⟨⟨z, y9, y10, rfl, hsh⟩, rfl⟩ ⟨rfl, rfl⟩
          refine ⟨_, rfl, _, rfl, t, _, rfl, .inl ht4, rfl, flat_strs ts, _, rfl, ?_⟩
          rw [if_neg Bool.false_ne_true, inV_strs]
          have body : z ∈ ts ++ zs → ∃ d, d < 26 ∧ z = wd pre d ∧ ShI pre c (ts ++ zs) (j + 1) (wd pre ((d + 1) % 26)) := fun hz => hsh.go hz
          have stay : z ∉ ts ++ zs → ShI pre c (ts ++ zs) (j + 1) z := fun hz => hsh.stay hz
          have hlen : ∀ d, (wd pre d).length ≤ sizeLine := fun d => by rw [wd_len]; exact sz_lit (by omega)
          have hlast : ∀ d, ((wd pre d).length : Int) - 1 = (pre.length : Int) := fun d => by rw [wd_len]; omega
          have hmod : ∀ d : Nat, ((d : Int) + 1).fmod 26 = (((d + 1) % 26 : Nat) : Int) := fun d => by
            rw [Int.fmod_eq_emod_of_nonneg _ (by decide)]
            omega
          have hcat : ∀ d e : Nat, (cutS (wd pre d) none (some ((pre.length : Nat) : Int))).length + (⟨#[97 + e]⟩ : Str).length ≤ sizeLine := fun d e => by
            have h1 : (cutS (wd pre d) none (some ((pre.length : Nat) : Int)) ++ (⟨#[97 + e]⟩ : Str)).length = pre.length + 1 := by rw [wd_init, wd_len]
            have h2 : (cutS (wd pre d) none (some ((pre.length : Nat) : Int)) ++ (⟨#[97 + e]⟩ : Str)).length = (cutS (wd pre d) none (some ((pre.length : Nat) : Int))).length + (⟨#[97 + e]⟩ : Str).length := Array.size_append
            rw [← h2, h1]
            exact sz_lit (by omega)
          by_cases e1 : z ∈ ts
          · refine ifT (decide_eq_true e1) ?_
            obtain ⟨d, hd, rfl, hnx⟩ := body (List.mem_append_left _ e1)
            refine ifT rfl ?_
            refine ⟨_, rfl, ⟨_, rfl⟩, _, rfl, _, rfl, _, rfl, hlen d, _, _, rfl, rfl, (pre.length : Int), congrArg V.int (hlast d), _, rfl, hlen d, _, _, rfl, rfl, ?_⟩
            rw [wd_last, find_letter d hd]
            refine ⟨_, rfl, _, rfl, _, rfl, hlen d, _, _, rfl, rfl, (pre.length : Int), congrArg V.int (hlast d), _, rfl, hlen d, _, rfl, _, rfl, _, _, rfl, rfl, _, _, rfl, rfl, (by show (26 : Int) ≠ 0; decide), letters, (((d + 1) % 26 : Nat) : Int), 97 + (d + 1) % 26, rfl, congrArg V.int (hmod d), sz_lit (by decide +kernel), atI_nat (letter_at _ (Nat.mod_lt _ (by decide))), _, _, rfl, rfl, hcat d _, ?_⟩
            rw [wd_init]
            exact ⟨⟨_, _, _, rfl, hnx⟩, rfl⟩
          · refine ifF (decide_eq_false e1) ?_
            refine ⟨_, rfl, _, rfl, l, _, rfl, .inl (.inl (.inl hl4)), rfl, flat_strs zs, _, rfl, ?_⟩
            rw [if_neg Bool.false_ne_true, inV_strs]
            by_cases e2 : z ∈ zs
            · refine ifT (decide_eq_true e2) ?_
              obtain ⟨d, hd, rfl, hnx⟩ := body (List.mem_append_right _ e2)
              refine ⟨_, rfl, ⟨_, rfl⟩, _, rfl, _, rfl, _, rfl, hlen d, _, _, rfl, rfl, (pre.length : Int), congrArg V.int (hlast d), _, rfl, hlen d, _, _, rfl, rfl, ?_⟩
              rw [wd_last, find_letter d hd]
              refine ⟨_, rfl, _, rfl, _, rfl, hlen d, _, _, rfl, rfl, (pre.length : Int), congrArg V.int (hlast d), _, rfl, hlen d, _, rfl, _, rfl, _, _, rfl, rfl, _, _, rfl, rfl, (by show (26 : Int) ≠ 0; decide), letters, (((d + 1) % 26 : Nat) : Int), 97 + (d + 1) % 26, rfl, congrArg V.int (hmod d), sz_lit (by decide +kernel), atI_nat (letter_at _ (Nat.mod_lt _ (by decide))), _, _, rfl, rfl, hcat d _, ?_⟩
              rw [wd_init]
              exact ⟨⟨_, _, _, rfl, hnx⟩, rfl⟩
            · refine ifF (decide_eq_false e2) ⟨⟨_, _, _, rfl, stay fun h => ?_⟩, rfl⟩
              rcases List.mem_append.mp h with h | h
              · exact e1 h
              · exact e2 h
        · rintro σ H5 ⟨⟨z, y9, y10, rfl, hsh⟩, rfl⟩
          obtain ⟨hfree, d, hd, rfl⟩ := hsh.done (by rw [List.length_append]; omega)
          have hw := wd_word (c := d) hpre hd (by omega)
          refine ⟨_, rfl, .inl ⟨rfl, _, .inl (.inl hl4)⟩, _, rfl, l, _, _, rfl, rfl, hl4, lt_sz (by rw [List.length_map]; omega), ⟨_, _, _, _, _, rfl⟩, zs ++ [wd pre d], ?_, ?_, ?_, ?_, ?_, ?_⟩
          · rw [upd_same, List.map_append]
            rfl
          · rw [List.length_append, hzl]
            rfl
          · refine List.nodup_append.mpr ⟨hnd, by simp, fun a ha b hb e => hfree (List.mem_append_right _ ?_)⟩
            rw [List.mem_singleton.mp hb] at e
            rw [← e]
            exact ha
          · intro z hz'
            rcases List.mem_append.mp hz' with h | h
            · exact hz z h
            · rw [List.mem_singleton.mp h]
              exact ⟨hw, fun h => hfree (List.mem_append_left _ h)⟩
          · intro b o hb n
            rw [L2.upd_ne (ne_of_none hb hl)]
            exact b24 b o hb n
          · exact pl4.put nlp (hp.new hl).2
    · rintro σ H2 ⟨⟨y6, y7, y8, y9, y10, rfl⟩, zs, hl2, hzl, hnd, hz, b2, pl2⟩
      exact ⟨_, rfl, k l zs H2 hl b2 pl2 hl2 hzl hnd hz⟩
end
end Op
namespace Op
open PySem L2 PyProof.Rows
/-! ### the rows of the law -/
inductive SR where
  | drop (z : Str)
  | put (z : Str)
  | fin
  | gate (g : Str)
  | past (g : Str)
  | part (m : Nat) (z : Str)
def dropR (z : Str) : PyData := .tuple [.str "drop", .str z]
def SR.dat : SR → PyData
  | .drop z => dropR z
  | .put z => .tuple [.str "put", .str z, .str "a"]
  | .fin => .tuple [.str "end", .str "in"]
  | .gate g => .tuple [.str "gate", .str g, .list [], .list []]
  | .past g => .tuple [.str "past", .str g, .list []]
  | .part m z => .tuple [.str "part", .list (List.replicate m (dropR z))]
def SR.tot : SR → Int
  | .part m _ => 1 + m
  | _ => 1
def SR.labs : SR → List Str
  | .drop z => [z]
  | .part m z => List.replicate m z
  | _ => []
def SR.slo : SR → List Str
  | .put z => [z]
  | _ => []
def SR.gat : SR → List Str
  | .gate g => [g]
  | .past g => [g]
  | _ => []
def SR.ok : SR → Prop
  | .drop z => isWordS z = true
  | .put z => isWordS z = true ∧ z ≠ "in"
  | .fin => True
  | .gate g => isWordS g = true
  | .past g => isWordS g = true
  | .part _ z => isWordS z = true
def plus (c : Chk) (t : Int) (l s g : List Str) : Chk := ⟨c.total + t, l.foldl putW c.labels, s.foldl putW c.slots, g.foldl putW c.gates, c.edits⟩
section
variable {E : Env0} {c : Chk} {kind sh : Str} {parts : List PyData} {depth : Int} {lp : Bool} {rec : Bool → List PyData → List Int → Chk → Out} {pre : List Int} {i : Nat}
theorem row_ok (h1 : shapes.lookup kind = some sh) (h2 : kind ≠ "edit") (h3 : kind = "leave" → lp = true) (h4 : parts.length = sh.length) (h5 : (hasC 98 sh || hasC 116 sh) = true → depth < 5) (h6 : fitAll E sh parts = true) (h7 : idFits c kind parts = true) :
    chkRow rec E depth lp pre (.tuple (.str kind :: parts)) i c = chkIn (rec (inside lp kind)) (pre ++ [(i : Int)]) (innerL kind parts) 0 (collect { c with total := c.total + 1 } kind sh parts) := by
  have hf : fits E c (.tuple (.str kind :: parts)) depth lp = true := by
    show (match shapes.lookup kind with | none => false | some sh => fitRow E c kind parts depth lp sh) = true
    rw [h1]
    show fitRow E c kind parts depth lp sh = true
    unfold fitRow
    rw [if_neg (fun z => h2 z.1), if_neg (fun z => by have := h3 z.1; rw [this] at z; exact absurd z.2 (by decide)), if_neg (fun z => z h4), if_neg (fun z => by have := z.2; have := h5 z.1; omega), if_pos h6]
    exact h7
  show (if fits E c (.tuple (.str kind :: parts)) depth lp = true then chkIn (rec (inside lp kind)) (pre ++ [(i : Int)]) (innerL kind parts) 0 (collect { c with total := c.total + 1 } kind (shapeOf kind) parts) else .error (pre ++ [(i : Int)])) = _
  rw [if_pos hf]
  have e : shapeOf kind = sh := by unfold shapeOf; rw [h1]; rfl
  rw [e]
end
theorem id_plain {c : Chk} {kind : Str} {parts : List PyData} (h1 : kind ≠ "edit") (h2 : ¬ (kind = "gate" ∨ kind = "past")) : idFits c kind parts = true := by
  unfold idFits
  rw [if_neg h1, if_neg h2]
theorem id_gate0 {c : Chk} {kind : Str} {parts : List PyData} (h1 : kind ≠ "edit") (h2 : c.edits = []) : idFits c kind parts = true := by
  unfold idFits
  rw [if_neg h1, h2]
  split
  · rw [decide_eq_false (fun z => (List.not_mem_nil z).elim)]
    rfl
  · rfl
/-! ### parts -/
theorem pq_a {E : Env0} {d : PyData} : partFits E ⟨#[97]⟩ d = (isWord d && decide (strOf d ∈ E.asks)) := by
  unfold partFits
  rw [if_pos (by decide +kernel)]
theorem pq_g {E : Env0} {d : PyData} : partFits E ⟨#[103]⟩ d = (isWord d && decide (strOf d ∈ E.sigs)) := by
  unfold partFits
  rw [if_neg (by decide +kernel), if_pos (by decide +kernel)]
theorem pq_s {E : Env0} {d : PyData} : partFits E ⟨#[115]⟩ d = (isWord d && !decide (strOf d = "in")) := by
  unfold partFits
  rw [if_neg (by decide +kernel), if_neg (by decide +kernel), if_pos (by decide +kernel)]
theorem pq_m {E : Env0} {d : PyData} : partFits E ⟨#[109]⟩ d = areWords 3 d := by
  unfold partFits
  rw [if_neg (by decide +kernel), if_neg (by decide +kernel), if_neg (by decide +kernel), if_pos (by decide +kernel)]
theorem pq_v {E : Env0} {d : PyData} : partFits E ⟨#[118]⟩ d = areWords 3 d := by
  unfold partFits
  rw [if_neg (by decide +kernel), if_neg (by decide +kernel), if_neg (by decide +kernel), if_pos (by decide +kernel)]
theorem pq_b {E : Env0} {d : PyData} : partFits E ⟨#[98]⟩ d = isList d := by
  unfold partFits
  rw [if_neg (by decide +kernel), if_neg (by decide +kernel), if_neg (by decide +kernel), if_neg (by decide +kernel), if_pos (by decide +kernel)]
theorem pq_t {E : Env0} {d : PyData} : partFits E ⟨#[116]⟩ d = isBranches d := by
  unfold partFits
  rw [if_neg (by decide +kernel), if_neg (by decide +kernel), if_neg (by decide +kernel), if_neg (by decide +kernel), if_neg (by decide +kernel), if_pos (by decide +kernel)]
theorem pq_l {E : Env0} {d : PyData} : partFits E ⟨#[108]⟩ d = isWord d := by
  unfold partFits
  rw [if_neg (by decide +kernel), if_neg (by decide +kernel), if_neg (by decide +kernel), if_neg (by decide +kernel), if_neg (by decide +kernel), if_neg (by decide +kernel)]
theorem pq_w {E : Env0} {d : PyData} : partFits E ⟨#[119]⟩ d = isWord d := by
  unfold partFits
  rw [if_neg (by decide +kernel), if_neg (by decide +kernel), if_neg (by decide +kernel), if_neg (by decide +kernel), if_neg (by decide +kernel), if_neg (by decide +kernel)]
theorem pq_r {E : Env0} {d : PyData} : partFits E ⟨#[114]⟩ d = isWord d := by
  unfold partFits
  rw [if_neg (by decide +kernel), if_neg (by decide +kernel), if_neg (by decide +kernel), if_neg (by decide +kernel), if_neg (by decide +kernel), if_neg (by decide +kernel)]
theorem pq_i {E : Env0} {d : PyData} : partFits E ⟨#[105]⟩ d = isWord d := by
  unfold partFits
  rw [if_neg (by decide +kernel), if_neg (by decide +kernel), if_neg (by decide +kernel), if_neg (by decide +kernel), if_neg (by decide +kernel), if_neg (by decide +kernel)]
theorem nodup_sub : ∀ {l m : List Str}, l.Nodup → (∀ x ∈ l, x ∈ m) → l.length ≤ m.length
  | [], _, _, _ => Nat.zero_le _
  | x :: r, m, h, s => by
    obtain ⟨h1, h2⟩ := List.nodup_cons.mp h
    have hx := s x List.mem_cons_self
    have := nodup_sub (l := r) (m := m.erase x) h2 fun y hy => by
      have hne : y ≠ x := fun e => h1 (by rw [← e]; exact hy)
      exact (List.mem_erase_of_ne hne).mpr (s y (List.mem_cons_of_mem _ hy))
    rw [List.length_erase_of_mem hx] at this
    have hp := List.length_pos_of_mem hx
    rw [List.length_cons]
    omega

theorem chkRows_append (row : PyData → Nat → Chk → Out) : ∀ (A B : List PyData) (i : Nat) (c : Chk), chkRows row (A ++ B) i c = (match chkRows row A i c with | Except.error p => Except.error p | Except.ok c' => chkRows row B (i + A.length) c' : Out)
  | [], B, i, c => rfl
  | d :: A, B, i, c => by
    show (match row d i c with | Except.error p => Except.error p | Except.ok c' => chkRows row (A ++ B) (i + 1) c' : Out) = (match (match row d i c with | Except.error p => Except.error p | Except.ok c' => chkRows row A (i + 1) c' : Out) with | Except.error p => Except.error p | Except.ok c' => chkRows row B (i + (A.length + 1)) c' : Out)
    cases row d i c with
    | error p => rfl
    | ok c' =>
      show chkRows row (A ++ B) (i + 1) c' = _
      rw [chkRows_append row A B (i + 1) c', show i + 1 + A.length = i + (A.length + 1) by omega]
theorem word_a : isWordS "a" = true := by decide +kernel
theorem word_in : isWordS "in" = true := by decide +kernel
section
variable {c : Chk} {kind : Str} {d : PyData}
theorem cp_l : colPart kind c ⟨#[108]⟩ d = { c with labels := putW c.labels (strOf d) } := by
  unfold colPart
  rw [if_pos (by decide +kernel)]
theorem cp_s (h : strOf d ≠ "in") : colPart kind c ⟨#[115]⟩ d = { c with slots := putW c.slots (strOf d) } := by
  unfold colPart
  rw [if_neg (by decide +kernel), if_neg (by decide +kernel), if_pos ⟨.inl (by decide +kernel), h⟩]
theorem cp_r (h : strOf d = "in") : colPart kind c ⟨#[114]⟩ d = c := by
  unfold colPart
  rw [if_neg (by decide +kernel), if_neg (by decide +kernel), if_neg (fun z => z.2 h), if_neg (fun z => absurd z.1 (by decide +kernel)), if_neg (by decide +kernel)]
theorem cp_w : colPart kind c ⟨#[119]⟩ d = c := by
  unfold colPart
  rw [if_neg (by decide +kernel), if_neg (by decide +kernel), if_neg (fun z => absurd z.1 (by decide +kernel)), if_neg (fun z => absurd z.1 (by decide +kernel)), if_neg (by decide +kernel)]
theorem cp_b : colPart kind c ⟨#[98]⟩ d = c := by
  unfold colPart
  rw [if_neg (by decide +kernel), if_neg (by decide +kernel), if_neg (fun z => absurd z.1 (by decide +kernel)), if_neg (fun z => absurd z.1 (by decide +kernel)), if_neg (by decide +kernel)]
theorem cp_i (h : kind ≠ "edit") : colPart kind c ⟨#[105]⟩ d = { c with gates := putW c.gates (strOf d) } := by
  unfold colPart
  rw [if_neg (by decide +kernel), if_neg (by decide +kernel), if_neg (fun z => absurd z.1 (by decide +kernel)), if_neg (fun z => h z.2), if_pos (by decide +kernel)]
end
theorem plus_plus (c : Chk) (t t' : Int) (l l' s s' g g' : List Str) : plus (plus c t l s g) t' l' s' g' = plus c (t + t') (l ++ l') (s ++ s') (g ++ g') := by
  unfold plus
  rw [List.foldl_append, List.foldl_append, List.foldl_append]
  congr 1
  show c.total + t + t' = _
  omega
theorem fa_l {E : Env0} {z : Str} (h : isWordS z = true) : fitAll E "l" [.str z] = true := by
  show (partFits E ⟨#[108]⟩ (.str z) && true) = true
  rw [pq_l, show isWord (.str z) = true from h]
  rfl
theorem drop_row {E : Env0} {rec : Bool → List PyData → List Int → Chk → Out} {dp : Int} {lp : Bool} {pre : List Int} {i : Nat} {c : Chk} {z : Str} (h : isWordS z = true) : chkRow rec E dp lp pre (dropR z) i c = .ok (plus c 1 [z] [] []) := by
  unfold dropR
  rw [row_ok (sh := "l") (by decide +kernel) (by decide +kernel) (fun q => absurd q (by decide +kernel)) rfl (fun q => absurd q (by decide +kernel)) (fa_l h) (id_plain (by decide +kernel) (by decide +kernel))]
  show Except.ok (colPart "drop" { c with total := c.total + 1 } ⟨#[108]⟩ (.str z)) = _
  rw [cp_l]
  rfl
theorem drop_rows {E : Env0} {rec : Bool → List PyData → List Int → Chk → Out} {dp : Int} {lp : Bool} {pre : List Int} {z : Str} (h : isWordS z = true) : ∀ (m i : Nat) (c : Chk), chkRows (chkRow rec E dp lp pre) (List.replicate m (dropR z)) i c = .ok (plus c m (List.replicate m z) [] [])
  | 0, i, c => by
    show Except.ok c = .ok (plus c 0 [] [] [])
    unfold plus
    rw [Int.add_zero]
    rfl
  | m + 1, i, c => by
    show (match chkRow rec E dp lp pre (dropR z) i c with | Except.error p => Except.error p | Except.ok c' => chkRows (chkRow rec E dp lp pre) (List.replicate m (dropR z)) (i + 1) c' : Out) = _
    rw [drop_row h]
    show chkRows _ _ _ _ = _
    rw [drop_rows h m, plus_plus, show (1 : Int) + (m : Int) = ((m + 1 : Nat) : Int) by omega]
    rfl
theorem sr_row {E : Env0} {lp : Bool} {pre : List Int} {i : Nat} {c : Chk} (hc : c.edits = []) : ∀ r : SR, r.ok → chkRow (chkL E 4) E 1 lp pre r.dat i c = .ok (plus c r.tot r.labs r.slo r.gat)
  | .drop z, h => drop_row h
  | .put z, h => by
    show chkRow _ _ _ _ _ (.tuple [.str "put", .str z, .str "a"]) _ _ = _
    rw [row_ok (sh := "sw") (by decide +kernel) (by decide +kernel) (fun q => absurd q (by decide +kernel)) rfl (fun q => absurd q (by decide +kernel)) ?_ (id_plain (by decide +kernel) (by decide +kernel))]
    · show Except.ok (colPart "put" (colPart "put" { c with total := c.total + 1 } ⟨#[115]⟩ (.str z)) ⟨#[119]⟩ (.str "a")) = _
      rw [cp_w, cp_s (show strOf (.str z) ≠ "in" from h.2)]
      rfl
    · show (partFits E ⟨#[115]⟩ (.str z) && (partFits E ⟨#[119]⟩ (.str "a") && true)) = true
      rw [pq_s, pq_w, show isWord (.str z) = true from h.1, show isWord (.str "a") = true from word_a, show decide (strOf (.str z) = "in") = false from decide_eq_false h.2]
      rfl
  | .fin, h => by
    show chkRow _ _ _ _ _ (.tuple [.str "end", .str "in"]) _ _ = _
    rw [row_ok (sh := "r") (by decide +kernel) (by decide +kernel) (fun q => absurd q (by decide +kernel)) rfl (fun q => absurd q (by decide +kernel)) ?_ (id_plain (by decide +kernel) (by decide +kernel))]
    · show Except.ok (colPart "end" { c with total := c.total + 1 } ⟨#[114]⟩ (.str "in")) = _
      rw [cp_r rfl]
      rfl
    · show (partFits E ⟨#[114]⟩ (.str "in") && true) = true
      rw [pq_r, show isWord (.str "in") = true from word_in]
      rfl
  | .gate g, h => by
    show chkRow _ _ _ _ _ (.tuple [.str "gate", .str g, .list [], .list []]) _ _ = _
    rw [row_ok (sh := "ibb") (by decide +kernel) (by decide +kernel) (fun q => absurd q (by decide +kernel)) rfl (fun _ => by decide) ?_ (id_gate0 (by decide +kernel) hc)]
    · show Except.ok (colPart "gate" (colPart "gate" (colPart "gate" { c with total := c.total + 1 } ⟨#[105]⟩ (.str g)) ⟨#[98]⟩ (.list [])) ⟨#[98]⟩ (.list [])) = _
      rw [cp_b, cp_b, cp_i (by decide +kernel)]
      rfl
    · show (partFits E ⟨#[105]⟩ (.str g) && (partFits E ⟨#[98]⟩ (.list []) && (partFits E ⟨#[98]⟩ (.list []) && true))) = true
      rw [pq_i, pq_b, show isWord (.str g) = true from h]
      rfl
  | .past g, h => by
    show chkRow _ _ _ _ _ (.tuple [.str "past", .str g, .list []]) _ _ = _
    rw [row_ok (sh := "ib") (by decide +kernel) (by decide +kernel) (fun q => absurd q (by decide +kernel)) rfl (fun _ => by decide) ?_ (id_gate0 (by decide +kernel) hc)]
    · show Except.ok (colPart "past" (colPart "past" { c with total := c.total + 1 } ⟨#[105]⟩ (.str g)) ⟨#[98]⟩ (.list [])) = _
      rw [cp_b, cp_i (by decide +kernel)]
      rfl
    · show (partFits E ⟨#[105]⟩ (.str g) && (partFits E ⟨#[98]⟩ (.list []) && true)) = true
      rw [pq_i, pq_b, show isWord (.str g) = true from h]
      rfl
  | .part m z, h => by
    show chkRow _ _ _ _ _ (.tuple [.str "part", .list (List.replicate m (dropR z))]) _ _ = _
    rw [row_ok (sh := "b") (by decide +kernel) (by decide +kernel) (fun q => absurd q (by decide +kernel)) rfl (fun _ => by decide) ?_ (id_plain (by decide +kernel) (by decide +kernel))]
    · show (match chkRows (chkRow (chkL E 3) E (5 - (3 : Nat)) (inside lp "part") (pre ++ [(i : Int)] ++ [((0 : Nat) : Int)])) (List.replicate m (dropR z)) 0 (colPart "part" { c with total := c.total + 1 } ⟨#[98]⟩ (.list (List.replicate m (dropR z)))) with | Except.error p => Except.error p | Except.ok c' => Except.ok c' : Out) = _
      rw [drop_rows h, cp_b]
      show Except.ok (plus { c with total := c.total + 1 } m (List.replicate m z) [] []) = Except.ok (plus c (1 + m) (List.replicate m z) [] [])
      unfold plus
      congr 2
      show c.total + 1 + (m : Int) = _
      omega
    · show (partFits E ⟨#[98]⟩ (.list (List.replicate m (dropR z))) && true) = true
      rw [pq_b]
      rfl
def totS (R : List SR) : Int := (R.map SR.tot).sum
theorem sr_rows {E : Env0} {lp : Bool} {pre : List Int} : ∀ (R : List SR) (i : Nat) (c : Chk), c.edits = [] → (∀ r ∈ R, r.ok) → chkRows (chkRow (chkL E 4) E 1 lp pre) (R.map SR.dat) i c = .ok (plus c (totS R) (R.flatMap SR.labs) (R.flatMap SR.slo) (R.flatMap SR.gat))
  | [], i, c, _, _ => by
    show Except.ok c = .ok (plus c 0 [] [] [])
    unfold plus
    rw [Int.add_zero]
    rfl
  | r :: R, i, c, hc, h => by
    show (match chkRow (chkL E 4) E 1 lp pre r.dat i c with | Except.error p => Except.error p | Except.ok c' => chkRows (chkRow (chkL E 4) E 1 lp pre) (R.map SR.dat) (i + 1) c' : Out) = _
    rw [sr_row hc r (h r List.mem_cons_self)]
    show chkRows _ _ _ _ = _
    rw [sr_rows R (i + 1) (plus c r.tot r.labs r.slo r.gat) (by show c.edits = []; exact hc) (fun x hx => h x (List.mem_cons_of_mem _ hx)), plus_plus]
    rfl
theorem putW_nodup {xs : List Str} {x : Str} (h : xs.Nodup) : (putW xs x).Nodup := by
  unfold putW
  split
  · exact h
  · rename_i n
    exact List.nodup_append.mpr ⟨h, by simp, fun a ha b hb e => n (by rw [List.mem_singleton.mp hb] at e; rw [← e]; exact ha)⟩
theorem mem_putW {xs : List Str} {x y : Str} : y ∈ putW xs x ↔ y ∈ xs ∨ y = x := by
  unfold putW
  split
  · rename_i n
    exact ⟨.inl, fun h => h.elim id fun e => e ▸ n⟩
  · rw [List.mem_append, List.mem_singleton]
theorem fold_nodup : ∀ {ys xs : List Str}, xs.Nodup → (ys.foldl putW xs).Nodup
  | [], xs, h => h
  | y :: r, xs, h => fold_nodup (ys := r) (putW_nodup h)
theorem mem_fold : ∀ {ys xs : List Str} {y : Str}, y ∈ ys.foldl putW xs ↔ y ∈ xs ∨ y ∈ ys
  | [], xs, y => by simp
  | z :: r, xs, y => by
    show y ∈ r.foldl putW (putW xs z) ↔ _
    rw [mem_fold, mem_putW, List.mem_cons, or_assoc]
theorem fold_len {ys zs : List Str} (hz : zs.Nodup) (h : ∀ y, y ∈ ys ↔ y ∈ zs) : (ys.foldl putW []).length = zs.length := by
  have h1 := nodup_sub (l := ys.foldl putW []) (m := zs) (fold_nodup List.nodup_nil) fun x hx => (h x).mp ((mem_fold.mp hx).elim (fun q => (List.not_mem_nil q).elim) id)
  have h2 := nodup_sub (l := zs) (m := ys.foldl putW []) hz fun x hx => mem_fold.mpr (.inr ((h x).mpr hx))
  omega
end Op
namespace Op
open PySem L2 PyProof.Rows
/-! ### the table of rows, plainly -/
abbrev PT := List (List Int × PyData)
def inE (rec : List PyData → List Int → PT) (pre : List Int) : List PyData → Nat → PT
  | [], _ => []
  | d :: r, j => rec (listOf d) (pre ++ [(j : Int)]) ++ inE rec pre r (j + 1)
def rowE (rec : List PyData → List Int → PT) (pre : List Int) (d : PyData) (i : Nat) : PT :=
  match d with
  | .tuple (.str kind :: parts) => (pre ++ [(i : Int)], d) :: inE rec (pre ++ [(i : Int)]) (innerL kind parts) 0
  | _ => []
def rsE (row : PyData → Nat → PT) : List PyData → Nat → PT
  | [], _ => []
  | d :: r, i => row d i ++ rsE row r (i + 1)
def pathsL : Nat → List PyData → List Int → PT
  | 0, _, _ => []
  | n + 1, ds, pre => rsE (rowE (pathsL n) pre) ds 0
def FreeT (t : PT) (pre : List Int) (i : Nat) : Prop := ∀ e ∈ t, ∀ (j : Nat) (q : List Int), i ≤ j → e.1 ≠ pre ++ (j : Int) :: q
def ExtT (t : PT) (pre : List Int) (i : Nat) : Prop := ∀ e ∈ t, ∃ (j : Nat) (q : List Int), i ≤ j ∧ e.1 = pre ++ (j : Int) :: q
theorem putD_new {α : Type} {t : List (List Int × α)} {p : List Int} {a : α} (h : ∀ e ∈ t, e.1 ≠ p) : putD t p a = t ++ [(p, a)] := by
  unfold putD
  rw [if_neg]
  intro q
  obtain ⟨e, he, hp⟩ := List.any_eq_true.mp q
  exact h e he (of_decide_eq_true hp)
theorem pre_step {pre : List Int} {i j : Nat} {q q' : List Int} (h : pre ++ (i : Int) :: q = pre ++ (j : Int) :: q') : i = j := by
  have := List.append_cancel_left h
  injection this with h1 _
  omega
def AddP (rec : List PyData → List Int → Tb → Tb) (rp : List PyData → List Int → PT) : Prop := ∀ ds pre s, FreeT s.1 pre 0 → (rec ds pre s).1 = s.1 ++ rp ds pre ∧ ExtT (rp ds pre) pre 0
theorem addIn_eq {rec : List PyData → List Int → Tb → Tb} {rp : List PyData → List Int → PT} (hr : AddP rec rp) (pre : List Int) : ∀ (l : List PyData) (j : Nat) (s : Tb), FreeT s.1 pre j → (addIn rec pre l j s).1 = s.1 ++ inE rp pre l j ∧ ExtT (inE rp pre l j) pre j
  | [], j, s, _ => ⟨by rw [inE, List.append_nil]; rfl, fun e he => (List.not_mem_nil he).elim⟩
  | d :: r, j, s, hf => by
    have h1 := hr (listOf d) (pre ++ [(j : Int)]) s fun e he k q _ => by
      have := hf e he j ((k : Int) :: q) (Nat.le_refl _)
      rw [List.append_assoc]
      exact this
    have e1 : ExtT (rp (listOf d) (pre ++ [(j : Int)])) pre j := fun e he => by
      obtain ⟨k, q, _, h⟩ := h1.2 e he
      exact ⟨j, (k : Int) :: q, Nat.le_refl _, by rw [h, List.append_assoc]; rfl⟩
    have h2 := addIn_eq hr pre r (j + 1) (rec (listOf d) (pre ++ [(j : Int)]) s) fun e he k q hk => by
      rw [h1.1] at he
      rcases List.mem_append.mp he with he | he
      · exact hf e he k q (by omega)
      · obtain ⟨q', h'⟩ : ∃ q', e.1 = pre ++ (j : Int) :: q' := by
          obtain ⟨k, q, _, h⟩ := h1.2 e he
          exact ⟨(k : Int) :: q, by rw [h, List.append_assoc]; rfl⟩
        rw [h']
        intro h
        have := pre_step h
        omega
    refine ⟨?_, ?_⟩
    · show (addIn rec pre r (j + 1) (rec (listOf d) (pre ++ [(j : Int)]) s)).1 = _
      rw [h2.1, h1.1, List.append_assoc]
      rfl
    · intro e he
      rcases List.mem_append.mp (show e ∈ rp (listOf d) (pre ++ [(j : Int)]) ++ inE rp pre r (j + 1) from he) with he | he
      · exact e1 e he
      · obtain ⟨k, q, hk, h⟩ := h2.2 e he
        exact ⟨k, q, by omega, h⟩
theorem addRow_eq {rec : List PyData → List Int → Tb → Tb} {rp : List PyData → List Int → PT} (hr : AddP rec rp) (pre : List Int) (d : PyData) (i : Nat) (s : Tb) (hf : FreeT s.1 pre i) : (addRow rec pre d i s).1 = s.1 ++ rowE rp pre d i ∧ ∀ e ∈ rowE rp pre d i, ∃ q, e.1 = pre ++ (i : Int) :: q := by
  by_cases ht : ∃ kind parts, d = .tuple (.str kind :: parts)
  · obtain ⟨kind, parts, rfl⟩ := ht
    have hn : putD s.1 (pre ++ [(i : Int)]) (.tuple (.str kind :: parts)) = s.1 ++ [(pre ++ [(i : Int)], .tuple (.str kind :: parts))] := putD_new fun e he => hf e he i [] (Nat.le_refl _)
    have h1 := addIn_eq hr (pre ++ [(i : Int)]) (innerL kind parts) 0 (putD s.1 (pre ++ [(i : Int)]) (.tuple (.str kind :: parts)), s.2) fun e he k q _ => by
      rw [show (putD s.1 (pre ++ [(i : Int)]) (.tuple (.str kind :: parts)), s.2).1 = _ from hn] at he
      rcases List.mem_append.mp he with he | he
      · have := hf e he i ((k : Int) :: q) (Nat.le_refl _)
        rw [List.append_assoc]
        exact this
      · rw [List.mem_singleton.mp he]
        intro h
        have := congrArg List.length h
        simp at this
    refine ⟨?_, ?_⟩
    · show (addIn rec (pre ++ [(i : Int)]) (innerL kind parts) 0 (putD s.1 (pre ++ [(i : Int)]) (.tuple (.str kind :: parts)), s.2)).1 = _
      rw [h1.1, hn, List.append_assoc]
      rfl
    · intro e he
      rcases List.mem_cons.mp (show e ∈ (pre ++ [(i : Int)], PyData.tuple (.str kind :: parts)) :: inE rp (pre ++ [(i : Int)]) (innerL kind parts) 0 from he) with he | he
      · exact ⟨[], by rw [he]⟩
      · obtain ⟨k, q, _, h⟩ := h1.2 e he
        exact ⟨(k : Int) :: q, by rw [h, List.append_assoc]; rfl⟩
  · have e1 : addRow rec pre d i s = s := by
      unfold addRow
      split
      · exact (ht ⟨_, _, rfl⟩).elim
      · rfl
    have e2 : rowE rp pre d i = [] := by
      unfold rowE
      split
      · exact (ht ⟨_, _, rfl⟩).elim
      · rfl
    rw [e1, e2, List.append_nil]
    exact ⟨rfl, fun e he => (List.not_mem_nil he).elim⟩
theorem addRs_eq {rec : List PyData → List Int → Tb → Tb} {rp : List PyData → List Int → PT} (hr : AddP rec rp) (pre : List Int) : ∀ (ds : List PyData) (i : Nat) (s : Tb), FreeT s.1 pre i → (addRs (addRow rec pre) ds i s).1 = s.1 ++ rsE (rowE rp pre) ds i ∧ ExtT (rsE (rowE rp pre) ds i) pre i
  | [], i, s, _ => ⟨by rw [rsE, List.append_nil]; rfl, fun e he => (List.not_mem_nil he).elim⟩
  | d :: r, i, s, hf => by
    have h1 := addRow_eq hr pre d i s hf
    have h2 := addRs_eq hr pre r (i + 1) (addRow rec pre d i s) fun e he k q hk => by
      rw [h1.1] at he
      rcases List.mem_append.mp he with he | he
      · exact hf e he k q (by omega)
      · obtain ⟨q', h'⟩ := h1.2 e he
        rw [h']
        intro h
        have := pre_step h
        omega
    refine ⟨?_, ?_⟩
    · show (addRs (addRow rec pre) r (i + 1) (addRow rec pre d i s)).1 = _
      rw [h2.1, h1.1, List.append_assoc]
      rfl
    · intro e he
      rcases List.mem_append.mp (show e ∈ rowE rp pre d i ++ rsE (rowE rp pre) r (i + 1) from he) with he | he
      · obtain ⟨q, h⟩ := h1.2 e he
        exact ⟨i, q, Nat.le_refl _, h⟩
      · obtain ⟨k, q, hk, h⟩ := h2.2 e he
        exact ⟨k, q, by omega, h⟩
theorem addL_eq : ∀ n, AddP (addL n) (pathsL n)
  | 0 => fun ds pre s _ => ⟨by rw [pathsL, List.append_nil]; rfl, fun e he => (List.not_mem_nil he).elim⟩
  | n + 1 => fun ds pre s hf => addRs_eq (addL_eq n) pre ds 0 (s.1, putD s.2 pre (ds.length : Int)) hf
theorem addL_len (ds : List PyData) : (addL 5 ds [] ([], [])).1 = pathsL 5 ds [] := (addL_eq 5 ds [] ([], []) fun e he => (List.not_mem_nil he).elim).1
/-! ### of the law's rows -/
theorem rsE_len {row : PyData → Nat → PT} : ∀ (R : List SR) (i : Nat), (∀ r ∈ R, ∀ i, ((row r.dat i).length : Int) = r.tot) → ((rsE row (R.map SR.dat) i).length : Int) = totS R
  | [], i, _ => rfl
  | r :: R, i, h => by
    show ((row r.dat i ++ rsE row (R.map SR.dat) (i + 1)).length : Int) = (r.tot + (R.map SR.tot).sum)
    rw [List.length_append, Int.natCast_add, h r List.mem_cons_self, rsE_len R (i + 1) fun x hx => h x (List.mem_cons_of_mem _ hx)]
    rfl
theorem rsE_drops {rp : List PyData → List Int → PT} {pre : List Int} {z : Str} : ∀ (m i : Nat), (rsE (rowE rp pre) (List.replicate m (dropR z)) i).length = m
  | 0, i => rfl
  | m + 1, i => by
    show (rowE rp pre (dropR z) i ++ rsE (rowE rp pre) (List.replicate m (dropR z)) (i + 1)).length = _
    rw [List.length_append, rsE_drops m]
    show 1 + m = m + 1
    omega
theorem rows_len (R : List SR) : ((pathsL 5 (R.map SR.dat) []).length : Int) = totS R := by
  refine rsE_len R 0 fun r _ i => ?_
  cases r with
  | part m z =>
    show ((((([] : List Int) ++ [(i : Int)], _) :: (pathsL 4 (List.replicate m (dropR z)) (([] : List Int) ++ [(i : Int)] ++ [((0 : Nat) : Int)]) ++ [])) : PT).length : Int) = 1 + (m : Int)
    rw [List.length_cons, List.append_nil, show pathsL 4 (List.replicate m (dropR z)) (([] : List Int) ++ [(i : Int)] ++ [((0 : Nat) : Int)]) = rsE (rowE (pathsL 3) (([] : List Int) ++ [(i : Int)] ++ [((0 : Nat) : Int)])) (List.replicate m (dropR z)) 0 from rfl, rsE_drops]
    omega
  | drop z => rfl
  | put z => rfl
  | fin => rfl
  | gate g => rfl
  | past g => rfl
end Op
namespace Op
open PySem L2 PyProof.Rows
/-! ### the rows of the law, all of them -/
def gateSR (k : Nat) (g : Str) : SR := if k % 2 = 0 then .gate g else .past g
def gatesSR : Nat → List Str → List SR
  | _, [] => []
  | k, g :: r => gateSR k g :: gatesSR (k + 1) r
theorem gatesSR_append : ∀ (k : Nat) (A B : List Str), gatesSR k (A ++ B) = gatesSR k A ++ gatesSR (k + A.length) B
  | k, [], B => rfl
  | k, a :: A, B => by
    show gateSR k a :: gatesSR (k + 1) (A ++ B) = gateSR k a :: (gatesSR (k + 1) A ++ gatesSR (k + (A.length + 1)) B)
    rw [gatesSR_append (k + 1) A B, show k + 1 + A.length = k + (A.length + 1) by omega]
theorem gatesSR_take {gs : List Str} {i : Nat} {g : Str} (h : gs[i]? = some g) : gatesSR 0 (gs.take (i + 1)) = gatesSR 0 (gs.take i) ++ [gateSR i g] := by
  rw [TS.take_one h, gatesSR_append, List.length_take, Nat.min_eq_left (Nat.le_of_lt (List.getElem?_eq_some_iff.mp h).1), Nat.zero_add]
  rfl
theorem gatesSR_len : ∀ (k : Nat) (gs : List Str), (gatesSR k gs).length = gs.length
  | _, [] => rfl
  | k, g :: r => congrArg Nat.succ (gatesSR_len (k + 1) r)
def headSR (ls ss : List Str) : List SR := ls.map SR.drop ++ ss.map SR.put ++ [.fin]
def baseSR (ls ss gs : List Str) : List SR := headSR ls ss ++ gatesSR 0 gs
def insSR (B : List SR) (r : Nat) (x : SR) : List SR := B.take r ++ [x] ++ B.drop r
def ft (fs : List Int) (i : Nat) : Int := fs.getD i 0
structure RowsV (fs : List Int) (R : List SR) : Prop where
  ok : ∀ r ∈ R, r.ok
  tot : totS R = 60 + ft fs 4
  labs : (((R.flatMap SR.labs).foldl putW []).length : Int) = 6 + ft fs 5
  slo : (((R.flatMap SR.slo).foldl putW []).length : Int) = 4 + ft fs 6
  gat : (((R.flatMap SR.gat).foldl putW []).length : Int) = 8 + ft fs 7
  len : 1 ≤ R.length ∧ R.length ≤ 30
  wt : wts (R.map SR.dat) ≤ 20000
theorem mem_ins {B : List SR} {r : Nat} {x y : SR} : y ∈ insSR B r x ↔ y = x ∨ y ∈ B := by
  unfold insSR
  rw [List.mem_append, List.mem_append, List.mem_singleton]
  have : y ∈ B ↔ y ∈ B.take r ∨ y ∈ B.drop r := by rw [← List.mem_append, List.take_append_drop]
  rw [this]
  constructor
  · rintro ((h | h) | h)
    · exact .inr (.inl h)
    · exact .inl h
    · exact .inr (.inr h)
  · rintro (h | h | h)
    · exact .inl (.inr h)
    · exact .inl (.inl h)
    · exact .inr h
theorem tot_append (A B : List SR) : totS (A ++ B) = totS A + totS B := by
  unfold totS
  rw [List.map_append, List.sum_append]
theorem tot_ins (B : List SR) (r : Nat) (x : SR) : totS (insSR B r x) = x.tot + totS B := by
  unfold insSR
  rw [tot_append, tot_append]
  have h : totS B = totS (B.take r) + totS (B.drop r) := by rw [← tot_append, List.take_append_drop]
  have h1 : totS [x] = x.tot := by show x.tot + 0 = _; omega
  rw [h, h1]
  omega
theorem tot_ones : ∀ {R : List SR}, (∀ r ∈ R, r.tot = 1) → totS R = R.length
  | [], _ => rfl
  | r :: R, h => by
    have h1 := tot_ones (R := R) fun x hx => h x (List.mem_cons_of_mem _ hx)
    show r.tot + totS R = _
    rw [h1, h r List.mem_cons_self, List.length_cons]
    omega
theorem mem_gates : ∀ {k : Nat} {gs : List Str} {y : SR}, y ∈ gatesSR k gs → ∃ g ∈ gs, y = .gate g ∨ y = .past g
  | k, [], y, h => (List.not_mem_nil h).elim
  | k, g :: r, y, h => by
    rcases List.mem_cons.mp h with h | h
    · refine ⟨g, List.mem_cons_self, ?_⟩
      rw [h]
      unfold gateSR
      split
      · exact .inl rfl
      · exact .inr rfl
    · obtain ⟨g', h1, h2⟩ := mem_gates h
      exact ⟨g', List.mem_cons_of_mem _ h1, h2⟩
theorem gates_gat : ∀ (k : Nat) (gs : List Str), (gatesSR k gs).flatMap SR.gat = gs
  | _, [] => rfl
  | k, g :: r => by
    show (gateSR k g).gat ++ (gatesSR (k + 1) r).flatMap SR.gat = _
    rw [gates_gat (k + 1) r]
    unfold gateSR
    split <;> rfl
theorem wts_append : ∀ (A B : List PyData), wts (A ++ B) = wts A + wts B
  | [], B => by rw [wts_nil]; simp
  | a :: A, B => by rw [List.cons_append, wts_cons, wts_cons, wts_append A B]; omega
theorem wts_le {n : Nat} : ∀ {A : List PyData}, (∀ d ∈ A, wt d ≤ n) → wts A ≤ n * A.length
  | [], _ => by rw [wts_nil]; simp
  | a :: A, h => by
    have h1 := wts_le (A := A) fun d hd => h d (List.mem_cons_of_mem _ hd)
    have h2 := h a List.mem_cons_self
    rw [wts_cons, List.length_cons, Nat.mul_succ]
    omega
theorem word_len {z : Str} (h : isWordS z = true) : z.length ≤ 8 := by
  unfold isWordS at h
  exact (of_decide_eq_true (Bool.and_eq_true_iff.mp h).1).2
theorem wt_str (z : Str) : wt (.str z) = 1 + z.length := by rw [wt]
theorem wt_drop {z : Str} (h : isWordS z = true) : wt (dropR z) ≤ 20 := by
  have := word_len h
  unfold dropR
  rw [wt_tuple, wts_cons, wts_cons, wts_nil, wt_str, wt_str]
  show 1 + (1 + 4 + (1 + z.length + 0)) ≤ 20
  omega
theorem wt_sr {r : SR} (h : r.ok) (hm : ∀ m z, r = .part m z → m ≤ 60) : wt r.dat ≤ 1500 := by
  cases r with
  | drop z => have := wt_drop h; show wt (dropR z) ≤ _; omega
  | put z =>
    have := word_len h.1
    show wt (.tuple [.str "put", .str z, .str "a"]) ≤ _
    rw [wt_tuple, wts_cons, wts_cons, wts_cons, wts_nil, wt_str, wt_str, wt_str]
    show 1 + (1 + 3 + (1 + z.length + (1 + 1 + 0))) ≤ _
    omega
  | fin => decide +kernel
  | gate g =>
    have := word_len (show isWordS g = true from h)
    show wt (.tuple [.str "gate", .str g, .list [], .list []]) ≤ _
    rw [wt_tuple, wts_cons, wts_cons, wts_cons, wts_cons, wts_nil, wt_str, wt_str, wt_list, wts_nil]
    show 1 + (1 + 4 + (1 + g.length + (1 + 0 + (1 + 0 + 0)))) ≤ _
    omega
  | past g =>
    have := word_len (show isWordS g = true from h)
    show wt (.tuple [.str "past", .str g, .list []]) ≤ _
    rw [wt_tuple, wts_cons, wts_cons, wts_cons, wts_nil, wt_str, wt_str, wt_list, wts_nil]
    show 1 + (1 + 4 + (1 + g.length + (1 + 0 + 0))) ≤ _
    omega
  | part m z =>
    have h1 := wt_drop (show isWordS z = true from h)
    have h2 := hm m z rfl
    have h3 := wts_le (n := 20) (A := List.replicate m (dropR z)) fun d hd => by rw [(List.mem_replicate.mp hd).2]; exact h1
    rw [List.length_replicate] at h3
    show wt (.tuple [.str "part", .list (List.replicate m (dropR z))]) ≤ _
    rw [wt_tuple, wts_cons, wts_cons, wts_nil, wt_str, wt_list]
    show 1 + (1 + 4 + (1 + wts (List.replicate m (dropR z)) + 0)) ≤ _
    omega
theorem flat_drops (ls : List Str) : (ls.map SR.drop).flatMap SR.labs = ls := by
  induction ls with
  | nil => rfl
  | cons a r ih => show [a] ++ (r.map SR.drop).flatMap SR.labs = _; rw [ih]; rfl
theorem rowsV_mk {fs : List Int} {ls ss gs : List Str} {m r : Nat} (h5 : (ls.length : Int) = 6 + ft fs 5) (h6 : (ss.length : Int) = 4 + ft fs 6) (h7 : (gs.length : Int) = 8 + ft fs 7) (hf : ∀ i, 0 ≤ ft fs i ∧ ft fs i ≤ 1)
    (nl : ls.Nodup) (ns : ss.Nodup) (ng : gs.Nodup) (wl : ∀ z ∈ ls, isWordS z = true) (ws : ∀ z ∈ ss, isWordS z = true ∧ z ≠ "in") (wg : ∀ z ∈ gs, isWordS z = true) (hm : (m : Int) = 60 + ft fs 4 - (baseSR ls ss gs).length - 1) (l0 : Str) (hl0 : l0 ∈ ls) : RowsV fs (insSR (baseSR ls ss gs) r (.part m l0)) := by
  have f4 := hf 4
  have f5 := hf 5
  have f6 := hf 6
  have f7 := hf 7
  have hbl : (baseSR ls ss gs).length = ls.length + ss.length + 1 + gs.length := by
    unfold baseSR headSR
    rw [List.length_append, gatesSR_len, List.length_append, List.length_append, List.length_map, List.length_map]
    rfl
  have mb : ∀ {y : SR}, y ∈ baseSR ls ss gs → (∃ z ∈ ls, y = .drop z) ∨ (∃ z ∈ ss, y = .put z) ∨ y = .fin ∨ ∃ g ∈ gs, y = .gate g ∨ y = .past g := by
    intro y hy
    unfold baseSR headSR at hy
    rcases List.mem_append.mp hy with hy | hy
    · rcases List.mem_append.mp hy with hy | hy
      · rcases List.mem_append.mp hy with hy | hy
        · obtain ⟨z, hz, e⟩ := List.mem_map.mp hy
          exact .inl ⟨z, hz, e.symm⟩
        · obtain ⟨z, hz, e⟩ := List.mem_map.mp hy
          exact .inr (.inl ⟨z, hz, e.symm⟩)
      · exact .inr (.inr (.inl (List.mem_singleton.mp hy)))
    · exact .inr (.inr (.inr (mem_gates hy)))
  have okA : ∀ y ∈ insSR (baseSR ls ss gs) r (.part m l0), y.ok := by
    intro y hy
    rcases mem_ins.mp hy with rfl | hy
    · exact wl l0 hl0
    · rcases mb hy with ⟨z, hz, rfl⟩ | ⟨z, hz, rfl⟩ | rfl | ⟨g, hg, rfl | rfl⟩
      · exact wl z hz
      · exact ws z hz
      · exact trivial
      · exact wg g hg
      · exact wg g hg
  have hlen : (insSR (baseSR ls ss gs) r (.part m l0)).length = (baseSR ls ss gs).length + 1 := by
    unfold insSR
    rw [List.length_append, List.length_append, List.length_take, List.length_drop]
    show min r _ + 1 + _ = _
    omega
  refine ⟨okA, ?_, ?_, ?_, ?_, by omega, ?_⟩
  · rw [tot_ins, tot_ones]
    · show 1 + (m : Int) + _ = _
      omega
    · intro y hy
      rcases mb hy with ⟨z, hz, rfl⟩ | ⟨z, hz, rfl⟩ | rfl | ⟨g, hg, rfl | rfl⟩ <;> rfl
  · rw [fold_len nl, h5]
    intro y
    rw [List.mem_flatMap]
    constructor
    · rintro ⟨x, hx, hy⟩
      rcases mem_ins.mp hx with rfl | hx
      · rw [(List.mem_replicate.mp (show y ∈ List.replicate m l0 from hy)).2]
        exact hl0
      · rcases mb hx with ⟨z, hz, rfl⟩ | ⟨z, hz, rfl⟩ | rfl | ⟨g, hg, rfl | rfl⟩
        · rw [List.mem_singleton.mp (show y ∈ [z] from hy)]
          exact hz
        all_goals exact (List.not_mem_nil hy).elim
    · intro hy
      refine ⟨.drop y, mem_ins.mpr (.inr ?_), List.mem_singleton.mpr rfl⟩
      unfold baseSR headSR
      exact List.mem_append_left _ (List.mem_append_left _ (List.mem_append_left _ (List.mem_map.mpr ⟨y, hy, rfl⟩)))
  · rw [fold_len ns, h6]
    intro y
    rw [List.mem_flatMap]
    constructor
    · rintro ⟨x, hx, hy⟩
      rcases mem_ins.mp hx with rfl | hx
      · exact (List.not_mem_nil hy).elim
      · rcases mb hx with ⟨z, hz, rfl⟩ | ⟨z, hz, rfl⟩ | rfl | ⟨g, hg, rfl | rfl⟩
        · exact (List.not_mem_nil hy).elim
        · rw [List.mem_singleton.mp (show y ∈ [z] from hy)]
          exact hz
        all_goals exact (List.not_mem_nil hy).elim
    · intro hy
      refine ⟨.put y, mem_ins.mpr (.inr ?_), List.mem_singleton.mpr rfl⟩
      unfold baseSR headSR
      exact List.mem_append_left _ (List.mem_append_left _ (List.mem_append_right _ (List.mem_map.mpr ⟨y, hy, rfl⟩)))
  · rw [fold_len ng, h7]
    intro y
    rw [List.mem_flatMap]
    constructor
    · rintro ⟨x, hx, hy⟩
      rcases mem_ins.mp hx with rfl | hx
      · exact (List.not_mem_nil hy).elim
      · rcases mb hx with ⟨z, hz, rfl⟩ | ⟨z, hz, rfl⟩ | rfl | ⟨g, hg, rfl | rfl⟩
        · exact (List.not_mem_nil hy).elim
        · exact (List.not_mem_nil hy).elim
        · exact (List.not_mem_nil hy).elim
        all_goals
          rw [List.mem_singleton.mp (show y ∈ [g] from hy)]
          exact hg
    · intro hy
      have : y ∈ (gatesSR 0 gs).flatMap SR.gat := by rw [gates_gat]; exact hy
      obtain ⟨x, hx, hyx⟩ := List.mem_flatMap.mp this
      exact ⟨x, mem_ins.mpr (.inr (by unfold baseSR; exact List.mem_append_right _ hx)), hyx⟩
  · have hw := wts_le (n := 100) (A := (baseSR ls ss gs).map SR.dat) fun d hd => ?_
    · have e : wts ((insSR (baseSR ls ss gs) r (.part m l0)).map SR.dat) = wts ((baseSR ls ss gs).map SR.dat) + wt (SR.dat (.part m l0)) := by
        unfold insSR
        rw [List.map_append, List.map_append, wts_append, wts_append]
        have h : wts ((baseSR ls ss gs).map SR.dat) = wts (((baseSR ls ss gs).take r).map SR.dat) + wts (((baseSR ls ss gs).drop r).map SR.dat) := by rw [← wts_append, ← List.map_append, List.take_append_drop]
        rw [h, List.map_cons, List.map_nil, wts_cons, wts_nil]
        omega
      have h2 := wt_sr (r := .part m l0) (wl l0 hl0) fun m' z e => by cases e; omega
      rw [List.length_map] at hw
      rw [e]
      have : 100 * (baseSR ls ss gs).length ≤ 100 * 22 := Nat.mul_le_mul_left _ (by omega)
      omega
    · obtain ⟨y, hy, rfl⟩ := List.mem_map.mp hd
      rcases mb hy with ⟨z, hz, rfl⟩ | ⟨z, hz, rfl⟩ | rfl | ⟨g, hg, rfl | rfl⟩
      · have := wt_drop (wl z hz)
        show wt (dropR z) ≤ _
        omega
      · have := word_len (ws z hz).1
        show wt (.tuple [.str "put", .str z, .str "a"]) ≤ _
        rw [wt_tuple, wts_cons, wts_cons, wts_cons, wts_nil, wt_str, wt_str, wt_str]
        show 1 + (1 + 3 + (1 + z.length + (1 + 1 + 0))) ≤ _
        omega
      · decide +kernel
      · have := word_len (wg g hg)
        show wt (.tuple [.str "gate", .str g, .list [], .list []]) ≤ _
        rw [wt_tuple, wts_cons, wts_cons, wts_cons, wts_cons, wts_nil, wt_str, wt_str, wt_list, wts_nil]
        show 1 + (1 + 4 + (1 + g.length + (1 + 0 + (1 + 0 + 0)))) ≤ _
        omega
      · have := word_len (wg g hg)
        show wt (.tuple [.str "past", .str g, .list []]) ≤ _
        rw [wt_tuple, wts_cons, wts_cons, wts_cons, wts_nil, wt_str, wt_str, wt_list, wts_nil]
        show 1 + (1 + 4 + (1 + g.length + (1 + 0 + 0))) ≤ _
        omega
/-! ### what the check says of them -/
theorem checkAll_list {E : Env0} {ds : List PyData} : checkAll E (.list ds) = (match chkL E 5 false ds [] chk0 with | Except.error p => Except.error ("rows", p) | Except.ok c => (match sizes c with | some s => Except.error (s, []) | none => Except.ok c) : Except (Str × List Int) Chk) := rfl
theorem row_bad {E : Env0} {rec : Bool → List PyData → List Int → Chk → Out} {dp : Int} {lp : Bool} {pre : List Int} {i : Nat} {c : Chk} {kind : Str} {parts : List PyData} (h : fits E c (.tuple (.str kind :: parts)) dp lp = false) : chkRow rec E dp lp pre (.tuple (.str kind :: parts)) i c = .error (pre ++ [(i : Int)]) := by
  show (if fits E c (.tuple (.str kind :: parts)) dp lp = true then chkIn (rec (inside lp kind)) (pre ++ [(i : Int)]) (innerL kind parts) 0 (collect { c with total := c.total + 1 } kind (shapeOf kind) parts) else .error (pre ++ [(i : Int)])) = _
  rw [h]
  rfl
theorem all_check {E : Env0} {fs : List Int} {R : List SR} (V : RowsV fs R) (hf : ∀ i, 0 ≤ ft fs i ∧ ft fs i ≤ 1) : ∃ c, checkAll E (.list (R.map SR.dat)) = if ft fs 4 = 1 then .error ("size", []) else if ft fs 5 = 1 then .error ("labels", []) else if ft fs 6 = 1 then .error ("slots", []) else if ft fs 7 = 1 then .error ("gates", []) else .ok c := by
  have h := sr_rows (E := E) (lp := false) (pre := []) R 0 chk0 rfl V.ok
  refine ⟨plus chk0 (totS R) (R.flatMap SR.labs) (R.flatMap SR.slo) (R.flatMap SR.gat), ?_⟩
  rw [checkAll_list, show chkL E 5 false (R.map SR.dat) [] chk0 = chkRows (chkRow (chkL E 4) E 1 false []) (R.map SR.dat) 0 chk0 from rfl, h]
  show (match sizes (plus chk0 (totS R) (R.flatMap SR.labs) (R.flatMap SR.slo) (R.flatMap SR.gat)) with | some s => Except.error (s, []) | none => Except.ok _ : Except (Str × List Int) Chk) = _
  have t := V.tot
  have l := V.labs
  have s := V.slo
  have g := V.gat
  have f4 := hf 4
  have f5 := hf 5
  have f6 := hf 6
  have f7 := hf 7
  have e : sizes (plus chk0 (totS R) (R.flatMap SR.labs) (R.flatMap SR.slo) (R.flatMap SR.gat)) = if ft fs 4 = 1 then some ("size" : Str) else if ft fs 5 = 1 then some ("labels" : Str) else if ft fs 6 = 1 then some ("slots" : Str) else if ft fs 7 = 1 then some ("gates" : Str) else none := by
    show (if 60 < 0 + totS R then some ("size" : Str) else if 6 < ((R.flatMap SR.labs).foldl putW []).length then some ("labels" : Str) else if 4 < ((R.flatMap SR.slo).foldl putW []).length then some ("slots" : Str) else if 8 < ((R.flatMap SR.gat).foldl putW []).length + 0 then some ("gates" : Str) else if 4 < 0 then some ("edits" : Str) else none) = _
    by_cases e4 : ft fs 4 = 1
    · rw [if_pos (by omega), if_pos e4]
    · rw [if_neg (by omega), if_neg e4]
      by_cases e5 : ft fs 5 = 1
      · rw [if_pos (by omega), if_pos e5]
      · rw [if_neg (by omega), if_neg e5]
        by_cases e6 : ft fs 6 = 1
        · rw [if_pos (by omega), if_pos e6]
        · rw [if_neg (by omega), if_neg e6]
          by_cases e7 : ft fs 7 = 1
          · rw [if_pos (by omega), if_pos e7]
          · rw [if_neg (by omega), if_neg e7]
            exact if_neg (Nat.not_lt_zero 4)
  rw [e]
  by_cases e4 : ft fs 4 = 1
  · rw [if_pos e4, if_pos e4]
  · rw [if_neg e4, if_neg e4]
    by_cases e5 : ft fs 5 = 1
    · rw [if_pos e5, if_pos e5]
    · rw [if_neg e5, if_neg e5]
      by_cases e6 : ft fs 6 = 1
      · rw [if_pos e6, if_pos e6]
      · rw [if_neg e6, if_neg e6]
        by_cases e7 : ft fs 7 = 1
        · rw [if_pos e7, if_pos e7]
        · rw [if_neg e7, if_neg e7]
def BadR (d : PyData) : Prop := ∀ (E : Env0) (i : Nat) (c : Chk), chkRow (chkL E 4) E 1 false [] d i c = .error [(i : Int)]
theorem bad_none : BadR .none := fun E i c => rfl
theorem bad_list (ds : List PyData) : BadR (.list ds) := fun E i c => rfl
theorem bad_leave : BadR (.tuple [.str "leave"]) := fun E i c => by
  refine row_bad (Bool.eq_false_iff.mpr ?_)
  have e : shapes.lookup ("leave" : Str) = some ("" : Str) := by decide +kernel
  show ¬ (match shapes.lookup ("leave" : Str) with | none => false | some sh => fitRow E c "leave" [] 1 false sh) = true
  rw [e]
  show ¬ fitRow E c "leave" [] 1 false "" = true
  unfold fitRow
  rw [if_neg (fun z => absurd z.1 (by decide +kernel)), if_pos ⟨rfl, rfl⟩]
  decide
theorem bad_drop : BadR (.tuple [.str "drop", .str ""]) := fun E i c => by
  refine row_bad (Bool.eq_false_iff.mpr ?_)
  have e : shapes.lookup ("drop" : Str) = some ("l" : Str) := by decide +kernel
  show ¬ (match shapes.lookup ("drop" : Str) with | none => false | some sh => fitRow E c "drop" [.str ""] 1 false sh) = true
  rw [e]
  show ¬ fitRow E c "drop" [.str ""] 1 false "l" = true
  unfold fitRow
  rw [if_neg (fun z => absurd z.1 (by decide +kernel)), if_neg (fun z => absurd z.1 (by decide +kernel)), if_neg (fun z => z rfl), if_neg (fun z => absurd z.1 (by decide +kernel)), if_neg]
  · decide
  · show ¬ (partFits E ⟨#[108]⟩ (.str "") && true) = true
    rw [pq_l]
    decide +kernel
theorem bad_check {E : Env0} {fs : List Int} {R : List SR} (V : RowsV fs R) {d : PyData} (hd : BadR d) {p : Nat} (hp : p ≤ R.length) : checkAll E (.list ((R.map SR.dat).take p ++ [d] ++ (R.map SR.dat).drop p)) = .error ("rows", [(p : Int)]) := by
  have h : chkL E 5 false ((R.map SR.dat).take p ++ [d] ++ (R.map SR.dat).drop p) [] chk0 = .error [(p : Int)] := by
    show chkRows (chkRow (chkL E 4) E 1 false []) _ 0 chk0 = _
    rw [List.append_assoc, chkRows_append, ← List.map_take, sr_rows (R.take p) 0 chk0 rfl fun r hr => V.ok r (List.mem_of_mem_take hr)]
    show (match chkRow (chkL E 4) E 1 false [] d (0 + ((R.take p).map SR.dat).length) _ with | Except.error p => Except.error p | Except.ok c' => chkRows _ _ _ c' : Out) = _
    rw [hd, List.length_map, List.length_take, Nat.min_eq_left hp, Nat.zero_add]
  rw [checkAll_list, h]
end Op
namespace Op
open PySem L2 PyProof.Rows
def spAll (K : PySem.W.Frag) : Sp := fun vs H Q _ => ∃ (p c fl : Addr) (fs : List Int), vs = [.ref p, .ref fl] ∧ Pl H p c ∧ SqL K H fl (fs.map V.int) ∧ fs.length = 8 ∧ (∀ i, 0 ≤ ft fs i ∧ ft fs i ≤ 1) ∧
  ∀ (l : Addr) (xs : List V) (R : List SR) H', H l = none → But p H H' → Pl H' p c → H' l = some (.lst xs) → RowsV fs R → DpAll K (cutH (· = l) H') xs (R.map SR.dat) → Q (.ref l) H'
theorem at_ft {fs : List Int} {i : Nat} (h : i < fs.length) : atI (fs.map V.int) (i : Int) = some (.int (ft fs i)) := by
  refine atI_nat (j := i) ?_
  rw [List.getElem?_map, List.getElem?_eq_getElem h]
  unfold ft
  rw [List.getD_eq_getElem?_getD, List.getElem?_eq_getElem h]
  rfl
theorem same_cut {H H' : Hp} {l : Addr} (h : H l = none) (s : Same H H') : Same H (cutH (· = l) H') := fun b o hb => by
  rw [cut_not (S := (· = l)) (fun e => by rw [e, h] at hb; cases hb)]
  exact s b o hb
theorem But.free {H H' : Hp} {p b : Addr} (h : But p H H') (hb : H' b = none) (hp : b ≠ p) : H b = none := by
  cases q : H b with
  | none => rfl
  | some o => rw [h b o q hp] at hb; cases hb
theorem dp_take {K : PySem.W.Frag} {H : Hp} : ∀ {vs : List V} {ds : List PyData} (n : Nat), L2.DpAll K H vs ds → L2.DpAll K H (vs.take n) (ds.take n)
  | _, _, 0, _ => .nil
  | _, _, n + 1, .nil => .nil
  | _, _, n + 1, .cons h t => .cons h (dp_take n t)
section
variable {P : Program} {w : World} {K : PySem.W.Frag} {mg : Str → Option Value} {base : Heap}
theorem sc__law_all_rows : FnScope ["_law_bag_here", "_law_faults", "_law_labels", "_law_slots", "_law_gates", "_law_rows", "_law_k", "_law_inner", "_law_label", "_law_slot"] ["_law_bag_here", "_law_faults"] (defScope s__law_all_rows) := ⟨rfl, rfl, rfl, by decide +kernel, rfl, by decide +kernel, by decide +kernel⟩
theorem ok_all_rows {f : Addr} {fd : FuncData} (F : Fun K "_law_all_rows" "_law_all_rows" s__law_all_rows f fd) (T : Txt mg) (c__law_draw : Cal P w K mg base CX0 1 "_law_draw" ["_law_bag_here", "_law_many"] spD) (c__law_words : Cal P w K mg base CX0 2 "_law_words" ["_law_bag_here", "_law_many", "_law_most", "_law_taken"] (spWords K)) : FnOk P w K mg base CX0 3 f fd ["_law_bag_here", "_law_faults"] (spAll K) := by
  refine F.ok sc__law_all_rows (fun vs H Q E h => ?_) (fun cdv A outer s H vs Q E hr h => ?_)
  · obtain ⟨p, c, fl, fs, rfl, _⟩ := h
    rfl
  · obtain ⟨p, c, fl, fs, rfl, hp, hfl, h8, hf, k⟩ := h
    refine ⟨_, (pss_cons (ps_set (i := 2) sc__law_all_rows.nd rfl (.inr rfl) (pe_cal c__law_words (hr.mono (by omega)) rfl pass0 (pa_cons (pv 0) (pa_cons (pe_op op_add pe_int (pe_ix ix_list (pv 1) pe_int (fun _ _ => rfl))) (pa_cons pe_int (pa_cons (pe_lst pa_nil) pa_nil))))))
      (pss_cons (ps_set (i := 3) sc__law_all_rows.nd rfl (.inl rfl) (pe_cal c__law_words (hr.mono (by omega)) rfl pass0 (pa_cons (pv 0) (pa_cons (pe_op op_add pe_int (pe_ix ix_list (pv 1) pe_int (fun _ _ => rfl))) (pa_cons pe_int (pa_cons (pe_lst (pa_cons pe_str pa_nil)) pa_nil))))))
      (pss_cons (ps_set (i := 4) sc__law_all_rows.nd rfl (.inl rfl) (pe_cal c__law_words (hr.mono (by omega)) rfl pass0 (pa_cons (pv 0) (pa_cons (pe_op op_add pe_int (pe_ix ix_list (pv 1) pe_int (fun _ _ => rfl))) (pa_cons pe_int (pa_cons (pe_lst pa_nil) pa_nil))))))
      (pss_cons (ps_set (i := 5) sc__law_all_rows.nd rfl (.inl rfl) (pe_op op_cat (pe_op op_cat (pe_lc (own := [("_law_label", 8)]) (g := gName 8) (tt := tYes) rfl sc__law_all_rows.nd (pi_list (pv 2)) (blkOk_by (own := [("_law_label", 8)]) (N := ["_law_bag_here", "_law_faults", "_law_labels", "_law_slots", "_law_gates", "_law_rows", "_law_k", "_law_inner", "_law_label", "_law_slot"]) (sc := defScope s__law_all_rows) (by decide +kernel)) (fun _ _ _ _ _ => (pg_name (i := 8) sc__law_all_rows.nd rfl (.inl rfl))) (fun _ _ _ _ _ => pts_nil) (fun _ _ _ _ _ => (pe_tup (pa_cons pe_str (pa_cons (pv 8) pa_nil))))) (pe_lc (own := [("_law_slot", 9)]) (g := gName 9) (tt := tYes) rfl sc__law_all_rows.nd (pi_list (pv 3)) (blkOk_by (own := [("_law_slot", 9)]) (N := ["_law_bag_here", "_law_faults", "_law_labels", "_law_slots", "_law_gates", "_law_rows", "_law_k", "_law_inner", "_law_label", "_law_slot"]) (sc := defScope s__law_all_rows) (by decide +kernel)) (fun _ _ _ _ _ => (pg_name (i := 9) sc__law_all_rows.nd rfl (.inl rfl))) (fun _ _ _ _ _ => pts_nil) (fun _ _ _ _ _ => (pe_tup (pa_cons pe_str (pa_cons (pv 9) (pa_cons pe_str pa_nil))))))) (pe_lst (pa_cons (pe_tup (pa_cons pe_str (pa_cons pe_str pa_nil))) pa_nil))))
      (pss_cons (ps_for PassesOwn.never rfl (pi_range1 (by rfl) T.b_range (pa_cons (pe_callB call_len_seq (by rfl) T.b_len (by decide +kernel) (pa_cons (pv 4) pa_nil)) pa_nil)) (pg_name (i := 6) sc__law_all_rows.nd rfl (.inl rfl)) (pss_one (ps_if (pt_cmpR op_eq (pe_op op_modN (pv 6) pe_int) pe_int (nomark _)) (pss_one (ps_expr (pe_bm PySem.F.plainAttrs_list PySem.F.slot_list_append PySem.F.type_list_append mt_append (pv 5) (pa_cons (pe_tup (pa_cons pe_str (pa_cons (pe_ix ix_list (pv 4) (pv 6) (fun _ _ => rfl)) (pa_cons (pe_lst pa_nil) (pa_cons (pe_lst pa_nil) pa_nil))))) pa_nil)))) (pss_one (ps_expr (pe_bm PySem.F.plainAttrs_list PySem.F.slot_list_append PySem.F.type_list_append mt_append (pv 5) (pa_cons (pe_tup (pa_cons pe_str (pa_cons (pe_ix ix_list (pv 4) (pv 6) (fun _ _ => rfl)) (pa_cons (pe_lst pa_nil) pa_nil)))) pa_nil)))))))
      (pss_cons (ps_set (i := 7) sc__law_all_rows.nd rfl (.inl rfl) (pe_op op_sub (pe_op op_sub (pe_op op_add pe_int (pe_ix ix_list (pv 1) pe_int (fun _ _ => rfl))) (pe_callB call_len_seq (by rfl) T.b_len (by decide +kernel) (pa_cons (pv 5) pa_nil))) pe_int))
      (pss_cons (ps_expr (pe_bm PySem.F.plainAttrs_list PySem.F.slot_list_insert PySem.F.type_list_insert mt_insert (pv 5) (pa_cons (pe_cal c__law_draw (hr.mono (by omega)) rfl pass0 (pa_cons (pv 0) (pa_cons (pe_callB call_len_seq (by rfl) T.b_len (by decide +kernel) (pa_cons (pv 5) pa_nil)) pa_nil))) (pa_cons (pe_tup (pa_cons pe_str (pa_cons (pe_lc (own := [("_law_k", 6)]) (g := gName 6) (tt := tYes) rfl sc__law_all_rows.nd (pi_range1 (by rfl) T.b_range (pa_cons (pv 7) pa_nil)) (blkOk_by (own := [("_law_k", 6)]) (N := ["_law_bag_here", "_law_faults", "_law_labels", "_law_slots", "_law_gates", "_law_rows", "_law_k", "_law_inner", "_law_label", "_law_slot"]) (sc := defScope s__law_all_rows) (by decide +kernel)) (fun _ _ _ _ _ => (pg_name (i := 6) sc__law_all_rows.nd rfl (.inl rfl))) (fun _ _ _ _ _ => pts_nil) (fun _ _ _ _ _ => (pe_tup (pa_cons pe_str (pa_cons (pe_ix (r := rIxL K) ix_list (pv 2) pe_int (fun _ _ => rfl)) pa_nil))))) pa_nil))) pa_nil))))
      (pss_one (ps_ret (pv 5)))))))))), ?_⟩
    have f4 := hf 4
    have f5 := hf 5
    have f6 := hf 6
    have f7 := hf 7
    obtain ⟨n5, hn5⟩ : ∃ n : Nat, (6 : Int) + ft fs 5 = n := ⟨(6 + ft fs 5).toNat, (Int.toNat_of_nonneg (by omega)).symm⟩
    obtain ⟨n6, hn6⟩ : ∃ n : Nat, (4 : Int) + ft fs 6 = n := ⟨(4 + ft fs 6).toNat, (Int.toNat_of_nonneg (by omega)).symm⟩
    obtain ⟨n7, hn7⟩ : ∃ n : Nat, (8 : Int) + ft fs 7 = n := ⟨(8 + ft fs 7).toNat, (Int.toNat_of_nonneg (by omega)).symm⟩
    refine ⟨_, rfl, _, rfl, fl, _, 5, _, rfl, rfl, hfl, at_ft (i := 5) (by omega), _, _, rfl, rfl, sz_lit (by decide), fun e1 he1 => ?_⟩
    have s1 := Same.new (o := .lst []) he1
    have l1 := at_new (o := .lst []) he1
    revert s1 l1
    generalize upd H e1 _ = H1
    intro s1 l1
    refine ⟨p, c, e1, n5, 8, [], congrArg (fun n => [V.ref p, V.int n, V.int 8, V.ref e1]) hn5, hp.mono s1, .inl (.inl l1), by decide, by decide, by show 0 + n5 ≤ 25; omega, fun a1 ls H2 ha1 b2 pl2 l2 hl2 nd2 w2 => ?_⟩
    have b02 : But p H H2 := (Same.but s1).trans b2
    refine ⟨_, rfl, _, rfl, fl, _, 6, _, rfl, rfl, hfl.kp (hp.kp b02), at_ft (i := 6) (by omega), _, _, rfl, rfl, sz_lit (by decide), fun e2 he2 => ?_⟩
    have s3 := Same.new (o := .lst [.str "in"]) he2
    have l3 := at_new (o := .lst [.str "in"]) he2
    revert s3 l3
    generalize upd H2 e2 _ = H3
    intro s3 l3
    refine ⟨p, c, e2, n6, 8, ["in"], congrArg (fun n => [V.ref p, V.int n, V.int 8, V.ref e2]) hn6, pl2.mono s3, .inl (.inl l3), by decide, by decide, by show 1 + n6 ≤ 25; omega, fun a2 ss H4 ha2 b4 pl4 l4 hl4 nd4 w4 => ?_⟩
    have b24 : But p H2 H4 := (Same.but s3).trans b4
    have b04 : But p H H4 := b02.trans b24
    refine ⟨_, rfl, _, rfl, fl, _, 7, _, rfl, rfl, hfl.kp (hp.kp b04), at_ft (i := 7) (by omega), _, _, rfl, rfl, sz_lit (by decide), fun e3 he3 => ?_⟩
    have s5 := Same.new (o := .lst []) he3
    have l5 := at_new (o := .lst []) he3
    revert s5 l5
    generalize upd H4 e3 _ = H5
    intro s5 l5
    refine ⟨p, c, e3, n7, 8, [], congrArg (fun n => [V.ref p, V.int n, V.int 8, V.ref e3]) hn7, pl4.mono s5, .inl (.inl l5), by decide, by decide, by show 0 + n7 ≤ 25; omega, fun a3 gs H6 ha3 b6 pl6 l6 hl6 nd6 w6 => ?_⟩
    have b46 : But p H4 H6 := (Same.but s5).trans b6
    have b26 : But p H2 H6 := b24.trans b46
    have b06 : But p H H6 := b04.trans b46
    have n1 : a1 ≠ p := fun e => by obtain ⟨_, h⟩ := pl2.at; rw [e, h] at l2; cases l2
    have n2 : a2 ≠ p := fun e => by obtain ⟨_, h⟩ := pl4.at; rw [e, h] at l4; cases l4
    have l26 : H6 a1 = some (.lst (ls.map V.str)) := b26 _ _ l2 n1
    have l46 : H6 a2 = some (.lst (ss.map V.str)) := b46 _ _ l4 n2
    refine ⟨_, rfl, a1, rfl, ⟨_, .inl (.inl l26)⟩, fun D1 hD1 => ?_⟩
    refine lc_it (walk_list (xs := ls.map V.str)) (fun i H' => ∃ acc, H' D1 = some (.lst acc) ∧ acc.length = i ∧ DpAll K (cutH (· = D1) H') acc ((ls.take i).map dropR) ∧ Same H6 H') ⟨[], upd_same, rfl, .nil, Same.new hD1⟩ (fun i H' _ q => .inl (.inl (q.choose_spec.2.2.2 _ _ l26))) ?_ ?_
    · rintro i x H5 H7 hi ⟨acc, hacc, hal, hdp, sm⟩ ⟨rfl, hx⟩
      have hi' : i < ls.length := by rw [List.length_map] at hi; exact hi
      have hli : ls[i]? = some ls[i] := List.getElem?_eq_getElem hi'
      obtain rfl : x = .str ls[i] := by
        rw [List.getElem?_map, hli] at hx
        exact (Option.some.inj hx).symm
      refine ⟨rfl, _, rfl, sz2 _ _, fun t ht => ?_⟩
      have s8 := Same.new (o := .tup [.str "drop", .str ls[i]]) ht
      have l8 := at_new (o := .tup [.str "drop", .str ls[i]]) ht
      revert s8 l8
      generalize upd H7 t _ = H8
      intro s8 l8
      have htD : t ≠ D1 := fun e => by rw [e, hacc] at ht; cases ht
      refine ⟨acc, s8 _ _ hacc, lt_sz (by omega), acc ++ [.ref t], upd_same, by rw [List.length_append, hal]; rfl, ?_, fun b o hb => ?_⟩
      · rw [cut_upd (S := (· = D1)) rfl, TS.take_one hli, List.map_append]
        exact (DpAll.mono (cut_same s8) hdp).append (.cons (.tup (.inl (.inl (by rw [cut_not (S := (· = D1)) htD]; exact l8))) (.cons (.str _) (.cons (.str _) .nil))) .nil)
      · rw [L2.upd_ne (ne_of_none hb hD1)]
        exact s8 b o (sm b o hb)
    · rintro H7 ⟨acc1, hacc1, hal1, hdp1, s67⟩
      rw [List.length_map] at hal1
      rw [List.length_map, List.take_length] at hdp1
      refine ⟨_, rfl, a2, rfl, ⟨_, .inl (.inl (s67 _ _ l46))⟩, fun D2 hD2 => ?_⟩
      refine lc_it (walk_list (xs := ss.map V.str)) (fun i H' => ∃ acc, H' D2 = some (.lst acc) ∧ acc.length = i ∧ DpAll K (cutH (· = D2) H') acc ((ss.take i).map fun z => SR.dat (.put z)) ∧ Same H7 H') ⟨[], upd_same, rfl, .nil, Same.new hD2⟩ (fun i H' _ q => .inl (.inl (q.choose_spec.2.2.2 _ _ (s67 _ _ l46)))) ?_ ?_
      · rintro i x H5 H8 hi ⟨acc, hacc, hal, hdp, sm⟩ ⟨rfl, hx⟩
        have hi' : i < ss.length := by rw [List.length_map] at hi; exact hi
        have hli : ss[i]? = some ss[i] := List.getElem?_eq_getElem hi'
        obtain rfl : x = .str ss[i] := by
          rw [List.getElem?_map, hli] at hx
          exact (Option.some.inj hx).symm
        refine ⟨rfl, _, rfl, sz_lit (by show 3 ≤ 100000; decide), fun t ht => ?_⟩
        have s8 := Same.new (o := .tup [.str "put", .str ss[i], .str "a"]) ht
        have l8 := at_new (o := .tup [.str "put", .str ss[i], .str "a"]) ht
        revert s8 l8
        generalize upd H8 t _ = H9
        intro s8 l8
        have htD : t ≠ D2 := fun e => by rw [e, hacc] at ht; cases ht
        refine ⟨acc, s8 _ _ hacc, lt_sz (by omega), acc ++ [.ref t], upd_same, by rw [List.length_append, hal]; rfl, ?_, fun b o hb => ?_⟩
        · rw [cut_upd (S := (· = D2)) rfl, TS.take_one hli, List.map_append]
          exact (DpAll.mono (cut_same s8) hdp).append (.cons (.tup (.inl (.inl (by rw [cut_not (S := (· = D2)) htD]; exact l8))) (.cons (.str _) (.cons (.str _) (.cons (.str _) .nil)))) .nil)
        · rw [L2.upd_ne (ne_of_none hb hD2)]
          exact s8 b o (sm b o hb)
      · rintro H8 ⟨acc2, hacc2, hal2, hdp2, s78⟩
        rw [List.length_map] at hal2
        rw [List.length_map, List.take_length] at hdp2
        refine ⟨D1, D2, acc1, acc2, rfl, rfl, s78 _ _ hacc1, hacc2, sz_lit (by omega), fun q1 hq1 => ?_⟩
        have s9 := Same.new (o := .lst (acc1 ++ acc2)) hq1
        have l9 := at_new (o := .lst (acc1 ++ acc2)) hq1
        revert s9 l9
        generalize upd H8 q1 _ = H9
        intro s9 l9
        refine ⟨sz2 _ _, fun t1 g1 => ?_⟩
        have s10 := Same.new (o := .tup [.str "end", .str "in"]) g1
        have l10 := at_new (o := .tup [.str "end", .str "in"]) g1
        revert s10 l10
        generalize upd H9 t1 _ = H10
        intro s10 l10
        refine ⟨sz_lit (by show 1 ≤ 100000; decide), fun e4 he4 => ?_⟩
        have s11 := Same.new (o := .lst [.ref t1]) he4
        have l11 := at_new (o := .lst [.ref t1]) he4
        revert s11 l11
        generalize upd H10 e4 _ = H11
        intro s11 l11
        refine ⟨q1, e4, _, _, rfl, rfl, s11 _ _ (s10 _ _ l9), l11, sz_lit (by rw [List.length_append]; show _ + 1 ≤ _; omega), fun l hl => ?_⟩
        have dp11 : DpAll K H11 (acc1 ++ acc2 ++ [.ref t1]) ((headSR ls ss).map SR.dat) := by
          unfold headSR
          rw [List.map_append, List.map_append, List.map_map, List.map_map]
          refine DpAll.append (DpAll.append (DpAll.mono (((cut_all.trans s78).trans s9).trans (s10.trans s11)) hdp1) (DpAll.mono ((cut_all.trans s9).trans (s10.trans s11)) hdp2)) (.cons (.tup (.inl (.inl (s11 _ _ l10))) (.cons (.str _) (.cons (.str _) .nil))) .nil)
        have s611 : Same H6 H11 := ((s67.trans s78).trans s9).trans (s10.trans s11)
        have s12 := Same.new (o := .lst (acc1 ++ acc2 ++ [.ref t1])) hl
        have l12 := at_new (o := .lst (acc1 ++ acc2 ++ [.ref t1])) hl
        have dp12 : DpAll K (cutH (· = l) (upd H11 l (.lst (acc1 ++ acc2 ++ [.ref t1])))) (acc1 ++ acc2 ++ [.ref t1]) ((headSR ls ss).map SR.dat) := DpAll.mono (same_cut hl s12) dp11
        revert s12 l12 dp12
        generalize upd H11 l _ = H12
        intro s12 l12 dp12
        have hbase : (headSR ls ss).length = ls.length + ss.length + 1 := by
          unfold headSR
          rw [List.length_append, List.length_append, List.length_map, List.length_map]
          rfl
        have hgl : gs.length = n7 := hl6
        refine ⟨_, rfl, a3, _, rfl, .inl (.inl (.inl (s12 _ _ (s611 _ _ l6)))), _, rfl, by omega, by rw [List.length_map]; omega, ?_⟩
        rw [Int.toNat_natCast, List.length_map]
        refine for_it (walk_range (lo := 0) (n := gs.length)) (fun i σ H' => (∃ y6 : Option V, σ = [some (.ref p), some (.ref fl), some (.ref a1), some (.ref a2), some (.ref a3), some (.ref l), y6, none, none, none]) ∧ ∃ acc, H' l = some (.lst acc) ∧ acc.length = (headSR ls ss).length + i ∧ DpAll K (cutH (· = l) H') acc ((headSR ls ss ++ gatesSR 0 (gs.take i)).map SR.dat) ∧ Same H11 H') ⟨⟨_, rfl⟩, _, l12, ?_, ?_, s12⟩ (fun _ _ _ _ _ => trivial) ?_ ?_
        · rw [hbase, List.length_append, List.length_append, hal1, hal2]
          rfl
        · rw [List.take_zero]
          show DpAll K _ _ ((headSR ls ss ++ []).map SR.dat)
          rw [List.append_nil]
          exact dp12
        · rintro i x σ H14 H13 hi ⟨⟨y6, rfl⟩, acc, hacc, hal, hdp, sm⟩ ⟨rfl, rfl⟩
          have hgi : gs[i]? = some gs[i] := List.getElem?_eq_getElem hi
          have l6i : SqL K H13 a3 (gs.map V.str) := .inl (.inl (sm _ _ (s611 _ _ l6)))
          have zi : (0 : Int) + (i : Int) = i := by omega
          have atg : atI (gs.map V.str) (0 + (i : Int)) = some (.str gs[i]) := by rw [zi]; exact atI_nat (by rw [List.getElem?_map, hgi]; rfl)
          have hmod : ((0 : Int) + (i : Int)).fmod 2 = ((i % 2 : Nat) : Int) := by
            rw [Int.fmod_eq_emod_of_nonneg _ (by decide)]
            omega
          refine ⟨_, rfl, _, _, rfl, rfl, (by show (2 : Int) ≠ 0; decide), rfl, _, rfl, ?_⟩
          have fin : ∀ (t : Addr) (H15 : Hp), Same H13 H15 → Dp K (cutH (· = l) H15) (.ref t) (SR.dat (gateSR i gs[i])) → (∃ y6 : Option V, ([some (.ref p), some (.ref fl), some (.ref a1), some (.ref a2), some (.ref a3), some (.ref l), some (.int (0 + (i : Int))), none, none, none] : L2.St) = [some (.ref p), some (.ref fl), some (.ref a1), some (.ref a2), some (.ref a3), some (.ref l), y6, none, none, none]) ∧ ∃ acc', upd H15 l (.lst (acc ++ [.ref t])) l = some (.lst acc') ∧ acc'.length = (headSR ls ss).length + (i + 1) ∧ DpAll K (cutH (· = l) (upd H15 l (.lst (acc ++ [.ref t])))) acc' ((headSR ls ss ++ gatesSR 0 (gs.take (i + 1))).map SR.dat) ∧ Same H11 (upd H15 l (.lst (acc ++ [.ref t]))) := by
            intro t H15 s15 hd
            refine ⟨⟨_, rfl⟩, _, upd_same, by rw [List.length_append, hal]; rfl, ?_, fun b o hb => ?_⟩
            · rw [cut_upd (S := (· = l)) rfl, gatesSR_take hgi, ← List.append_assoc, List.map_append]
              exact (DpAll.mono (cut_same s15) hdp).append (.cons hd .nil)
            · rw [L2.upd_ne (ne_of_none hb hl)]
              exact s15 b o (sm b o hb)
          by_cases ev : i % 2 = 0
          · refine ifT (decide_eq_true (congrArg V.int (by rw [hmod, ev]; rfl))) ?_
            refine ⟨_, rfl, .inl ⟨rfl, _, .inl (.inl hacc)⟩, _, rfl, _, rfl, a3, _, _, _, rfl, rfl, l6i, atg, sz_lit (by show 0 ≤ 100000; decide), fun x1 g1 => ⟨sz_lit (by show 0 ≤ 100000; decide), fun x2 g2 => ⟨sz_lit (by show 4 ≤ 100000; decide), fun t g3 => ?_⟩⟩⟩
            have r1 := Same.new (o := .lst []) g1
            have r2 := Same.new (o := .lst []) g2
            have r3 := Same.new (o := .tup [.str "gate", .str gs[i], .ref x1, .ref x2]) g3
            have q1' := at_new (o := .lst []) g1
            have q2' := at_new (o := .lst []) g2
            have q3' := at_new (o := .tup [.str "gate", .str gs[i], .ref x1, .ref x2]) g3
            have r13 := (r1.trans r2).trans r3
            have x1l : x1 ≠ l := fun e => by rw [e, hacc] at g1; cases g1
            have x2l : x2 ≠ l := fun e => by rw [e, r1 _ _ hacc] at g2; cases g2
            have tl : t ≠ l := fun e => by rw [e, r2 _ _ (r1 _ _ hacc)] at g3; cases g3
            refine ⟨l, _, _, rfl, rfl, r13 _ _ hacc, lt_sz (by omega), fin t _ r13 ?_⟩
            show Dp K _ _ (SR.dat (if i % 2 = 0 then SR.gate gs[i] else SR.past gs[i]))
            rw [if_pos ev]
            exact .tup (.inl (.inl (by rw [cut_not (S := (· = l)) tl]; exact q3'))) (.cons (.str _) (.cons (.str _) (.cons (.lst (xs := []) (.inl (.inl (by rw [cut_not (S := (· = l)) x1l]; exact r3 _ _ (r2 _ _ q1')))) .nil) (.cons (.lst (xs := []) (.inl (.inl (by rw [cut_not (S := (· = l)) x2l]; exact r3 _ _ q2'))) .nil) .nil))))
          · refine ifF (decide_eq_false fun z => ev (by have := V.int.inj z; rw [hmod] at this; omega)) ?_
            refine ⟨_, rfl, .inl ⟨rfl, _, .inl (.inl hacc)⟩, _, rfl, _, rfl, a3, _, _, _, rfl, rfl, l6i, atg, sz_lit (by show 0 ≤ 100000; decide), fun x1 g1 => ⟨sz_lit (by show 3 ≤ 100000; decide), fun t g3 => ?_⟩⟩
            have r1 := Same.new (o := .lst []) g1
            have r3 := Same.new (o := .tup [.str "past", .str gs[i], .ref x1]) g3
            have q1' := at_new (o := .lst []) g1
            have q3' := at_new (o := .tup [.str "past", .str gs[i], .ref x1]) g3
            have r13 := r1.trans r3
            have x1l : x1 ≠ l := fun e => by rw [e, hacc] at g1; cases g1
            have tl : t ≠ l := fun e => by rw [e, r1 _ _ hacc] at g3; cases g3
            refine ⟨l, _, _, rfl, rfl, r13 _ _ hacc, lt_sz (by omega), fin t _ r13 ?_⟩
            show Dp K _ _ (SR.dat (if i % 2 = 0 then SR.gate gs[i] else SR.past gs[i]))
            rw [if_neg ev]
            exact .tup (.inl (.inl (by rw [cut_not (S := (· = l)) tl]; exact q3'))) (.cons (.str _) (.cons (.str _) (.cons (.lst (xs := []) (.inl (.inl (by rw [cut_not (S := (· = l)) x1l]; exact r3 _ _ q1'))) .nil) .nil)))
        · rintro σ H13 ⟨⟨y6, rfl⟩, acc, hacc, hal, hdp, sm⟩
          rw [List.take_length] at hdp
          have b013 : But p H H13 := b06.trans (Same.but (s611.trans sm))
          have pl13 := pl6.mono (s611.trans sm)
          have hfl13 := hfl.kp (hp.kp b013)
          have hbl : (baseSR ls ss gs).length = acc.length := by
            unfold baseSR
            rw [List.length_append, gatesSR_len, hal]
          have hal' : acc.length ≤ 30 := by omega
          obtain ⟨m, hm⟩ : ∃ m : Nat, (60 : Int) + ft fs 4 - (acc.length : Int) - 1 = m := ⟨(60 + ft fs 4 - (acc.length : Int) - 1).toNat, (Int.toNat_of_nonneg (by omega)).symm⟩
          refine ⟨_, rfl, fl, _, 4, _, rfl, rfl, hfl13, at_ft (i := 4) (by omega), _, _, rfl, rfl, _, rfl, l, _, rfl, .inl (.inl (.inl hacc)), _, _, rfl, rfl, _, _, rfl, rfl, ?_⟩
          show tSeq _ _ _ (List.set _ 7 (some (V.int (60 + ft fs 4 - (acc.length : Int) - 1)))) H13
          rw [hm]
          refine ⟨_, rfl, .inl ⟨rfl, _, .inl (.inl hacc)⟩, _, rfl, _, rfl, l, _, rfl, .inl (.inl (.inl hacc)), p, c, _, rfl, pl13, by omega, fun r H14 r1 r2 b14 pl14 => ?_⟩
          obtain ⟨r, rfl⟩ := Int.eq_ofNat_of_zero_le r1
          have nlp : l ≠ p := ((pl6.mono s611).new hl).1
          have nlc : l ≠ c := ((pl6.mono s611).new hl).2
          have hacc14 := b14 _ _ hacc nlp
          have l2' : H14 a1 = some (.lst (ls.map V.str)) := b14 _ _ (sm _ _ (s611 _ _ l26)) n1
          have hls : 0 < ls.length := by omega
          have h0 : ls[0]? = some ls[0] := List.getElem?_eq_getElem hls
          obtain ⟨l0, hl0⟩ : ∃ z, z = ls[0] := ⟨_, rfl⟩
          rw [← hl0] at h0
          have hl0m : l0 ∈ ls := List.mem_of_getElem? h0
          refine ⟨_, rfl, m, rfl, by omega, by omega, fun D3 hD3 => ?_⟩
          rw [Int.toNat_natCast]
          refine lc_it (walk_range (lo := 0) (n := m)) (fun i H' => ∃ acc3, H' D3 = some (.lst acc3) ∧ acc3.length = i ∧ DpAll K (cutH (fun b => b = D3 ∨ b = l) H') acc3 (List.replicate i (dropR l0)) ∧ Same H14 H') ⟨[], upd_same, rfl, .nil, Same.new hD3⟩ (fun _ _ _ _ => trivial) ?_ ?_
          · rintro i x H5 H15 hi ⟨acc3, hacc3, hal3, hdp3, s15⟩ ⟨rfl, rfl⟩
            refine ⟨rfl, _, rfl, a1, _, 0, .str l0, rfl, rfl, .inl (.inl (s15 _ _ l2')), atI_nat (j := 0) (by rw [List.getElem?_map, h0]; rfl), sz2 _ _, fun t ht => ?_⟩
            have s8 := Same.new (o := .tup [.str "drop", .str l0]) ht
            have l8 := at_new (o := .tup [.str "drop", .str l0]) ht
            revert s8 l8
            generalize upd H15 t _ = H16
            intro s8 l8
            have htD : ¬ (t = D3 ∨ t = l) := fun e => by
              rcases e with e | e
              · rw [e, hacc3] at ht
                cases ht
              · rw [e, s15 _ _ hacc14] at ht
                cases ht
            refine ⟨acc3, s8 _ _ hacc3, lt_sz (by omega), acc3 ++ [.ref t], upd_same, by rw [List.length_append, hal3]; rfl, ?_, fun b o hb => ?_⟩
            · rw [cut_upd (S := fun b => b = D3 ∨ b = l) (.inl rfl), List.replicate_succ']
              exact (DpAll.mono (cut_same s8) hdp3).append (.cons (.tup (.inl (.inl (by rw [cut_not (S := fun b => b = D3 ∨ b = l) htD]; exact l8))) (.cons (.str _) (.cons (.str _) .nil))) .nil)
            · rw [L2.upd_ne (ne_of_none hb hD3)]
              exact s8 b o (s15 b o hb)
          · rintro H15 ⟨acc3, hacc3, hal3, hdp3, s15⟩
            have D3l : D3 ≠ l := fun e => by rw [e, hacc14] at hD3; cases hD3
            have dpl : DpAll K (cutH (· = l) H15) acc3 (List.replicate m (dropR l0)) := DpAll.mono (cut_sub fun b hb => .inr hb) hdp3
            refine ⟨sz2 _ _, fun t4 g4 => ?_⟩
            have s16 := Same.new (o := .tup [.str "part", .ref D3]) g4
            have l16 := at_new (o := .tup [.str "part", .ref D3]) g4
            revert s16 l16
            generalize upd H15 t4 _ = H16
            intro s16 l16
            have t4l : t4 ≠ l := fun e => by rw [e, s15 _ _ hacc14] at g4; cases g4
            have hlH : H l = none := (b06.trans (Same.but s611)).free hl nlp
            have hacc16 := s16 _ _ (s15 _ _ hacc14)
            refine ⟨l, acc, (r : Int), _, rfl, rfl, hacc16, lt_sz (by omega), by omega, by omega, ?_⟩
            refine ⟨_, rfl, k l _ (insSR (baseSR ls ss gs) r (.part m l0)) _ hlH (fun b o hb n => ?_) ((pl14.mono (s15.trans s16)).put nlp nlc) upd_same ?_ ?_⟩
            · rw [L2.upd_ne (ne_of_none hb hlH)]
              exact s16 _ _ (s15 _ _ (b14 _ _ (b013 b o hb n) n))
            · exact rowsV_mk (by omega) (by omega) (by omega) hf nd2 nd4 nd6 (fun z hz => (w2 z hz).1) (fun z hz => ⟨(w4 z hz).1, fun e => (w4 z hz).2 (by rw [e]; exact List.mem_singleton.mpr rfl)⟩) (fun z hz => (w6 z hz).1) (by omega) l0 hl0m
            · rw [cut_upd (S := (· = l)) rfl, Int.toNat_natCast]
              have dpA : DpAll K (cutH (· = l) H16) acc ((baseSR ls ss gs).map SR.dat) := DpAll.kp (cut_kpS ((pl13.kp b14).trans (s15.trans s16).kp)) hdp
              unfold insSR
              rw [List.map_append, List.map_append, List.map_take, List.map_drop]
              refine DpAll.append (DpAll.append (dp_take r dpA) (.cons (.tup (.inl (.inl (by rw [cut_not (S := (· = l)) t4l]; exact l16))) (.cons (.str _) (.cons (.lst (.inl (.inl (by rw [cut_not (S := (· = l)) D3l]; exact s16 _ _ hacc3))) (DpAll.mono (cut_same s16) dpl)) .nil))) .nil)) (DpAll.drop r dpA)
end
end Op
/-! a dict with keys of any kind, as one known object -/
namespace L2
open PySem PySem.Spec PyProof.Rows
def RawD (d : Addr) (od : Obj) : HO := .ext fun h => h.get? d = some od
structure RawF (d : Addr) (od : Obj) (kvs : List (V × V)) : Prop where
  ex : od.ExactDict
  dat : ∃ es ep, od.data = .dict es ep ∧ Paired (fun (p : V × V) (e : DictEntry) => RelV p.1 e.key ∧ RelV p.2 e.val) kvs es.toList
  sz : kvs.length ≤ sizeLine
  ns : (d == sysModules) = false
section
variable {X : Cx} {pins : List (Addr × Obj)} {σ : St} {H : Hp} {s : Shared} {d : Addr} {od : Obj} {kvs : List (V × V)}
theorem raw_get (I : Inv X pins σ H s) (e : H d = some (RawD d od)) : s.heap.get? d = some od := (show ObjOk X.prog X.w H s.heap d (RawD d od) from I.hok d _ e).1
theorem raw_ok {P : Program} {w : World} {h : Heap} (e : h.get? d = some od) : ObjOk P w H h d (RawD d od) := ⟨e, ⟨od, e⟩, fun h1 h2 q k => k od q⟩
theorem call_isiO : CallR X (.builtin "isinstance") (fun xs H Q => ∃ p od kvs c, xs = [.ref p, c] ∧ ClsV c (.type "dict") ∧ H p = some (RawD p od) ∧ RawF p od kvs ∧ Q (.bl true) H) := by
  intro pins s σ H xs us Q I r h
  obtain ⟨p, od, kvs, c, rfl, k, e, F, q⟩ := h
  obtain ⟨u1, u2, rfl, r1, r2⟩ := vals2 r
  have e2 := k.eq r2
  subst e2
  cases (show u1 = Value.ref p from r1)
  have hk : PySem.W.kitOne X.K (.type "dict") (.type "dict") = some true := kit_ty (show kitB "dict" "dict" = some true by decide +kernel)
  exact PySem.W.kia_one PySem.W.kitx_dict I.kIn ⟨od, raw_get I e, F.ex.1⟩ hk (fun z => nomatch z) fun tk => ⟨.bl true, H, I.tok tk, rfl, q⟩
theorem call_lenO : CallR X (.builtin "len") (fun xs H Q => ∃ p od kvs, xs = [.ref p] ∧ H p = some (RawD p od) ∧ RawF p od kvs ∧ Q (.int kvs.length) H) := by
  intro pins s σ H xs us Q I r h
  obtain ⟨p, od, kvs, rfl, e, F, q⟩ := h
  obtain ⟨u, rfl, ru⟩ := vals1 r
  cases (show u = Value.ref p from ru)
  obtain ⟨es, ep, hd, pr⟩ := F.dat
  have hl : es.size = kvs.length := by rw [pr.length]; simp
  have hm : s.heap.DictRaw p es ep := ⟨od, raw_get I e, F.ex, hd⟩
  have hz := F.sz
  refine call_len_slot (n := (es.size : Int)) hm.typeIs PySem.F.slot_dict_len (fun Q' hq => call_len_raw F.ns hm hq) (by omega) (by rw [sizeLine_eq] at hz; omega) ?_
  exact ⟨.int kvs.length, H, I.tok _, ⟨s.toks + 1, by rw [hl]⟩, q⟩
/-- the pairs, each a new tuple -/
def ItiO (d : Addr) (od : Obj) (kvs : List (V × V)) : It :=
  ⟨fun i H => H d = some (RawD d od) ∧ i < kvs.length, fun i H x H' => ∃ T k v, kvs[i]? = some (k, v) ∧ x = .ref T ∧ H T = none ∧ H' = upd H T (.tup [k, v]), fun i H => H d = some (RawD d od) ∧ kvs.length ≤ i⟩
theorem paired_getO {α β : Type} {R : α → β → Prop} : ∀ {l : List α} {m : List β} {i : Nat} {a : α}, Paired R l m → l[i]? = some a → ∃ b, m[i]? = some b ∧ R a b
  | _, _, i, a, .nil, h => by simp at h
  | _, _, 0, a, .cons r t, h => by
    cases h
    exact ⟨_, rfl, r⟩
  | _, _, i + 1, a, .cons r t, h => paired_getO (i := i) t h
theorem turn_itemsO {P : Program} {w : World} {K : PySem.W.Frag} {elts : List Expr} {kk : Nat} {tpos : Pos} {es : Array DictEntry} {ep : Nat} (it : Addr) (F : RawF d od kvs) (hod : od.data = .dict es ep) (pr : Paired (fun (p : V × V) (e : DictEntry) => RelV p.1 e.key ∧ RelV p.2 e.val) kvs es.toList) :
    Turn P w K (.Tuple elts kk tpos) (ItiO d od kvs) [it] it (fun i h => ∃ ok ov, IsItemIter h it d i es.size ep ok ov) where
  mem := by simp
  obj := fun i h st b hb => by
    have e : b = it := by simpa using hb
    subst e
    obtain ⟨ok, ov, e⟩ := st
    exact ⟨_, e, fun v z => nomatch z⟩
  keep := fun i h h' st k => let ⟨ok, ov, e⟩ := st; ⟨ok, ov, k it (by simp) _ e⟩
  item := by
    intro X hP hw hK hc i pins s σ H E I hf st hg
    subst hP hw hK
    obtain ⟨hd, hi⟩ := hg
    have hm : s.heap.DictRaw d es ep := ⟨od, raw_get I hd, F.ex, hod⟩
    have hl : es.size = kvs.length := by rw [pr.length]; simp
    obtain ⟨⟨k, v⟩, hkv⟩ : ∃ p, kvs[i]? = some p := ⟨kvs[i], List.getElem?_eq_getElem hi⟩
    obtain ⟨en, hen, rk, rv⟩ := paired_getO pr hkv
    have hlt' : i < es.size := by omega
    have hen' : es[i] = en := by
      have h1 : es.toList[i]? = some es[i] := by rw [Array.getElem?_toList]; exact Array.getElem?_eq_getElem hlt'
      rw [hen] at h1
      exact (Option.some.inj h1).symm
    obtain ⟨ok, ov, he⟩ := st
    have hlt : it < s.heap.objs.size := Heap.lt_size he
    refine wpAny_pyNext_items_item_raw he hm hlt' fun h' ho hT hz hk => ?_
    refine ⟨_, rfl, wpAny_letOwnedTupleGo_items (s := { s with heap := h' }) ho fun h'' he' sb => ?_⟩
    rw [hen'] at hT
    have hT2 : h''.get? s.heap.objs.size = some { cls := .type "tuple", data := .seq #[en.key, en.val] } := (sb.2 _ (Nat.ne_of_gt hlt)).trans hT
    have new : ObjOk X.prog X.w (upd H s.heap.objs.size (.tup [k, v])) h'' s.heap.objs.size (.tup [k, v]) :=
      ⟨by show 2 ≤ sizeLine; decide, [en.key, en.val], .cons rk (.cons rv .nil), ⟨_, hT2, rfl, _, rfl⟩⟩
    have I1 : Inv X pins σ (upd H s.heap.objs.size (.tup [k, v])) { s with heap := h'' } :=
      I.turnedNew (t' := s.toks) (ch := [it]) (fun b ob hb e => (sb.2 b (by simpa using hb)).trans (hk b ob (by simpa using hb) e)) hf (Nat.le_refl _) new
    refine ⟨.ref s.heap.objs.size, _, I1, rfl, ⟨_, k, v, hkv, rfl, I.hok.fresh (Nat.le_refl _), rfl⟩, ⟨_, _, he'⟩, fun b hb => ?_⟩
    have e : b = it := by simpa using hb
    rw [e, upd_ne (Nat.ne_of_lt hlt)]
    exact (hf it (by simp)).1
  done := by
    intro X hP hw hK hc i pins s σ H E I hf st hg
    subst hP hw hK
    obtain ⟨hd, hi⟩ := hg
    obtain ⟨f0, f1, f2, f3, f4, f5⟩ := hf it (by simp)
    have hm : s.heap.DictRaw d es ep := ⟨od, raw_get I hd, F.ex, hod⟩
    have hl : es.size = kvs.length := by rw [pr.length]; simp
    obtain ⟨ok, ov, he⟩ := st
    exact wpAny_pyNext_items_end_raw (I.ok.hd hc) he hm (by omega) fun h' eb => ⟨rfl, I.turned (t' := s.toks) (fun b ob hb e => eb b ob hb e) f0 f1 f3 f4 f5⟩
  self := fun A i s Q E st h => let ⟨_, _, e⟩ := st; PySem.W.kcp_self e h
def iItemsO (td : TE) : TI := fun σ H R => td σ H fun x H1 => ∃ d od kvs, x = .ref d ∧ H1 d = some (RawD d od) ∧ RawF d od kvs ∧ R (ItiO d od kvs) H1
theorem pi_itemsO {e : Expr} {td : TE} {apos cpos : Pos} {elts : List Expr} {kk : Nat} {tpos : Pos} (he : PE X e td) (hbase : attributeBase e "items" X.env (eval e X.env) = eval e X.env := by rfl) (hline : (apos.endLine == cpos.line) = true := by rfl) :
    PI X (.Tuple elts kk tpos) (.Call (.Attribute e "items" apos) [] [] cpos) (iItemsO td) := by
  refine ⟨fun pins s σ H R I h => ?_⟩
  refine wpAny_Call_method (T := "dict") (id := "dict.items") hbase rfl hline F.plainAttrs_dict F.slot_dict_items F.type_dict_items (thn (he.run pins s σ H _ I h) fun u s1 ⟨x, H1, I1, rx, d, od, kvs, ex, hd, Fd, q⟩ => ?_)
  subst ex
  obtain rfl : u = Value.ref d := rx
  obtain ⟨es, ep, hdt, pr⟩ := Fd.dat
  have hm : s1.heap.DictRaw d es ep := ⟨od, raw_get I1 hd, Fd.ex, hdt⟩
  refine ⟨hm.typeIs, fun b e => by injection e with e; subst e; exact ⟨od, raw_get I1 hd, Fd.ex.2.1⟩, ?_⟩
  have I2 : Inv X pins σ H1 { s1 with heap := s1.heap.push { cls := .type "dict_items", data := .fields #[.ref d] } } := I1.kept (t' := s1.toks) fun b ob q => Heap.get?_push_of_some _ q
  have fin : wpAny (model X.prog X.w) X.A (pyIter (.ref s1.heap.objs.size)) (PIE X pins σ (.Tuple elts kk tpos) R) X.xe { s1 with heap := s1.heap.push { cls := .type "dict_items", data := .fields #[.ref d] } } := by
    refine wpAny_pyIter_items_raw (d := d) ⟨_, Heap.get?_push_size _ rfl, rfl, rfl⟩ (hm.at fun o e => Heap.get?_push_of_some _ e) (pi_one (tk := s1.toks) I2 _ (turn_itemsO _ Fd hdt pr) ⟨.none, .none, ?_⟩ q)
    exact Heap.get?_push_size _ rfl
  show wpAny _ _ (callWith cpos (.builtin "dict.items") [.ref d] [] []) _ X.xe s1
  exact method_meetsIn F.slot_dict_items F.entry_dict_items rfl (PySem.evalArgs_none ⟨rfl, hm.typeIs, F.args_dict_items_1 _, _, meets_dict_items_raw d Fd.ns, ⟨es, ep, hm⟩, fin⟩)
theorem walk_itemsO : Walk (ItiO d od kvs) kvs.length (fun H => H d = some (RawD d od)) (YPair (fun i => kvs[i]?.map Prod.fst) (fun i => kvs[i]?.map Prod.snd)) := by
  refine ⟨fun _ _ hi q => ⟨q, hi⟩, fun _ q => ⟨q, Nat.le_refl _⟩, fun i H x H' _ _ y => ?_⟩
  obtain ⟨T, k, v, h1, h2, h3, h4⟩ := y
  exact ⟨T, k, v, h2, h3, h4, by simp [h1], by simp [h1]⟩
end
end L2
namespace L2
open PySem PySem.Spec PyProof.Rows
section
variable {prog : Program} {w : World} {A : Around} {E : Value → Shared → Prop} {s : Shared}
theorem beq_text {x : Str} {k : NestedKey} (h : ∀ x, k ≠ .text x) : NestedKey.beq (.text x) k = false := by
  cases k with
  | text y => exact (h y rfl).elim
  | _ => rfl
/-- a key that is no text, looked for among texts -/
theorem find_miss {d : Addr} {o : Obj} {es : Array DictEntry} {ep : Nat} {k : NestedKey} {key : Value} {Q : Option Nat → Shared → Prop} (hu : A.units + 1 + 8 < cLine) (hkey : NestedIs s.heap k key) (hdep : k.depth ≤ 8) (hne : ∀ x, k ≠ .text x)
    (ho : s.heap.get? d = some o) (hd : o.data = .dict es ep) (hst : ∀ e ∈ es, ∃ x t, e.key = .str x t) (h : Q none s) : wpAny (model prog w) A (dictFind d key (k.hash w)) Q E s := by
  have hns : ∀ x t, key ≠ .str x t := fun x t e => by
    subst e
    cases hkey
    exact hne _ rfl
  have heq : ∀ e ∈ es, ∀ Q : Bool → Shared → Prop, Q false s → wpAny (model prog w) A (eqBool e.key key) Q E s := by
    intro e he Q hq
    obtain ⟨x, t, hx⟩ := hst e he
    rw [hx]
    have := eqAt_key (.text x) k A s (.str x t) key (.text x t) hkey (by show A.units + min 0 _ < cLine; omega)
    rw [beq_text hne] at this
    exact this prog w E Q hq
  unfold dictFind
  try with_reducible refine wpAny_holding ?_
  refine wpAny_bind (wpAny_dictEntries ho hd ?_)
  dsimp only
  have old : wpAny (model prog w) A (dictWalkPlain d key (k.hash w) es (placesWithHash es.size (fun i => es[i]?.map (·.hash)) (k.hash w))) Q E s := by
    refine wpAny_bind ?_
    refine wpAny_forIn_list _ (fun rest b s' => s' = s ∧ b = (none, ())) _ ?_ ?_ _ _ ⟨rfl, rfl⟩
    · rintro x rest b s' ⟨rfl, rfl⟩
      cases hx : es[x]? with
      | none => exact wpAny_pure ⟨rfl, rfl⟩
      | some e =>
        dsimp only
        by_cases hh : (e.hash == k.hash w) = true
        · rw [if_pos hh]
          refine wpAny_bind (wpAny_dictEpoch ho hd (wpAny_bind (heq e (Array.mem_of_getElem? hx) _ (wpAny_bind (wpAny_dictEpoch ho hd ?_)))))
          show wpAny _ _ (if (ep != ep) = true then _ else _) _ E _
          rw [if_neg (by simp)]
          exact wpAny_bind (wpAny_rule (wpAny_pure ⟨rfl, rfl⟩))
        · rw [if_neg hh]
          exact wpAny_pure ⟨rfl, rfl⟩
    · rintro b s' ⟨rfl, rfl⟩
      exact wpAny_pure h
  have hby : ∀ v ∈ (placesWithHash es.size (fun i => es[i]?.map (·.hash)) (k.hash w)).filterMap (fun i => es[i]?.map (·.key)), ∃ x t, v = .str x t := by
    intro v hv
    obtain ⟨i, _, hi⟩ := List.mem_filterMap.mp hv
    cases he : es[i]? with
    | none => rw [he] at hi; cases hi
    | some e =>
      rw [he] at hi
      obtain rfl : e.key = v := by simpa using hi
      exact hst e (Array.mem_of_getElem? he)
  have hall : carriedByValue key = true → ((key :: (placesWithHash es.size (fun i => es[i]?.map (·.hash)) (k.hash w)).filterMap fun i => es[i]?.map (·.key)).all carriedByValue) = true := fun h => by
    rw [List.all_cons, h, Bool.true_and]
    refine List.all_eq_true.mpr fun v hv => ?_
    obtain ⟨x, t, rfl⟩ := hby v hv
    rfl
  cases hkey with
  | none =>
    dsimp only
    rw [if_pos (hall rfl)]
    exact old
  | bool e =>
    dsimp only
    rw [if_pos (hall rfl)]
    exact old
  | int i t =>
    dsimp only
    rw [if_pos (hall rfl)]
    exact old
  | text x t => exact (hne x rfl).elim
  | @tup a oo vs n ks h1 h2 h3 h4 =>
    dsimp only
    rw [if_neg (show ¬ ((Value.ref a :: (placesWithHash es.size (fun i => es[i]?.map (·.hash)) (NestedKey.hash w (.tup ks))).filterMap (fun i => es[i]?.map (·.key))).all carriedByValue) = true by simp [carriedByValue])]
    have hany : ¬ (es.any fun e => e.key == Value.ref a && e.hash != NestedKey.hash w (.tup ks)) = true := by
      rw [← Array.any_toList, List.any_eq_true]
      rintro ⟨e, hin, hc⟩
      obtain ⟨x, t, hx⟩ := hst e (Array.mem_toList_iff.mp hin)
      rw [hx] at hc
      simp at hc
    rw [if_neg hany]
    have htell : ∀ Q : Bool → Shared → Prop, Q false s → wpAny (model prog w) A (tableMayTell (.ref a) ((placesWithHash es.size (fun i => es[i]?.map (·.hash)) (NestedKey.hash w (.tup ks))).filterMap (fun i => es[i]?.map (·.key)))) Q E s := by
      intro Q hq
      unfold tableMayTell
      split
      · exact wpAny_pure hq
      · refine wpAny_bind (quiet_key (.tup ks) _ 8 s (.tup h1 h2 h3 h4) hdep A E _ ?_)
        simp only [Bool.not_true, Bool.false_eq_true, if_false]
        refine wpAny_bind ?_
        refine wpAny_forIn_list _ (fun rest r s' => s' = s ∧ r = (none, ()) ∧ ∀ v ∈ rest, ∃ x t, v = .str x t) _ ?_ ?_ _ _ ⟨rfl, rfl, hby⟩
        · rintro x rest r s' ⟨rfl, rfl, hr⟩
          obtain ⟨y, t, rfl⟩ := hr x List.mem_cons_self
          refine wpAny_bind (show wpAny _ _ (pure true) _ _ _ from wpAny_pure ?_)
          simp only [Bool.not_true, Bool.false_eq_true, if_false]
          exact wpAny_pure ⟨rfl, rfl, fun v hv => hr v (List.mem_cons_of_mem _ hv)⟩
        · rintro r s' ⟨rfl, rfl, _⟩
          exact wpAny_pure hq
    have hone : ¬ (((placesWithHash es.size (fun i => es[i]?.map (·.hash)) (NestedKey.hash w (.tup ks))).filterMap (fun i => es[i]?.map (·.key))) == [Value.ref a]) = true := by
      intro q
      have e := eq_of_beq q
      obtain ⟨x, t, hx⟩ := hby (.ref a) (by rw [e]; exact List.mem_singleton.mpr rfl)
      cases hx
    rw [if_neg hone]
    refine wpAny_bind (htell _ ?_)
    rw [if_neg (by simp)]
    refine wpAny_bind ?_
    refine wpAny_forIn_list _ (fun rest b s' => s' = s ∧ b = (none, none)) _ ?_ ?_ _ _ ⟨rfl, rfl⟩
    · rintro x rest b s' ⟨rfl, rfl⟩
      cases hx : es[x]? with
      | none => exact wpAny_pure ⟨rfl, rfl⟩
      | some e =>
        dsimp only
        by_cases hh : (e.hash == NestedKey.hash w (.tup ks)) = true
        · rw [if_pos hh]
          refine wpAny_bind (wpAny_dictEpoch ho hd (wpAny_bind (heq e (Array.mem_of_getElem? hx) _ (wpAny_bind (wpAny_dictEpoch ho hd ?_)))))
          show wpAny _ _ (if (ep != ep) = true then _ else _) _ E _
          rw [if_neg (by simp)]
          simp only [Bool.false_eq_true, if_false]
          refine wpAny_bind (wpAny_rule ?_)
          first | rw [if_neg (by simp)] | skip
          first
            | exact wpAny_pure ⟨rfl, rfl⟩
            | exact wpAny_bind (wpAny_pure (wpAny_pure ⟨rfl, rfl⟩))
        · rw [if_neg hh]
          exact wpAny_pure ⟨rfl, rfl⟩
    · rintro b s' ⟨rfl, rfl⟩
      exact wpAny_pure h
theorem setItem_odd {d : Addr} {o : Obj} {es : Array DictEntry} {ep : Nat} {k : NestedKey} {key v : Value} {Q : Unit → Shared → Prop} (hu : A.units + 16 < cLine) (hkey : NestedIs s.heap k key) (hdep : k.depth ≤ 8) (hne : ∀ x, k ≠ .text x)
    (ho : s.heap.get? d = some o) (hc : o.ExactDict) (hd : o.data = .dict es ep) (hst : ∀ e ∈ es, ∃ x t, e.key = .str x t) (hes : es.size ≤ sizeLine)
    (hQ : ∀ h' od', h'.get? d = some od' → od'.ExactDict → od'.data = .dict (es.push ⟨k.hash w, key, v⟩) (ep + 1) → Heap.SameBut d s.heap h' → Q () { s with heap := h', toks := s.toks + k.draws }) :
    wpAny (model prog w) A (setItem (.ref d) key v) Q E s := by
  have hm : s.heap.DictRaw d es ep := ⟨o, ho, hc, hd⟩
  unfold setItem
  try with_reducible refine wpAny_holding ?_
  refine wpAny_bind (wpAny_sequenceKey hm.typeIs (by decide) ?_)
  refine wpAny_bind (wpAny_callSpecial?_slot (name := Str.ofString "__setitem__") hm.typeIs slot_dict_setitem
    (wpAny_call_entry slot_dict_setitem hm.typeIs entry_dict_setitem ?_ (args_dict_setitem _ _ _)))
  show wpAny _ _ (Builtin.Dict.notOrdered "__setitem__" ⟨[.ref d, key, v], []⟩ >>= _) _ _ s
  refine wpAny_bind (wpAny_notOrdered_dict hm.typeIs ?_)
  show wpAny _ _ (dictSet d key v >>= _) _ _ s
  refine wpAny_bind ?_
  unfold dictSet
  try with_reducible refine wpAny_holding ?_
  refine wpAny_bind (pyHash_key k key _ _ _ hkey (by show A.units + 1 + k.depth < cLine; omega) ?_)
  unfold dictSetHashed
  try with_reducible refine wpAny_holding ?_
  refine wpAny_bind (find_miss (s := { s with toks := s.toks + k.draws }) (by show A.units + 1 + 1 + 8 < cLine; omega) hkey hdep hne ho hd hst ?_)
  refine wpAny_bind (wpAny_rule (wpAny_updateDictKeys (hz := hes) (s := { s with toks := s.toks + k.draws }) ho hd ?_))
  refine wpAny_pure ⟨.none, rfl, wpAny_pure (hQ _ _ (Heap.get?_update_self _ ho (Obj.isFreed_of_dict (Obj.data_mapDictKeys hd _))) (hc.mapDictKeys _) (Obj.data_mapDictKeys hd _) (Heap.SameBut.update ..))⟩
end
end L2
namespace L2
open PySem PySem.Spec PyProof.Rows
/-- a key that is no text: None, True, a number, a tuple of one text -/
def OddK (H : Hp) (y : V) : Prop := y = .non ∨ y = .bl true ∨ (∃ i, y = .int i) ∨ ∃ t z, y = .ref t ∧ H t = some (.tup [.str z])
def txtK (ws : List (Key × V)) : Prop := ∀ p ∈ ws, ∃ x, p.1 = .inr x
def rawOf (ws : List (Key × V)) : List (V × V) := ws.map fun p => (kV p.1, p.2)
def sDPutO (td ty tv : TE) : TS := fun D σ H => tv σ H fun v H1 => td σ H1 fun x H2 => ty σ H2 fun y H3 => (∃ a H4, x = .ref a ∧ DPut H3 a y v H4 ∧ D.nx σ H4) ∨
  ∃ a ws, x = .ref a ∧ H3 a = some (.dK ws) ∧ txtK ws ∧ ws.length < sizeLine ∧ OddK H3 y ∧ ∀ od, RawF a od (rawOf ws ++ [(y, v)]) → D.nx σ (upd H3 a (RawD a od))
theorem raw_pairs {P : Program} {w : World} : ∀ {ws : List (Key × V)} {vs : List (Key × Value)} {es : List DictEntry}, KV ws vs → Pairs (mixKind P w) es vs → Paired (fun (p : V × V) (e : DictEntry) => RelV p.1 e.key ∧ RelV p.2 e.val) (rawOf ws) es
  | [], [], [], _, _ => .nil
  | p :: ws, q :: vs, e :: es, r, h => by
    cases r with
    | cons r1 r2 =>
      cases h with
      | cons h1 h2 h3 =>
        refine .cons ⟨?_, ?_⟩ (raw_pairs r2 h3)
        · show RelV (kV p.1) e.key
          rw [r1.1]
          exact relV_key h1
        · rw [h2]
          exact r1.2
  | [], q :: vs, _, r, _ => by cases r
  | p :: ws, [], _, r, _ => by cases r
  | [], [], e :: es, _, h => by cases h
  | p :: ws, q :: vs, [], _, h => by cases h
theorem raw_txt {P : Program} {w : World} : ∀ {ws : List (Key × V)} {es : List DictEntry}, txtK ws → Paired (fun (p : V × V) (e : DictEntry) => RelV p.1 e.key ∧ RelV p.2 e.val) (rawOf ws) es → ∀ e ∈ es, ∃ x t, e.key = .str x t
  | [], _, _, .nil, e, he => (List.not_mem_nil he).elim
  | p :: ws, _, hk, .cons r t, e, he => by
    rcases List.mem_cons.mp he with rfl | he
    · obtain ⟨x, hx⟩ := hk p List.mem_cons_self
      have : RelV (kV p.1) e.key := r.1
      rw [hx] at this
      obtain ⟨t, ht⟩ := (show ∃ t, e.key = Value.str x t from this)
      exact ⟨x, t, ht⟩
    · exact raw_txt (P := P) (w := w) (fun q hq => hk q (List.mem_cons_of_mem _ hq)) t e he
section
variable {X : Cx} {o i value : Expr} {pos pos' : Pos} {td ty tv : TE}
theorem odd_key {pins : List (Addr × Obj)} {σ : St} {H : Hp} {s : Shared} {y : V} {u : Value} (I : Inv X pins σ H s) (h : OddK H y) (ry : RelV y u) : ∃ k, NestedIs s.heap k u ∧ k.depth ≤ 8 ∧ ∀ x, k ≠ .text x := by
  rcases h with rfl | rfl | ⟨i, rfl⟩ | ⟨t, z, rfl, ht⟩
  · cases (show u = Value.none from ry)
    exact ⟨.none, .none, by decide, fun x e => by cases e⟩
  · cases (show u = Value.bool true from ry)
    exact ⟨.num 1, .bool rfl, by decide, fun x e => by cases e⟩
  · obtain ⟨t, rfl⟩ := (show ∃ t, u = Value.int i t from ry)
    exact ⟨.num i, .int i t, by simp [NestedKey.depth], fun x e => by cases e⟩
  · cases (show u = Value.ref t from ry)
    obtain ⟨_, its, r, ob, h1, h2, n, h3⟩ := (show ObjOk X.prog X.w H s.heap t (.tup [.str z]) from I.hok t _ ht)
    cases r with
    | cons r1 r2 =>
      cases r2
      obtain ⟨tk, rfl⟩ := (show ∃ t, _ = Value.str z t from r1)
      exact ⟨.tup [.text z], (.tup h1 h2 h3 (.cons (.text z tk) .nil)), by simp [NestedKey.depth, NestedKey.depthAll], fun x e => by cases e⟩
theorem ps_dputO (hu : X.A.units + 64 < cLine) (ho : PE X o td) (hi : PE X i ty) (hv : PE X value tv) (hs : swapsWith value (some (.Subscript o i pos')) pos.line X.env = pure false) :
    PS X (.Assign [.Subscript o i pos'] value pos) (sDPutO td ty tv) := by
  refine ⟨fun pins s σ H D I h => ?_⟩
  refine wpAny_Assign_Subscript (thn (hv.run pins s σ H _ I h) fun r s1 ⟨v, H1, I1, rv, q1⟩ => thn (ho.run pins s1 σ H1 _ I1 q1) fun u s2 ⟨x, H2, I2, rx, q2⟩ => thn (hi.run pins s2 σ H2 _ I2 q2) fun iv s3 ⟨y, H3, I3, ry, q3⟩ => ?_) hs
  rcases q3 with ⟨a, H4, ex, g, q3⟩ | ⟨a, ws, ex, hd, hk, hl, hodd, q3⟩
  · subst ex
    obtain rfl : u = Value.ref a := rx
    exact d_setItem (by omega) I3 g ry rv fun s4 I4 => ⟨σ, H4, I4, q3⟩
  · subst ex
    obtain rfl : u = Value.ref a := rx
    obtain ⟨k, nk, dk, tk⟩ := odd_key I3 hodd ry
    obtain ⟨z, hsm, vs, rel, ob, es, ep, h1, h2, h3, h4, h5, h6⟩ := dk_of I3.hok hd
    have pr := raw_pairs rel h5
    have hes : es.size = ws.length := by
      have := pr.length
      unfold rawOf at this
      rw [List.length_map] at this
      rw [this]
      simp
    refine setItem_odd (by omega) nk dk tk h1 h2 h3 (fun e he => raw_txt (P := X.prog) (w := X.w) hk pr e (Array.mem_toList_iff.mpr he)) (by omega) fun h' od' g1 g2 g3 g4 => ?_
    have F : RawF a od' (rawOf ws ++ [(y, v)]) := by
      refine ⟨g2, ⟨_, _, g3, ?_⟩, ?_, hsm⟩
      · rw [Array.toList_push]
        exact Paired.snoc pr ⟨ry, rv⟩
      · unfold rawOf
        rw [List.length_append, List.length_map]
        show ws.length + 1 ≤ _
        omega
    exact ⟨σ, _, d_write I3 (by rw [hd]; exact True.intro) g4 ⟨od', g1⟩ (raw_ok g1), q3 od' F⟩
end
end L2
namespace Op
open PySem L2 PyProof.Rows
/-- a dict whose last key is no text -/
def OddA (K : PySem.W.Frag) (H : Hp) (v : V) : Prop := ∃ p od ws kvs y u dy, v = .ref p ∧ H p = some (RawD p od) ∧ RawF p od (rawOf ws ++ [(y, u)]) ∧ KvsR K H ws kvs ∧ (∀ q ∈ kvs, q.1.length ≤ 100000 ∧ wt q.2 ≤ 100000) ∧ Dp K H y dy ∧ isWord dy = false ∧ ∀ z, dy ≠ .str z
theorem OddA.mono {K : PySem.W.Frag} {H H' : Hp} {v : V} (h : OddA K H v) (s : Same H H') : OddA K H' v := by
  obtain ⟨p, od, ws, kvs, y, u, dy, h1, h2, h3, h4, h5, h6, h7⟩ := h
  exact ⟨p, od, ws, kvs, y, u, dy, h1, s _ _ h2, h3, h4.mono s.kp, h5, h6.mono s, h7⟩
section
variable {P : Program} {w : World} {K : PySem.W.Frag} {mg : Str → Option Value} {base : Heap} {pS CI C : Addr}
def spTabO (K : PySem.W.Frag) (CI : Addr) : Sp := fun vs H Q X => ∃ v, vs = [v] ∧ OddA K H v ∧ ∀ H' d, Same H H' → XProg K H' d "asks" [] → X (.ref CI) (some d) H'
theorem ok_checked_asksO {f : Addr} {fd : FuncData} (F : Fun K "checked_asks" "checked_asks" s_checked_asks f fd) (T : TxtC P w K mg pS CI) (c_is_word : Cal P w K mg base CX0 1 "is_word" ["value"] (spWord K)) (c_are_words : Cal P w K mg base CX0 2 "are_words" ["value", "most"] (spAreWords K)) :
    FnOk P w K mg base (L2.CX P w) 3 f fd ["value"] (spTabO K CI) := by
  refine F.okX sc_checked_asks (fun vs H Q E h => ?_) (fun cdv A outer s H vs Q E hr h => ?_)
  · obtain ⟨v, rfl, _⟩ := h
    rfl
  · obtain ⟨v, rfl, ⟨p, od, ws, kvs, y, u, dy, rfl, hp, FR, hkv, hsmall, hy, hnw, hns⟩, k⟩ := h
    have hu := hu_of hr
    refine ⟨_, (pss_cons (ps_if (pt_cmpR op_isN (pv 0) pe_non (nomark _)) (pss_one (ps_ret pe_dnewK)) pss_nil)
      (pss_cons (ps_if (PW.pt (pw_or (pt_not (pt_val (pe_callB call_isiO (by rfl) T.b_isinstance (by decide +kernel) (pa_cons (pv 0) (pa_cons (pe_bltn (v := .ty "dict") (by rfl) T.b_dict (by decide +kernel) rfl) pa_nil))))) (pw_or1 (pt_cmpR op_gt (pe_callB call_lenO (by rfl) T.b_len (by decide +kernel) (pa_cons (pv 0) pa_nil)) pe_int (nomark _))))) (pss_one (ps_raise rfl (takes_of rfl rfl rfl rfl) (pmk_x T.mk_InvalidProgram hr rfl T.g_InvalidProgram T.k_InvalidProgram T.r_InvalidProgram (pa_cons pe_str (pa_cons (pe_tup pa_nil) pa_nil))))) pss_nil)
      (pss_cons (ps_for (passes_of rfl) rfl (pi_itemsO (pv 0)) (pg_tup rfl (pgs_cons (pg_name (i := 1) sc_checked_asks.nd rfl (.inl rfl)) (pgs_cons (pg_name (i := 2) sc_checked_asks.nd rfl (.inl rfl)) pgs_nil))) (pss_one (ps_if (PW.pt (pw_or (pt_not (pt_val (pe_cal c_is_word (hr.mono (by omega)) rfl pass0 (pa_cons (pv 1) pa_nil)))) (pw_or1 (pt_not (pt_val (pe_cal c_are_words (hr.mono (by omega)) rfl pass0 (pa_cons (pv 2) (pa_cons pe_int pa_nil)))))))) (pss_one (ps_raise rfl (takes_of rfl rfl rfl rfl) (pmk_x T.mk_InvalidProgram hr rfl T.g_InvalidProgram T.k_InvalidProgram T.r_InvalidProgram (pa_cons pe_str (pa_cons (pe_tup pa_nil) pa_nil))))) pss_nil)))
      pss_never))), ?_⟩
    have fin : ∀ H1, Same H H1 → ∀ p, H1 p = none → ∀ d, upd H1 p (.tup []) d = none → E (.ref CI) (some d) (upd (upd H1 p (.tup [])) d (.xd [("path", .ref p), ("part", .str "asks")])) := by
      intro H1 s1 p hp d hd
      refine k _ d (s1.trans ((Same.new hp).trans (Same.new hd))) ⟨p, upd_same, ?_⟩
      exact SqT.mono (.inl (.inl upd_same)) (Same.new hd)
    have hlen := hkv.len
    have hrl : (rawOf ws ++ [(y, u)]).length = ws.length + 1 := by
      unfold rawOf
      rw [List.length_append, List.length_map]
      rfl
    refine ⟨_, rfl, rfl, _, rfl, ifF rfl ?_⟩
    refine ⟨_, rfl, p, od, _, _, rfl, .ty _, hp, FR, _, rfl, ifF rfl ?_⟩
    refine ⟨_, rfl, p, od, _, rfl, hp, FR, _, _, rfl, rfl, _, rfl, ?_⟩
    by_cases e1 : (6 : Int) < ((rawOf ws ++ [(y, u)]).length : Int)
    · refine ifT (decide_eq_true e1) ?_
      exact ⟨sz_lit (by decide), fun q hq => ⟨rfl, fun d hd => fin H (Same.refl _) q hq d hd⟩⟩
    refine ifF (decide_eq_false e1) ?_
    refine ⟨_, rfl, p, od, _, rfl, hp, FR, ?_⟩
    refine for_it walk_itemsO (fun i σ H' => (∃ y1 y2 : Option V, σ = [some (.ref p), y1, y2]) ∧ Same H H' ∧ i ≤ ws.length) ⟨⟨_, _, rfl⟩, Same.refl _, Nat.zero_le _⟩ (fun i σ H' _ q => q.2.1 _ _ hp) ?_ ?_
    · rintro i v σ H1 H2 hi ⟨⟨y1, y2, rfl⟩, s1, hiw⟩ ⟨T0, x, z, rfl, hT0, rfl, hx, hz⟩
      have hx : Option.map Prod.fst (rawOf ws ++ [(y, u)])[i]? = some x := hx
      have hz : Option.map Prod.snd (rawOf ws ++ [(y, u)])[i]? = some z := hz
      have s2 : Same H (upd H1 T0 (.tup [x, z])) := s1.trans (Same.new hT0)
      have t2 : SqT K (upd H1 T0 (.tup [x, z])) T0 [x, z] := .inl (.inl upd_same)
      refine ⟨T0, _, rfl, t2, rfl, _, _, rfl, _, _, rfl, rfl, ?_⟩
      revert s2
      generalize upd H1 T0 (.tup [x, z]) = H3
      intro s2
      by_cases hlt : i < ws.length
      · have hvi : ws[i]? = some ws[i] := List.getElem?_eq_getElem hlt
        have hri : (rawOf ws ++ [(y, u)])[i]? = some (kV ws[i].1, ws[i].2) := by
          rw [List.getElem?_append_left (by unfold rawOf; rw [List.length_map]; exact hlt)]
          unfold rawOf
          rw [List.getElem?_map, hvi]
          rfl
        rw [hri] at hx hz
        obtain ⟨xk, d, hki, hk, hdy⟩ := hkv.get (k := ws[i].1) (v := ws[i].2) hvi
        obtain rfl : x = .str xk := by
          rw [← Option.some.inj hx]
          show kV ws[i].1 = _
          rw [hk]
          rfl
        obtain rfl : z = ws[i].2 := (Option.some.inj hz).symm
        obtain ⟨hs1, hs2⟩ := hsmall (xk, d) (List.mem_of_getElem? hki)
        refine ⟨_, rfl, .str xk, .str xk, rfl, .str xk, fun z e => by cases e; exact hs1, _, rfl, ?_⟩
        by_cases w1 : isWordS xk = true
        · rw [show isWord (.str xk) = true from w1]
          refine ifF rfl ⟨_, rfl, ws[i].2, d, 4, rfl, hdy.mono s2, small_of d hs2, by decide, _, rfl, ?_⟩
          by_cases w2 : areWords 4 d = true
          · rw [w2]
            exact ifF rfl ⟨⟨_, _, rfl⟩, s2, hlt⟩
          · rw [Bool.eq_false_iff.mpr w2]
            exact ifT rfl ⟨sz_lit (by decide), fun q hq => ⟨rfl, fun d hd => fin H3 s2 q hq d hd⟩⟩
        · rw [show isWord (.str xk) = false from Bool.eq_false_iff.mpr w1]
          exact ifT rfl (ifT rfl ⟨sz_lit (by decide), fun q hq => ⟨rfl, fun d hd => fin H3 s2 q hq d hd⟩⟩)
      · have hie : i = ws.length := by omega
        have hri : (rawOf ws ++ [(y, u)])[i]? = some (y, u) := by
          rw [List.getElem?_append_right (by unfold rawOf; rw [List.length_map]; omega)]
          unfold rawOf
          rw [List.length_map, hie, Nat.sub_self]
          rfl
        rw [hri] at hx hz
        obtain rfl : x = y := (Option.some.inj hx).symm
        refine ⟨_, rfl, x, dy, rfl, hy.mono s2, fun z e => (hns z e).elim, _, rfl, ?_⟩
        rw [hnw]
        exact ifT rfl (ifT rfl ⟨sz_lit (by decide), fun q hq => ⟨rfl, fun d hd => fin H3 s2 q hq d hd⟩⟩)
    · rintro σ H1 ⟨_, _, hle⟩
      omega
def spProgO (K : PySem.W.Frag) (C CI : Addr) : Sp := fun vs H Q X => ∃ (x dx : Addr) (rv av sv iv : V), vs = [.ref x, rv, av, sv, iv] ∧ H x = some (.ins C dx []) ∧ OddA K H av ∧ ∀ H' d, Same H H' → XProg K H' d "asks" [] → X (.ref CI) (some d) H'
theorem ok_progO {f : Addr} {fd : FuncData} (F : Fun K "__init__" "Program.__init__" s_Program___init__ f fd) (T : TxtC P w K mg pS CI) (c_checked_asks : Cal P w K mg base (L2.CX P w) 3 "checked_asks" ["value"] (spTabO K CI)) :
    FnOk P w K mg base (L2.CX P w) 13 f fd ["self", "rows", "asks", "signals", "inputs"] (spProgO K C CI) := by
  refine F.okX sc_Program___init__ (fun vs H Q E h => ?_) (fun cdv A outer s H vs Q E hr h => ?_)
  · obtain ⟨x, dx, rv, av, sv, iv, rfl, _⟩ := h
    rfl
  · obtain ⟨x, dx, rv, av, sv, iv, rfl, hx, hav, k⟩ := h
    refine ⟨_, (pss_cons (ps_fld (pv 0) (pe_cal c_checked_asks (hr.mono (by omega)) rfl (passes_call (takes_of rfl rfl rfl rfl) (fun _ _ _ _ h => h)) (pa_cons (pv 2) pa_nil)) rfl)
      pss_never), ?_⟩
    exact ⟨_, rfl, av, rfl, hav, k⟩
end
end Op
namespace L2
open PySem PySem.Spec PyProof.Rows
section
variable {X : Cx}
/-- list(d.keys()) -/
theorem call_listKV (hcalm : X.calm = true) : CallR X (.type "list") (fun xs H Q => ∃ (p a : Addr) (kvs : List (Key × V)), xs = [.ref p] ∧ H p = some (keysO p a) ∧ Rd H a (.dK kvs) ∧ ∀ q, H q = none → Q (.ref q) (upd H q (.lst (kvs.map fun kv => kV kv.1)))) := by
  intro pins s σ H xs us Q I r q
  obtain ⟨p, a, kvs, rfl, hp, hd, q⟩ := q
  obtain ⟨u, rfl, rx⟩ := vals1 r
  cases rx
  have hview : PySem.W.KdlKeysView s.heap p a := (I.hok p _ hp).1
  obtain ⟨z, lo, vs, rel, dd⟩ := dk_rd I.hok hd
  obtain ⟨ep, hat⟩ := dd.dictAt
  have ek : (kvs.map fun kv => kV kv.1) = vs.map fun p => kV p.1 := by
    have e := congrArg (List.map kV) rel.keys
    rw [List.map_map, List.map_map] at e
    exact e
  refine PySem.W.kdl_call (PySem.W.kdl_keys (knd := mixKind X.prog X.w) (r := p) (d := a) (kvs := vs) (ep := ep)) (I.ok.hd hcalm) ⟨hview, hat⟩ (by rw [← rel.length]; exact z) fun h' tk acc c' hk hD hacc => ?_
  have hv : Vals (vs.map fun p => kV p.1) acc.toList := keys_at (by rw [Array.length_toList]; exact hacc.1) fun j v e => hacc.2 j v (by rw [← Array.getElem?_toList]; exact e)
  refine ⟨.ref s.heap.objs.size, upd H s.heap.objs.size (.lst (kvs.map fun kv => kV kv.1)), I.laid (t' := tk) hk (Nat.le_refl _)
    (show ObjOk X.prog X.w _ _ _ (.lst (kvs.map fun kv => kV kv.1)) from ⟨by rw [List.length_map]; exact z, acc.toList, c', by rw [ek]; exact hv, by rw [Array.toArray_toList]; exact hD⟩), rfl, q _ (I.hok.fresh (Nat.le_refl _))⟩
end
end L2
namespace Op
open PySem L2 PyProof.Rows
theorem KvsR.snoc {K : PySem.W.Frag} {H : Hp} {x : Str} {v : V} {d : PyData} (hv : Dp K H v d) : ∀ {vs : List (Key × V)} {kvs : List (Str × PyData)}, KvsR K H vs kvs → KvsR K H (vs ++ [(.inr x, v)]) (kvs ++ [(x, d)])
  | [], [], _ => ⟨rfl, hv, trivial⟩
  | (k, u) :: r, (y, e) :: t, ⟨h1, h2, h3⟩ => ⟨h1, h2, KvsR.snoc hv h3⟩
theorem KvsR.none {K : PySem.W.Frag} {H : Hp} {x : Str} {vs : List (Key × V)} {kvs : List (Str × PyData)} (h : KvsR K H vs kvs) (n : x ∉ kvs.map (·.1)) : valV vs (.inr x) = none := by
  have := h.has x
  rw [decide_eq_false n] at this
  cases q : valV vs (.inr x) with
  | none => rfl
  | some o => rw [q] at this; cases this
/-! ### a table with one more entry -/
def putP (t : List (Str × PyData)) (x : Str) (d : PyData) : List (Str × PyData) := if (t.any fun q => decide (q.1 = x)) = true then t.map (fun q => if q.1 = x then (q.1, d) else q) else t ++ [(x, d)]
section
variable {K : PySem.W.Frag} {H : Hp} {x : Str} {v : V} {d : PyData}
theorem KvsR.any : ∀ {vs : List (Key × V)} {t : List (Str × PyData)}, KvsR K H vs t → (vs.any fun kv => decide (kv.1 = (.inr x : Key))) = t.any fun q => decide (q.1 = x)
  | [], [], _ => rfl
  | (k, u) :: r, (y, e) :: t, ⟨h1, _, h3⟩ => by
    rw [List.any_cons, List.any_cons, KvsR.any h3, h1]
    congr 1
    by_cases z : y = x
    · rw [z, decide_eq_true rfl, decide_eq_true rfl]
    · rw [decide_eq_false z, decide_eq_false fun w => z (Sum.inr.inj w)]
theorem KvsR.set (hv : Dp K H v d) : ∀ {vs : List (Key × V)} {t : List (Str × PyData)}, KvsR K H vs t → KvsR K H (vs.map fun kv => if kv.1 = (.inr x : Key) then (kv.1, v) else kv) (t.map fun q => if q.1 = x then (q.1, d) else q)
  | [], [], _ => trivial
  | (k, u) :: r, (y, e) :: t, ⟨h1, h2, h3⟩ => by
    rw [List.map_cons, List.map_cons]
    by_cases z : y = x
    · rw [if_pos z, if_pos (h1.trans (congrArg Sum.inr z))]
      exact ⟨h1, hv, KvsR.set hv h3⟩
    · rw [if_neg z, if_neg fun w => z (Sum.inr.inj (h1.symm.trans w))]
      exact ⟨h1, h2, KvsR.set hv h3⟩
theorem KvsR.put {vs : List (Key × V)} {t : List (Str × PyData)} (h : KvsR K H vs t) (hv : Dp K H v d) : KvsR K H (putK vs (.inr x) v) (putP t x d) := by
  unfold putK putP
  rw [h.any]
  split
  · exact h.set hv
  · exact h.snoc hv
end
section
variable {t : List (Str × PyData)} {x : Str} {d : PyData}
theorem putP_keys : (putP t x d).map (·.1) = if x ∈ t.map (·.1) then t.map (·.1) else t.map (·.1) ++ [x] := by
  unfold putP
  by_cases z : x ∈ t.map (·.1)
  · rw [if_pos z, if_pos]
    · rw [List.map_map]
      refine List.map_congr_left fun q _ => ?_
      show (if q.1 = x then (q.1, d) else q).1 = q.1
      split <;> rfl
    · obtain ⟨q, hq, e⟩ := List.mem_map.mp z
      exact List.any_eq_true.mpr ⟨q, hq, decide_eq_true e⟩
  · rw [if_neg z, if_neg]
    · rw [List.map_append]
      rfl
    · intro h
      obtain ⟨q, hq, e⟩ := List.any_eq_true.mp h
      exact z (List.mem_map.mpr ⟨q, hq, of_decide_eq_true e⟩)
theorem putP_len : (putP t x d).length ≤ t.length + 1 := by
  unfold putP
  split
  · rw [List.length_map]; omega
  · rw [List.length_append]; exact Nat.le_refl _
theorem putP_nodup (h : (t.map (·.1)).Nodup) : ((putP t x d).map (·.1)).Nodup := by
  rw [putP_keys]
  split
  · exact h
  · rename_i z
    exact List.nodup_append.mpr ⟨h, List.nodup_cons.mpr ⟨List.not_mem_nil, List.nodup_nil⟩, fun a ha b hb e => z (by rw [← List.mem_singleton.mp hb, ← e]; exact ha)⟩
theorem putP_sub {y : Str} (h : y ∈ t.map (·.1)) : y ∈ (putP t x d).map (·.1) := by
  rw [putP_keys]
  split
  · exact h
  · exact List.mem_append.mpr (.inl h)
theorem putP_all {R : Str × PyData → Prop} (h : ∀ q ∈ t, R q) (hx : R (x, d)) : ∀ q ∈ putP t x d, R q := by
  intro q hq
  unfold putP at hq
  split at hq
  · obtain ⟨q', h1, rfl⟩ := List.mem_map.mp hq
    by_cases e : q'.1 = x
    · rw [if_pos e, e]; exact hx
    · rw [if_neg e]; exact h q' h1
  · rcases List.mem_append.mp hq with hq | hq
    · exact h q hq
    · rw [List.mem_singleton.mp hq]; exact hx
end

section
variable {t : List (Str × PyData)} {x : Str} {d : PyData}
theorem mem_putP : (x, d) ∈ putP t x d := by
  unfold putP
  split
  · rename_i h
    obtain ⟨q, hq, e⟩ := List.any_eq_true.mp h
    refine List.mem_map.mpr ⟨q, hq, ?_⟩
    rw [if_pos (of_decide_eq_true e), of_decide_eq_true e]
  · exact List.mem_append_right _ (List.mem_singleton.mpr rfl)
theorem tab_bad {ok : PyData → Bool} {most : Nat} {q : Str × PyData} (hq : q ∈ t) (h : isWordS q.1 = false ∨ ok q.2 = false) : okTab ok most (.dict t) = none := if_neg fun z => by
  have := Bool.and_eq_true_iff.mp (List.all_eq_true.mp z.2 q hq)
  rcases h with h | h
  · rw [h] at this
    exact absurd this.1 (by decide)
  · rw [h] at this
    exact absurd this.2 (by decide)
theorem tab_long {ok : PyData → Bool} {most : Nat} (h : most < t.length) : okTab ok most (.dict t) = none := if_neg fun z => by omega
theorem tab_good {ok : PyData → Bool} {most : Nat} (h : t.length ≤ most) (ha : ∀ q ∈ t, isWordS q.1 = true ∧ ok q.2 = true) : okTab ok most (.dict t) = some t := if_pos ⟨h, List.all_eq_true.mpr fun q hq => Bool.and_eq_true_iff.mpr (ha q hq)⟩
end
/-- a table of the law: n entries, all right -/
structure TbV (K : PySem.W.Frag) (H : Hp) (d : Addr) (ws : List (Key × V)) (kvs : List (Str × PyData)) (ok : PyData → Bool) (n : Nat) : Prop where
  at' : H d = some (.dK ws)
  kv : KvsR K H ws kvs
  nd : (kvs.map (·.1)).Nodup
  len : kvs.length = n
  all : ∀ q ∈ kvs, isWordS q.1 = true ∧ ok q.2 = true ∧ wt q.2 ≤ 1000
theorem TbV.txt {K : PySem.W.Frag} {H : Hp} {d : Addr} {ws : List (Key × V)} {kvs : List (Str × PyData)} {ok : PyData → Bool} {n : Nat} (h : TbV K H d ws kvs ok n) : ws.map (fun kv => kV kv.1) = (kvs.map (·.1)).map V.str := by
  have := congrArg (List.map kV) h.kv.keys
  rw [List.map_map, List.map_map] at this
  rw [show (fun kv : Key × V => kV kv.1) = kV ∘ (fun x => x.1) from rfl, this]
  rfl
theorem argSmall_of {kvs : List (Str × PyData)} (hl : kvs.length ≤ 60) (h : ∀ q ∈ kvs, q.1.length ≤ 100 ∧ wt q.2 ≤ 1000) : argSmall (.dict kvs) := ⟨hl, fun q hq => ⟨by have := (h q hq).1; omega, by have := (h q hq).2; omega⟩⟩
/-- what stays: all but two -/
def But2 (p d : Addr) (H H' : Hp) : Prop := ∀ b o, H b = some o → b ≠ p → b ≠ d → H' b = some o
theorem perm_mem {ys ks : List Str} {n : Nat} (h : ys.Perm ks) (hn : n < ys.length) : ys[n] ∈ ks := h.mem_iff.mp (List.getElem_mem hn)
end Op
namespace Op
open PySem L2 PyProof.Rows
theorem dp_pick {K : PySem.W.Frag} {H : Hp} {vs : List V} {ds : List PyData} {n : Nat} (h : L2.DpAll K H vs ds) (hn : n < ds.length) : ∃ v, atI vs (n : Int) = some v ∧ Dp K H v ds[n] := by
  have hl := h.len
  have hv : vs[n]? = some vs[n] := List.getElem?_eq_getElem (by omega)
  exact ⟨vs[n], atI_nat hv, DpAll.at h hv (List.getElem?_eq_getElem hn)⟩
theorem putP_new {t : List (Str × PyData)} {x : Str} {d : PyData} (h : x ∉ t.map (·.1)) : putP t x d = t ++ [(x, d)] := by
  unfold putP
  rw [if_neg]
  intro z
  obtain ⟨q, hq, e⟩ := List.any_eq_true.mp z
  exact h (List.mem_map.mpr ⟨q, hq, of_decide_eq_true e⟩)
def menuD : List PyData := [.tuple [.int 0, .tuple [.str "a"]], .tuple [.int 4, .tuple [.str "a"]], .tuple [.bool true, .tuple [.str "a"]], .tuple [.int 1, .tuple []], .tuple [.int 2, .tuple [.str "a", .str "a"]], .tuple [.int 3, .tuple [.str "a", .str "b", .str "c", .str "d"]],
  .list [.int 1, .tuple [.str "a"]], .tuple [.int 1], .tuple [.int 1, .list [.str "a"]], .none, .tuple [.int 1, .str "a"], .tuple [.str "1", .tuple [.str "a"]], .tuple [.int 1, .tuple [.str "a"], .int 1],
  .tuple [.int 1, .tuple [.str "A"]], .tuple [.int ((10 : Int) ^ (30 : Int).toNat), .tuple [.str "a"]]]
theorem menu_bad : (menuD.all fun d => !isBox d && decide (wt d ≤ 1000)) = true := by decide +kernel
def spWS (K : PySem.W.Frag) : Sp := fun vs H Q _ => ∃ (p c d : Addr) (ws : List (Key × V)) (kvs : List (Str × PyData)), vs = [.ref p, .ref d] ∧ Pl H p c ∧ d ≠ p ∧ TbV K H d ws kvs isBox 3 ∧
  ∀ v a H', But2 p d H H' → Pl H' p c → ArgV K H' v a → (v = .ref d ∨ ∃ dd, a = .other dd) → argSmall a → okTab isBox 3 a = none → Q v H'
section
variable {P : Program} {w : World} {K : PySem.W.Frag} {mg : Str → Option Value} {base : Heap}
theorem sc__law_wrong_signals : FnScope ["_law_bag_here", "_law_boxes", "_law_name", "_law_way", "_law_menu"] ["_law_bag_here", "_law_boxes"] (defScope s__law_wrong_signals) := ⟨rfl, rfl, rfl, by decide +kernel, rfl, by decide +kernel, by decide +kernel⟩
theorem ok_wrong_signals {f : Addr} {fd : FuncData} (F : Fun K "_law_wrong_signals" "_law_wrong_signals" s__law_wrong_signals f fd) (T : Txt mg) (c__law_draw : Cal P w K mg base CX0 1 "_law_draw" ["_law_bag_here", "_law_many"] spD) (c__law_words : Cal P w K mg base CX0 2 "_law_words" ["_law_bag_here", "_law_many", "_law_most", "_law_taken"] (spWords K)) : FnOk P w K mg base CX0 3 f fd ["_law_bag_here", "_law_boxes"] (spWS K) := by
  refine F.ok sc__law_wrong_signals (fun vs H Q E h => ?_) (fun cdv A outer s H vs Q E hr h => ?_)
  · obtain ⟨p, c, d, ws, kvs, rfl, _⟩ := h
    rfl
  · obtain ⟨p, c, d, ws, kvs, rfl, hp, hdp, tb, k⟩ := h
    have hu := hu_of hr
    refine ⟨_, (pss_cons (ps_set (i := 2) sc__law_wrong_signals.nd rfl (.inl rfl) (pe_ix ix_list (pe_callB (call_sortedKV rfl) (by rfl) T.b_sorted (by decide +kernel) (pa_cons (pe_bm0 PySem.F.plainAttrs_dict PySem.F.slot_dict_keys PySem.F.type_dict_keys mt_keysV (pv 1)) pa_nil)) (pe_cal c__law_draw (hr.mono (by omega)) rfl pass0 (pa_cons (pv 0) (pa_cons pe_int pa_nil))) (fun _ _ => rfl)))
      (pss_cons (ps_set (i := 3) sc__law_wrong_signals.nd rfl (.inl rfl) (pe_cal c__law_draw (hr.mono (by omega)) rfl pass0 (pa_cons (pv 0) (pa_cons pe_int pa_nil))))
      (pss_cons (ps_if (pt_cmpR op_eq (pv 3) pe_int (nomark _)) (pss_one (ps_ret (pe_ix ix_list (pe_lst (pa_cons (pe_lst pa_nil) (pa_cons pe_str (pa_cons pe_int (pa_cons (pe_tup pa_nil) (pa_cons pe_bl pa_nil)))))) (pe_cal c__law_draw (hr.mono (by omega)) rfl pass0 (pa_cons (pv 0) (pa_cons pe_int pa_nil))) (fun _ _ => rfl)))) pss_nil)
      (pss_cons (ps_if (pt_cmpR op_eq (pv 3) pe_int (nomark _)) (pss_cons (ps_dput hu (pv 1) (pe_ix ix_list (pe_cal c__law_words (hr.mono (by omega)) rfl pass0 (pa_cons (pv 0) (pa_cons pe_int (pa_cons pe_int (pa_cons (pe_callTy (call_listKV rfl) (by rfl) T.b_list (by decide +kernel) (pa_cons (pe_bm0 PySem.F.plainAttrs_dict PySem.F.slot_dict_keys PySem.F.type_dict_keys mt_keysV (pv 1)) pa_nil)) pa_nil))))) pe_int (fun _ _ => rfl)) (pe_tup (pa_cons pe_int (pa_cons (pe_tup (pa_cons pe_str pa_nil)) pa_nil))) rfl)
      (pss_one (ps_ret (pv 1)))) pss_nil)
      (pss_cons (ps_set (i := 4) sc__law_wrong_signals.nd rfl (.inl rfl) (pe_lst (pa_cons (pe_tup (pa_cons pe_int (pa_cons (pe_tup (pa_cons pe_str pa_nil)) pa_nil))) (pa_cons (pe_tup (pa_cons pe_int (pa_cons (pe_tup (pa_cons pe_str pa_nil)) pa_nil))) (pa_cons (pe_tup (pa_cons pe_bl (pa_cons (pe_tup (pa_cons pe_str pa_nil)) pa_nil))) (pa_cons (pe_tup (pa_cons pe_int (pa_cons (pe_tup pa_nil) pa_nil))) (pa_cons (pe_tup (pa_cons pe_int (pa_cons (pe_tup (pa_cons pe_str (pa_cons pe_str pa_nil))) pa_nil))) (pa_cons (pe_tup (pa_cons pe_int (pa_cons (pe_tup (pa_cons pe_str (pa_cons pe_str (pa_cons pe_str (pa_cons pe_str pa_nil))))) pa_nil))) pa_nil))))))))
      (pss_cons (ps_set (i := 4) sc__law_wrong_signals.nd rfl (.inl rfl) (pe_op op_cat (pv 4) (pe_lst (pa_cons (pe_lst (pa_cons pe_int (pa_cons (pe_tup (pa_cons pe_str pa_nil)) pa_nil))) (pa_cons (pe_tup (pa_cons pe_int pa_nil)) (pa_cons (pe_tup (pa_cons pe_int (pa_cons (pe_lst (pa_cons pe_str pa_nil)) pa_nil))) (pa_cons pe_non (pa_cons (pe_tup (pa_cons pe_int (pa_cons pe_str pa_nil))) (pa_cons (pe_tup (pa_cons pe_str (pa_cons (pe_tup (pa_cons pe_str pa_nil)) pa_nil))) (pa_cons (pe_tup (pa_cons pe_int (pa_cons (pe_tup (pa_cons pe_str pa_nil)) (pa_cons pe_int pa_nil)))) pa_nil))))))))))
      (pss_cons (ps_set (i := 4) sc__law_wrong_signals.nd rfl (.inl rfl) (pe_op op_cat (pv 4) (pe_lst (pa_cons (pe_tup (pa_cons pe_int (pa_cons (pe_tup (pa_cons pe_str pa_nil)) pa_nil))) (pa_cons (pe_tup (pa_cons (pe_op op_pow pe_int pe_int) (pa_cons (pe_tup (pa_cons pe_str pa_nil)) pa_nil))) pa_nil)))))
      (pss_cons (ps_dput hu (pv 1) (pv 2) (pe_ix ix_list (pv 4) (pe_cal c__law_draw (hr.mono (by omega)) rfl pass0 (pa_cons (pv 0) (pa_cons pe_int pa_nil))) (fun _ _ => rfl)) rfl)
      (pss_one (ps_ret (pv 1))))))))))), ?_⟩
    have hkl := tb.len
    have hwl : ws.length = 3 := by rw [tb.kv.len, hkl]
    refine ⟨_, rfl, tyV_dK tb.at', d, ws, rfl, rfl, .inl tb.at', fun q hq => ?_⟩
    refine ⟨q, d, ws, kvs.map (·.1), rfl, upd_same, .inl (Same.new hq _ _ tb.at'), tb.kv.keys, by rw [List.length_map]; omega, fun ys l hperm hsort hl => ?_⟩
    have hyl : ys.length = 3 := by rw [hperm.length_eq, List.length_map, hkl]
    have s1 := (Same.new (o := keysO q d) hq).trans (Same.new (o := .lst (ys.map V.str)) hl)
    have l1 := at_new (o := .lst (ys.map V.str)) hl
    revert s1 l1
    generalize upd (upd H q _) l _ = H1
    intro s1 l1
    have pl1 := hp.mono s1
    refine ⟨_, rfl, p, c, 3, rfl, pl1, by decide, fun r H2 r1 r2 b2 pl2 => ?_⟩
    obtain ⟨n, rfl⟩ := Int.eq_ofNat_of_zero_le r1
    have hn : n < ys.length := by omega
    have hlp : l ≠ p := fun e => by obtain ⟨_, h⟩ := pl1.at; rw [e, h] at l1; cases l1
    have hyn : ys[n]? = some ys[n] := List.getElem?_eq_getElem hn
    obtain ⟨nm, hnm⟩ : ∃ z, z = ys[n] := ⟨_, rfl⟩
    rw [← hnm] at hyn
    have hnk : nm ∈ kvs.map (·.1) := hperm.mem_iff.mp (List.mem_of_getElem? hyn)
    refine ⟨l, _, _, .str nm, rfl, rfl, .inl (.inl (b2 _ _ l1 hlp)), atI_nat (j := n) (by rw [List.getElem?_map, hyn]; rfl), ?_⟩
    refine ⟨_, rfl, p, c, 3, rfl, pl2, by decide, fun wy H3 w1 w2 b3 pl3 => ?_⟩
    have b03 : But p H H3 := (Same.but s1).trans (b2.trans b3)
    have d3 : H3 d = some (.dK ws) := b03 _ _ tb.at' hdp
    have kv3 : KvsR K H3 ws kvs := tb.kv.mono (hp.kp b03)
    refine ⟨_, rfl, rfl, _, rfl, ?_⟩
    by_cases e0 : wy = 0
    · refine ifT (decide_eq_true (congrArg V.int e0)) ?_
      refine ⟨sz_lit (by show 0 ≤ 100000; decide), fun x1 hx1 => ⟨sz_lit (by show 0 ≤ 100000; decide), fun x2 hx2 => ⟨sz_lit (by show 5 ≤ 100000; decide), fun x3 hx3 => ?_⟩⟩⟩
      have ncx1 := Same.new (o := .lst []) hx1
      have ncx2 := Same.new (o := .tup []) hx2
      have ncx3 := Same.new (o := .lst [.ref x1, .str "stop", .int 0, .ref x2, .bl false]) hx3
      have cx2 := ncx3
      have cx1 := ncx2.trans cx2
      have cx0 := ncx1.trans cx1
      have Dx : DpAll K _ [.ref x1, .str "stop", .int 0, .ref x2, .bl false] [.list [], .str "stop", .int 0, .tuple [], .bool false] := .cons (.lst (a := x1) (xs := []) (.inl (.inl (cx1 _ _ upd_same))) (.nil)) (.cons (.str _) (.cons (.int _) (.cons (.tup (a := x2) (xs := []) (.inl (.inl (cx2 _ _ upd_same))) (.nil)) (.cons (.bl _) (.nil)))))
      have Lx := at_new (o := .lst [.ref x1, .str "stop", .int 0, .ref x2, .bl false]) hx3
      revert cx0 Dx Lx
      generalize upd (upd _ x2 _) x3 _ = H4
      intro cx0 Dx Lx
      refine ⟨_, rfl, p, c, 5, rfl, pl3.mono cx0, by decide, fun r H5 r1 r2 b5 pl5 => ?_⟩
      obtain ⟨m, rfl⟩ := Int.eq_ofNat_of_zero_le r1
      have hm : m < 5 := by omega
      have kp5 : Kp H4 H5 := (pl3.mono cx0).kp b5
      obtain ⟨v, hv, hdv⟩ := dp_pick (n := m) Dx hm
      refine ⟨_, _, _, v, rfl, rfl, SqL.kp (.inl (.inl Lx)) kp5, hv, k v (.other _) H5 (fun b o hb n1 _ => b5 _ _ (cx0 _ _ (b03 b o hb n1)) n1) pl5 ⟨hdv.kp kp5, ?_⟩ (.inr ⟨_, rfl⟩) trivial rfl⟩
      have : ∀ m (hm : m < 5), ([.list [], .str "stop", .int 0, .tuple [], .bool false] : List PyData)[m] ≠ .none := by
        intro m hm
        match m, hm with
        | 0, _ => exact nofun
        | 1, _ => exact nofun
        | 2, _ => exact nofun
        | 3, _ => exact nofun
        | 4, _ => exact nofun
      exact this m hm
    refine ifF (decide_eq_false fun z => e0 (V.int.inj z)) ?_
    refine ⟨_, rfl, rfl, _, rfl, ?_⟩
    by_cases e1 : wy = 1
    · refine ifT (decide_eq_true (congrArg V.int e1)) ?_
      refine ⟨sz_lit (by show 1 ≤ 100000; decide), fun t1 g1 => ⟨sz_lit (by show 2 ≤ 100000; decide), fun t2 g2 => ?_⟩⟩
      have r1 := Same.new (o := .tup [.str "no"]) g1
      have r2 := Same.new (o := .tup [.int 1, .ref t1]) g2
      have q1 := at_new (o := .tup [.str "no"]) g1
      have q2 := at_new (o := .tup [.int 1, .ref t1]) g2
      have dv : Dp K (upd (upd H3 t1 (.tup [.str "no"])) t2 (.tup [.int 1, .ref t1])) (.ref t2) (.tuple [.int 1, .tuple [.str "no"]]) := .tup (.inl (.inl q2)) (.cons (.int _) (.cons (.tup (.inl (.inl (r2 _ _ q1))) (.cons (.str _) .nil)) .nil))
      have r12 := r1.trans r2
      revert r12 dv
      generalize upd (upd H3 t1 _) t2 _ = H4
      intro dv r12
      refine ⟨_, rfl, _, rfl, _, rfl, tyV_dK (r12 _ _ d3), d, ws, rfl, rfl, .inl (r12 _ _ d3), fun q' hq' => ?_⟩
      refine ⟨q', d, ws, rfl, upd_same, .inl (Same.new hq' _ _ (r12 _ _ d3)), fun l2 hl2 => ?_⟩
      rw [tb.txt]
      have s5 := (Same.new (o := keysO q' d) hq').trans (Same.new (o := .lst ((kvs.map (·.1)).map V.str)) hl2)
      have l5 := at_new (o := .lst ((kvs.map (·.1)).map V.str)) hl2
      revert s5 l5
      generalize upd (upd H4 q' _) l2 _ = H5
      intro s5 l5
      have pl5 := (pl3.mono r12).mono s5
      refine ⟨p, c, l2, 1, 8, kvs.map (·.1), rfl, pl5, .inl (.inl l5), by decide, by decide, by rw [List.length_map]; omega, fun l3 zs H6 hl3 b6 pl6 f6 hzl hznd hz => ?_⟩
      obtain ⟨z, rfl⟩ : ∃ z, zs = [z] := by
        match zs, hzl with
        | [z], _ => exact ⟨z, rfl⟩
      obtain ⟨hzw, hzn⟩ := hz z List.mem_cons_self
      have d6 : H6 d = some (.dK ws) := b6 _ _ (s5 _ _ (r12 _ _ d3)) hdp
      have kp6 : Kp H3 H6 := (r12.trans s5).kp.trans (pl5.kp b6)
      have kp46 : Kp H4 H6 := s5.kp.trans (pl5.kp b6)
      refine ⟨l3, _, 0, .str z, rfl, rfl, .inl (.inl f6), rfl, d, _, rfl, DPut.k (k := (.inr z : Key)) d6 (lt_sz (by omega)), ?_⟩
      have kp7 : Kp H6 (upd H6 d (.dK (putK ws (.inr z) (.ref t2)))) := fun b o hb ho => by
        rw [L2.upd_ne (fun e => by rw [e, d6] at hb; cases hb; cases ho)]
        exact hb
      have hdc : d ≠ c := fun e => by obtain ⟨_, h⟩ := pl3.cells; rw [← e, d3] at h; cases h
      refine ⟨_, rfl, k (.ref d) (.dict (putP kvs z (.tuple [.int 1, .tuple [.str "no"]]))) _ (fun b o hb n1 n2 => ?_) (pl6.put hdp hdc) ⟨d, _, rfl, upd_same, (kv3.mono (kp6.trans kp7)).put (dv.kp (kp46.trans kp7)), putP_nodup tb.nd⟩ (.inl rfl) ?_ ?_⟩
      · rw [L2.upd_ne n2]
        exact b6 _ _ (s5 _ _ (r12 _ _ (b03 b o hb n1))) n1
      · refine argSmall_of (by have := putP_len (t := kvs) (x := z) (d := .tuple [.int 1, .tuple [.str "no"]]); omega) (putP_all (R := fun q => q.1.length ≤ 100 ∧ wt q.2 ≤ 1000) (fun q hq => ⟨by have := word_len (tb.all q hq).1; omega, (tb.all q hq).2.2⟩) ⟨by have := word_len hzw; show z.length ≤ 100; omega, by show wt (.tuple [.int 1, .tuple [.str "no"]]) ≤ 1000; decide +kernel⟩)
      · refine tab_long ?_
        rw [putP_new hzn, List.length_append, hkl]
        exact Nat.lt_succ_self 3
    refine ifF (decide_eq_false fun z => e1 (V.int.inj z)) ?_
    refine ⟨sz_lit (by show 1 ≤ 100000; decide), fun x1 hx1 => ⟨sz_lit (by show 2 ≤ 100000; decide), fun x2 hx2 => ⟨sz_lit (by show 1 ≤ 100000; decide), fun x3 hx3 => ⟨sz_lit (by show 2 ≤ 100000; decide), fun x4 hx4 => ⟨sz_lit (by show 1 ≤ 100000; decide), fun x5 hx5 => ⟨sz_lit (by show 2 ≤ 100000; decide), fun x6 hx6 => ⟨sz_lit (by show 0 ≤ 100000; decide), fun x7 hx7 => ⟨sz_lit (by show 2 ≤ 100000; decide), fun x8 hx8 => ⟨sz_lit (by show 2 ≤ 100000; decide), fun x9 hx9 => ⟨sz_lit (by show 2 ≤ 100000; decide), fun x10 hx10 => ⟨sz_lit (by show 4 ≤ 100000; decide), fun x11 hx11 => ⟨sz_lit (by show 2 ≤ 100000; decide), fun x12 hx12 => ⟨sz_lit (by show 6 ≤ 100000; decide), fun x13 hx13 => ?_⟩⟩⟩⟩⟩⟩⟩⟩⟩⟩⟩⟩⟩
    have ncx1 := Same.new (o := .tup [.str "a"]) hx1
    have ncx2 := Same.new (o := .tup [.int 0, .ref x1]) hx2
    have ncx3 := Same.new (o := .tup [.str "a"]) hx3
    have ncx4 := Same.new (o := .tup [.int 4, .ref x3]) hx4
    have ncx5 := Same.new (o := .tup [.str "a"]) hx5
    have ncx6 := Same.new (o := .tup [.bl true, .ref x5]) hx6
    have ncx7 := Same.new (o := .tup []) hx7
    have ncx8 := Same.new (o := .tup [.int 1, .ref x7]) hx8
    have ncx9 := Same.new (o := .tup [.str "a", .str "a"]) hx9
    have ncx10 := Same.new (o := .tup [.int 2, .ref x9]) hx10
    have ncx11 := Same.new (o := .tup [.str "a", .str "b", .str "c", .str "d"]) hx11
    have ncx12 := Same.new (o := .tup [.int 3, .ref x11]) hx12
    have ncx13 := Same.new (o := .lst [.ref x2, .ref x4, .ref x6, .ref x8, .ref x10, .ref x12]) hx13
    have cx12 := ncx13
    have cx11 := ncx12.trans cx12
    have cx10 := ncx11.trans cx11
    have cx9 := ncx10.trans cx10
    have cx8 := ncx9.trans cx9
    have cx7 := ncx8.trans cx8
    have cx6 := ncx7.trans cx7
    have cx5 := ncx6.trans cx6
    have cx4 := ncx5.trans cx5
    have cx3 := ncx4.trans cx4
    have cx2 := ncx3.trans cx3
    have cx1 := ncx2.trans cx2
    have cx0 := ncx1.trans cx1
    have Dx : DpAll K _ [.ref x2, .ref x4, .ref x6, .ref x8, .ref x10, .ref x12] [.tuple [.int 0, .tuple [.str "a"]], .tuple [.int 4, .tuple [.str "a"]], .tuple [.bool true, .tuple [.str "a"]], .tuple [.int 1, .tuple []], .tuple [.int 2, .tuple [.str "a", .str "a"]], .tuple [.int 3, .tuple [.str "a", .str "b", .str "c", .str "d"]]] := .cons (.tup (a := x2) (xs := [.int 0, .ref x1]) (.inl (.inl (cx2 _ _ upd_same))) (.cons (.int _) (.cons (.tup (a := x1) (xs := [.str "a"]) (.inl (.inl (cx1 _ _ upd_same))) (.cons (.str _) (.nil))) (.nil)))) (.cons (.tup (a := x4) (xs := [.int 4, .ref x3]) (.inl (.inl (cx4 _ _ upd_same))) (.cons (.int _) (.cons (.tup (a := x3) (xs := [.str "a"]) (.inl (.inl (cx3 _ _ upd_same))) (.cons (.str _) (.nil))) (.nil)))) (.cons (.tup (a := x6) (xs := [.bl true, .ref x5]) (.inl (.inl (cx6 _ _ upd_same))) (.cons (.bl _) (.cons (.tup (a := x5) (xs := [.str "a"]) (.inl (.inl (cx5 _ _ upd_same))) (.cons (.str _) (.nil))) (.nil)))) (.cons (.tup (a := x8) (xs := [.int 1, .ref x7]) (.inl (.inl (cx8 _ _ upd_same))) (.cons (.int _) (.cons (.tup (a := x7) (xs := []) (.inl (.inl (cx7 _ _ upd_same))) (.nil)) (.nil)))) (.cons (.tup (a := x10) (xs := [.int 2, .ref x9]) (.inl (.inl (cx10 _ _ upd_same))) (.cons (.int _) (.cons (.tup (a := x9) (xs := [.str "a", .str "a"]) (.inl (.inl (cx9 _ _ upd_same))) (.cons (.str _) (.cons (.str _) (.nil)))) (.nil)))) (.cons (.tup (a := x12) (xs := [.int 3, .ref x11]) (.inl (.inl (cx12 _ _ upd_same))) (.cons (.int _) (.cons (.tup (a := x11) (xs := [.str "a", .str "b", .str "c", .str "d"]) (.inl (.inl (cx11 _ _ upd_same))) (.cons (.str _) (.cons (.str _) (.cons (.str _) (.cons (.str _) (.nil)))))) (.nil)))) (.nil))))))
    have Lx := at_new (o := .lst [.ref x2, .ref x4, .ref x6, .ref x8, .ref x10, .ref x12]) hx13
    revert cx0 Dx Lx
    generalize upd (upd _ x12 _) x13 _ = H4
    intro cx0 Dx Lx
    refine ⟨_, rfl, ?_⟩
    refine ⟨sz_lit (by show 1 ≤ 100000; decide), fun y1 hy1 => ⟨sz_lit (by show 2 ≤ 100000; decide), fun y2 hy2 => ⟨sz_lit (by show 1 ≤ 100000; decide), fun y3 hy3 => ⟨sz_lit (by show 1 ≤ 100000; decide), fun y4 hy4 => ⟨sz_lit (by show 2 ≤ 100000; decide), fun y5 hy5 => ⟨sz_lit (by show 2 ≤ 100000; decide), fun y6 hy6 => ⟨sz_lit (by show 1 ≤ 100000; decide), fun y7 hy7 => ⟨sz_lit (by show 2 ≤ 100000; decide), fun y8 hy8 => ⟨sz_lit (by show 1 ≤ 100000; decide), fun y9 hy9 => ⟨sz_lit (by show 3 ≤ 100000; decide), fun y10 hy10 => ⟨sz_lit (by show 7 ≤ 100000; decide), fun y11 hy11 => ?_⟩⟩⟩⟩⟩⟩⟩⟩⟩⟩⟩
    have ncy1 := Same.new (o := .tup [.str "a"]) hy1
    have ncy2 := Same.new (o := .lst [.int 1, .ref y1]) hy2
    have ncy3 := Same.new (o := .tup [.int 1]) hy3
    have ncy4 := Same.new (o := .lst [.str "a"]) hy4
    have ncy5 := Same.new (o := .tup [.int 1, .ref y4]) hy5
    have ncy6 := Same.new (o := .tup [.int 1, .str "a"]) hy6
    have ncy7 := Same.new (o := .tup [.str "a"]) hy7
    have ncy8 := Same.new (o := .tup [.str "1", .ref y7]) hy8
    have ncy9 := Same.new (o := .tup [.str "a"]) hy9
    have ncy10 := Same.new (o := .tup [.int 1, .ref y9, .int 1]) hy10
    have ncy11 := Same.new (o := .lst [.ref y2, .ref y3, .ref y5, .non, .ref y6, .ref y8, .ref y10]) hy11
    have cy10 := ncy11
    have cy9 := ncy10.trans cy10
    have cy8 := ncy9.trans cy9
    have cy7 := ncy8.trans cy8
    have cy6 := ncy7.trans cy7
    have cy5 := ncy6.trans cy6
    have cy4 := ncy5.trans cy5
    have cy3 := ncy4.trans cy4
    have cy2 := ncy3.trans cy3
    have cy1 := ncy2.trans cy2
    have cy0 := ncy1.trans cy1
    have Dy : DpAll K _ [.ref y2, .ref y3, .ref y5, .non, .ref y6, .ref y8, .ref y10] [.list [.int 1, .tuple [.str "a"]], .tuple [.int 1], .tuple [.int 1, .list [.str "a"]], .none, .tuple [.int 1, .str "a"], .tuple [.str "1", .tuple [.str "a"]], .tuple [.int 1, .tuple [.str "a"], .int 1]] := .cons (.lst (a := y2) (xs := [.int 1, .ref y1]) (.inl (.inl (cy2 _ _ upd_same))) (.cons (.int _) (.cons (.tup (a := y1) (xs := [.str "a"]) (.inl (.inl (cy1 _ _ upd_same))) (.cons (.str _) (.nil))) (.nil)))) (.cons (.tup (a := y3) (xs := [.int 1]) (.inl (.inl (cy3 _ _ upd_same))) (.cons (.int _) (.nil))) (.cons (.tup (a := y5) (xs := [.int 1, .ref y4]) (.inl (.inl (cy5 _ _ upd_same))) (.cons (.int _) (.cons (.lst (a := y4) (xs := [.str "a"]) (.inl (.inl (cy4 _ _ upd_same))) (.cons (.str _) (.nil))) (.nil)))) (.cons (.non) (.cons (.tup (a := y6) (xs := [.int 1, .str "a"]) (.inl (.inl (cy6 _ _ upd_same))) (.cons (.int _) (.cons (.str _) (.nil)))) (.cons (.tup (a := y8) (xs := [.str "1", .ref y7]) (.inl (.inl (cy8 _ _ upd_same))) (.cons (.str _) (.cons (.tup (a := y7) (xs := [.str "a"]) (.inl (.inl (cy7 _ _ upd_same))) (.cons (.str _) (.nil))) (.nil)))) (.cons (.tup (a := y10) (xs := [.int 1, .ref y9, .int 1]) (.inl (.inl (cy10 _ _ upd_same))) (.cons (.int _) (.cons (.tup (a := y9) (xs := [.str "a"]) (.inl (.inl (cy9 _ _ upd_same))) (.cons (.str _) (.nil))) (.cons (.int _) (.nil))))) (.nil)))))))
    have Ly := at_new (o := .lst [.ref y2, .ref y3, .ref y5, .non, .ref y6, .ref y8, .ref y10]) hy11
    revert cy0 Dy Ly
    generalize upd (upd _ y10 _) y11 _ = H5
    intro cy0 Dy Ly
    refine ⟨_, _, _, _, rfl, rfl, cy0 _ _ Lx, Ly, sz_lit (by show 13 ≤ 100000; decide), fun m1 hm1 => ?_⟩
    have D6 := DpAll.append (DpAll.mono cy0 Dx) Dy
    have s6 := Same.new (o := .lst ([.ref x2, .ref x4, .ref x6, .ref x8, .ref x10, .ref x12] ++ [.ref y2, .ref y3, .ref y5, .non, .ref y6, .ref y8, .ref y10])) hm1
    have l6 := at_new (o := .lst ([.ref x2, .ref x4, .ref x6, .ref x8, .ref x10, .ref x12] ++ [.ref y2, .ref y3, .ref y5, .non, .ref y6, .ref y8, .ref y10])) hm1
    have D6' := DpAll.mono s6 D6
    revert s6 l6 D6'
    generalize upd H5 m1 _ = H6
    intro s6 l6 D6'
    refine ⟨_, rfl, ?_⟩
    refine ⟨sz_lit (by show 1 ≤ 100000; decide), fun z1 hz1 => ⟨sz_lit (by show 2 ≤ 100000; decide), fun z2 hz2 => ⟨_, _, rfl, rfl, ⟨by decide, by decide, by decide⟩, sz_lit (by show 1 ≤ 100000; decide), fun z3 hz3 => ⟨sz_lit (by show 2 ≤ 100000; decide), fun z4 hz4 => ⟨sz_lit (by show 2 ≤ 100000; decide), fun z5 hz5 => ?_⟩⟩⟩⟩⟩
    have ncz1 := Same.new (o := .tup [.str "A"]) hz1
    have ncz2 := Same.new (o := .tup [.int 1, .ref z1]) hz2
    have ncz3 := Same.new (o := .tup [.str "a"]) hz3
    have ncz4 := Same.new (o := .tup [.int ((10 : Int) ^ (30 : Int).toNat), .ref z3]) hz4
    have ncz5 := Same.new (o := .lst [.ref z2, .ref z4]) hz5
    have cz4 := ncz5
    have cz3 := ncz4.trans cz4
    have cz2 := ncz3.trans cz3
    have cz1 := ncz2.trans cz2
    have cz0 := ncz1.trans cz1
    have Dz : DpAll K _ [.ref z2, .ref z4] [.tuple [.int 1, .tuple [.str "A"]], .tuple [.int ((10 : Int) ^ (30 : Int).toNat), .tuple [.str "a"]]] := .cons (.tup (a := z2) (xs := [.int 1, .ref z1]) (.inl (.inl (cz2 _ _ upd_same))) (.cons (.int _) (.cons (.tup (a := z1) (xs := [.str "A"]) (.inl (.inl (cz1 _ _ upd_same))) (.cons (.str _) (.nil))) (.nil)))) (.cons (.tup (a := z4) (xs := [.int ((10 : Int) ^ (30 : Int).toNat), .ref z3]) (.inl (.inl (cz4 _ _ upd_same))) (.cons (.int _) (.cons (.tup (a := z3) (xs := [.str "a"]) (.inl (.inl (cz3 _ _ upd_same))) (.cons (.str _) (.nil))) (.nil)))) (.nil))
    have Lz := at_new (o := .lst [.ref z2, .ref z4]) hz5
    revert cz0 Dz Lz
    generalize upd (upd _ z4 _) z5 _ = H7
    intro cz0 Dz Lz
    refine ⟨_, _, _, _, rfl, rfl, cz0 _ _ l6, Lz, sz_lit (by show 15 ≤ 100000; decide), fun m2 hm2 => ?_⟩
    have s8 := Same.new (o := .lst (([.ref x2, .ref x4, .ref x6, .ref x8, .ref x10, .ref x12] ++ [.ref y2, .ref y3, .ref y5, .non, .ref y6, .ref y8, .ref y10]) ++ [.ref z2, .ref z4])) hm2
    have l8 := at_new (o := .lst (([.ref x2, .ref x4, .ref x6, .ref x8, .ref x10, .ref x12] ++ [.ref y2, .ref y3, .ref y5, .non, .ref y6, .ref y8, .ref y10]) ++ [.ref z2, .ref z4])) hm2
    have D8 : DpAll K _ (([.ref x2, .ref x4, .ref x6, .ref x8, .ref x10, .ref x12] ++ [.ref y2, .ref y3, .ref y5, .non, .ref y6, .ref y8, .ref y10]) ++ [.ref z2, .ref z4]) menuD := DpAll.mono s8 (DpAll.append (DpAll.mono cz0 D6') Dz)
    have s38 := ((((cx0.trans cy0).trans s6).trans cz0).trans s8)
    revert s38 l8 D8
    generalize upd H7 m2 _ = H8
    generalize ((([.ref x2, .ref x4, .ref x6, .ref x8, .ref x10, .ref x12] : List V) ++ [.ref y2, .ref y3, .ref y5, .non, .ref y6, .ref y8, .ref y10]) ++ [.ref z2, .ref z4]) = vals
    intro l8 D8 s38
    have pl8 := pl3.mono s38
    refine ⟨_, rfl, _, rfl, p, c, 15, rfl, pl8, by decide, fun r H9 r1 r2 b9 pl9 => ?_⟩
    obtain ⟨m, rfl⟩ := Int.eq_ofNat_of_zero_le r1
    have hm : m < 15 := by omega
    have kp9 : Kp H8 H9 := pl8.kp b9
    obtain ⟨v, hv, hdv⟩ := dp_pick (n := m) D8 hm
    have hbad := List.all_eq_true.mp menu_bad (menuD[m]'hm) (List.getElem_mem hm)
    revert hdv hbad
    generalize menuD[m]'hm = dd
    intro hdv hbad
    obtain ⟨hbad, hwt⟩ := Bool.and_eq_true_iff.mp hbad
    have hbad : isBox dd = false := by simpa using hbad
    have hwt : wt dd ≤ 1000 := of_decide_eq_true hwt
    have d9 : H9 d = some (.dK ws) := b9 _ _ (s38 _ _ d3) hdp
    have hdc : d ≠ c := fun e => by obtain ⟨_, h⟩ := pl3.cells; rw [← e, d3] at h; cases h
    have kp10 : Kp H9 (upd H9 d (.dK (putK ws (.inr nm) v))) := fun b o hb ho => by
      rw [L2.upd_ne (fun e => by rw [e, d9] at hb; cases hb; cases ho)]
      exact hb
    refine ⟨_, _, _, v, rfl, rfl, SqL.kp (.inl (.inl l8)) kp9, hv, _, rfl, _, rfl, d, _, rfl, DPut.k (k := (.inr nm : Key)) d9 (lt_sz (by omega)), ?_⟩
    refine ⟨_, rfl, k (.ref d) (.dict (putP kvs nm dd)) _ (fun b o hb n1 n2 => ?_) (pl9.put hdp hdc) ⟨d, _, rfl, upd_same, (kv3.mono ((s38.kp.trans kp9).trans kp10)).put (hdv.kp (kp9.trans kp10)), putP_nodup tb.nd⟩ (.inl rfl) ?_ (tab_bad mem_putP (.inr hbad))⟩
    · rw [L2.upd_ne n2]
      exact b9 _ _ (s38 _ _ (b03 b o hb n1)) n1
    · refine argSmall_of (by have := putP_len (t := kvs) (x := nm) (d := dd); omega) (putP_all (R := fun q => q.1.length ≤ 100 ∧ wt q.2 ≤ 1000) (fun q hq => ⟨by have := word_len (tb.all q hq).1; omega, (tb.all q hq).2.2⟩) ⟨?_, hwt⟩)
      obtain ⟨q, hq, e⟩ := List.mem_map.mp hnk
      have := word_len (tb.all q hq).1
      rw [e] at this
      show nm.length ≤ 100
      omega
end
end Op
namespace Op
open PySem L2 PyProof.Rows
def dropP (t : List (Str × PyData)) (x : Str) : List (Str × PyData) := t.filter fun q => decide (q.1 ≠ x)
theorem KvsR.drop {K : PySem.W.Frag} {H : Hp} {x : Str} : ∀ {vs : List (Key × V)} {t : List (Str × PyData)}, KvsR K H vs t → KvsR K H (dropK vs (.inr x)) (dropP t x)
  | [], [], _ => trivial
  | (k, u) :: r, (y, e) :: t, ⟨h1, h2, h3⟩ => by
    have ih := KvsR.drop (x := x) h3
    unfold dropK dropP at ih ⊢
    rw [List.filter_cons, List.filter_cons]
    by_cases z : y = x
    · rw [if_neg (by simp [h1, z]), if_neg (by simp [z])]
      exact ih
    · rw [if_pos (by simp [h1, z]), if_pos (by simp [z])]
      exact ⟨h1, h2, ih⟩
theorem KvsR.txt {K : PySem.W.Frag} {H : Hp} : ∀ {vs : List (Key × V)} {t : List (Str × PyData)}, KvsR K H vs t → txtK vs
  | [], [], _ => fun p hp => (List.not_mem_nil hp).elim
  | (k, u) :: r, (y, e) :: t, ⟨h1, h2, h3⟩ => fun p hp => by
    rcases List.mem_cons.mp hp with rfl | hp
    · exact ⟨y, h1⟩
    · exact KvsR.txt h3 p hp
theorem drop_sub {t : List (Str × PyData)} {x : Str} {q : Str × PyData} (h : q ∈ dropP t x) : q ∈ t := (List.mem_filter.mp h).1
theorem drop_len (t : List (Str × PyData)) (x : Str) : (dropP t x).length ≤ t.length := List.length_filter_le _ _
theorem drop_nodup {t : List (Str × PyData)} {x : Str} (h : (t.map (·.1)).Nodup) : ((dropP t x).map (·.1)).Nodup := h.sublist (List.filter_sublist.map _)
def menuA : List PyData := [.tuple [], .tuple [.str "a", .str "a"], .tuple [.str "a", .str "b", .str "c", .str "d", .str "e"], .list [.str "a"], .str "a", .none, .tuple [.str "a", .int 1], .tuple [.str ""]]
theorem menuA_bad : (menuA.all fun d => !areWords 4 d && decide (wt d ≤ 1000)) = true := by decide +kernel
def menuK : List PyData := [.str "", .str "A", .int 5, .none, .tuple [.str "a"], .bool true]
def spWA (K : PySem.W.Frag) : Sp := fun vs H Q _ => ∃ (p c d : Addr) (ws : List (Key × V)) (kvs : List (Str × PyData)), vs = [.ref p, .ref d] ∧ Pl H p c ∧ d ≠ p ∧ TbV K H d ws kvs (areWords 4) 6 ∧
  (∀ v a H', But2 p d H H' → Pl H' p c → ArgV K H' v a → (v = .ref d ∨ ∃ dd, a = .other dd) → argSmall a → okTab (areWords 4) 6 a = none → Q v H') ∧ ∀ H', But2 p d H H' → Pl H' p c → OddA K H' (.ref d) → Q (.ref d) H'
section
variable {P : Program} {w : World} {K : PySem.W.Frag} {mg : Str → Option Value} {base : Heap}
theorem sc__law_wrong_asks : FnScope ["_law_bag_here", "_law_answers", "_law_name", "_law_way"] ["_law_bag_here", "_law_answers"] (defScope s__law_wrong_asks) := ⟨rfl, rfl, rfl, by decide +kernel, rfl, by decide +kernel, by decide +kernel⟩
theorem ok_wrong_asks {f : Addr} {fd : FuncData} (F : Fun K "_law_wrong_asks" "_law_wrong_asks" s__law_wrong_asks f fd) (T : Txt mg) (c__law_draw : Cal P w K mg base CX0 1 "_law_draw" ["_law_bag_here", "_law_many"] spD) (c__law_words : Cal P w K mg base CX0 2 "_law_words" ["_law_bag_here", "_law_many", "_law_most", "_law_taken"] (spWords K)) : FnOk P w K mg base CX0 3 f fd ["_law_bag_here", "_law_answers"] (spWA K) := by
  refine F.ok sc__law_wrong_asks (fun vs H Q E h => ?_) (fun cdv A outer s H vs Q E hr h => ?_)
  · obtain ⟨p, c, d, ws, kvs, rfl, _⟩ := h
    rfl
  · obtain ⟨p, c, d, ws, kvs, rfl, hp, hdp, tb, k, kO⟩ := h
    have hu := hu_of hr
    refine ⟨_, (pss_cons (ps_set (i := 2) sc__law_wrong_asks.nd rfl (.inl rfl) (pe_ix ix_list (pe_callB (call_sortedKV rfl) (by rfl) T.b_sorted (by decide +kernel) (pa_cons (pe_bm0 PySem.F.plainAttrs_dict PySem.F.slot_dict_keys PySem.F.type_dict_keys mt_keysV (pv 1)) pa_nil)) (pe_cal c__law_draw (hr.mono (by omega)) rfl pass0 (pa_cons (pv 0) (pa_cons pe_int pa_nil))) (fun _ _ => rfl)))
      (pss_cons (ps_set (i := 3) sc__law_wrong_asks.nd rfl (.inl rfl) (pe_cal c__law_draw (hr.mono (by omega)) rfl pass0 (pa_cons (pv 0) (pa_cons pe_int pa_nil))))
      (pss_cons (ps_if (pt_cmpR op_eq (pv 3) pe_int (nomark _)) (pss_one (ps_ret (pe_ix ix_list (pe_lst (pa_cons (pe_lst (pa_cons pe_str pa_nil)) (pa_cons pe_str (pa_cons pe_int (pa_cons (pe_tup pa_nil) (pa_cons pe_bl pa_nil)))))) (pe_cal c__law_draw (hr.mono (by omega)) rfl pass0 (pa_cons (pv 0) (pa_cons pe_int pa_nil))) (fun _ _ => rfl)))) pss_nil)
      (pss_cons (ps_if (pt_cmpR op_eq (pv 3) pe_int (nomark _)) (pss_cons (ps_dput hu (pv 1) (pe_ix ix_list (pe_cal c__law_words (hr.mono (by omega)) rfl pass0 (pa_cons (pv 0) (pa_cons pe_int (pa_cons pe_int (pa_cons (pe_callTy (call_listKV rfl) (by rfl) T.b_list (by decide +kernel) (pa_cons (pe_bm0 PySem.F.plainAttrs_dict PySem.F.slot_dict_keys PySem.F.type_dict_keys mt_keysV (pv 1)) pa_nil)) pa_nil))))) pe_int (fun _ _ => rfl)) (pe_tup (pa_cons pe_str pa_nil)) rfl)
      (pss_one (ps_ret (pv 1)))) pss_nil)
      (pss_cons (ps_if (pt_cmpR op_eq (pv 3) pe_int (nomark _)) (pss_cons (ps_expr (pe_dpop1 (pv 1) (pv 2) ⟨rfl, rfl, rfl, rfl⟩))
      (pss_cons (ps_dputO hr.units (pv 1) (pe_ix ix_list (pe_lst (pa_cons pe_str (pa_cons pe_str (pa_cons pe_int (pa_cons pe_non (pa_cons (pe_tup (pa_cons pe_str pa_nil)) (pa_cons pe_bl pa_nil))))))) (pe_cal c__law_draw (hr.mono (by omega)) rfl pass0 (pa_cons (pv 0) (pa_cons pe_int pa_nil))) (fun _ _ => rfl)) (pe_tup (pa_cons pe_str pa_nil)) rfl)
      (pss_one (ps_ret (pv 1))))) pss_nil)
      (pss_cons (ps_dput hu (pv 1) (pv 2) (pe_ix ix_list (pe_lst (pa_cons (pe_tup pa_nil) (pa_cons (pe_tup (pa_cons pe_str (pa_cons pe_str pa_nil))) (pa_cons (pe_tup (pa_cons pe_str (pa_cons pe_str (pa_cons pe_str (pa_cons pe_str (pa_cons pe_str pa_nil)))))) (pa_cons (pe_lst (pa_cons pe_str pa_nil)) (pa_cons pe_str (pa_cons pe_non (pa_cons (pe_tup (pa_cons pe_str (pa_cons pe_int pa_nil))) (pa_cons (pe_tup (pa_cons pe_str pa_nil)) pa_nil))))))))) (pe_cal c__law_draw (hr.mono (by omega)) rfl pass0 (pa_cons (pv 0) (pa_cons pe_int pa_nil))) (fun _ _ => rfl)) rfl)
      (pss_one (ps_ret (pv 1))))))))), ?_⟩
    have hkl := tb.len
    have hwl : ws.length = 6 := by rw [tb.kv.len, hkl]
    refine ⟨_, rfl, tyV_dK tb.at', d, ws, rfl, rfl, .inl tb.at', fun q hq => ?_⟩
    refine ⟨q, d, ws, kvs.map (·.1), rfl, upd_same, .inl (Same.new hq _ _ tb.at'), tb.kv.keys, by rw [List.length_map]; omega, fun ys l hperm hsort hl => ?_⟩
    have hyl : ys.length = 6 := by rw [hperm.length_eq, List.length_map, hkl]
    have s1 := (Same.new (o := keysO q d) hq).trans (Same.new (o := .lst (ys.map V.str)) hl)
    have l1 := at_new (o := .lst (ys.map V.str)) hl
    revert s1 l1
    generalize upd (upd H q _) l _ = H1
    intro s1 l1
    have pl1 := hp.mono s1
    refine ⟨_, rfl, p, c, 6, rfl, pl1, by decide, fun r H2 r1 r2 b2 pl2 => ?_⟩
    obtain ⟨n, rfl⟩ := Int.eq_ofNat_of_zero_le r1
    have hn : n < ys.length := by omega
    have hlp : l ≠ p := fun e => by obtain ⟨_, h⟩ := pl1.at; rw [e, h] at l1; cases l1
    have hyn : ys[n]? = some ys[n] := List.getElem?_eq_getElem hn
    obtain ⟨nm, hnm⟩ : ∃ z, z = ys[n] := ⟨_, rfl⟩
    rw [← hnm] at hyn
    have hnk : nm ∈ kvs.map (·.1) := hperm.mem_iff.mp (List.mem_of_getElem? hyn)
    have hnl : nm.length ≤ 8 := by
      obtain ⟨q, hq, e⟩ := List.mem_map.mp hnk
      have := word_len (tb.all q hq).1
      rw [e] at this
      exact this
    refine ⟨l, _, _, .str nm, rfl, rfl, .inl (.inl (b2 _ _ l1 hlp)), atI_nat (j := n) (by rw [List.getElem?_map, hyn]; rfl), ?_⟩
    refine ⟨_, rfl, p, c, 4, rfl, pl2, by decide, fun wy H3 w1 w2 b3 pl3 => ?_⟩
    have b03 : But p H H3 := (Same.but s1).trans (b2.trans b3)
    have d3 : H3 d = some (.dK ws) := b03 _ _ tb.at' hdp
    have kv3 : KvsR K H3 ws kvs := tb.kv.mono (hp.kp b03)
    have hdc : d ≠ c := fun e => by obtain ⟨_, h⟩ := pl3.cells; rw [← e, d3] at h; cases h
    have small : ∀ q ∈ kvs, q.1.length ≤ 100 ∧ wt q.2 ≤ 1000 := fun q hq => ⟨by have := word_len (tb.all q hq).1; omega, (tb.all q hq).2.2⟩
    have kpd : ∀ {G : Hp} {us : List (Key × V)} {ob : HO}, G d = some (.dK us) → Kp G (upd G d ob) := fun hG b o hb ho => by
      rw [L2.upd_ne (fun e => by rw [e, hG] at hb; cases hb; cases ho)]
      exact hb
    refine ⟨_, rfl, rfl, _, rfl, ?_⟩
    by_cases e0 : wy = 0
    · refine ifT (decide_eq_true (congrArg V.int e0)) ?_
      refine ⟨sz_lit (by show 1 ≤ 100000; decide), fun x1 hx1 => ⟨sz_lit (by show 0 ≤ 100000; decide), fun x2 hx2 => ⟨sz_lit (by show 5 ≤ 100000; decide), fun x3 hx3 => ?_⟩⟩⟩
      have ncx1 := Same.new (o := .lst [.str "pay"]) hx1
      have ncx2 := Same.new (o := .tup []) hx2
      have ncx3 := Same.new (o := .lst [.ref x1, .str "", .int 0, .ref x2, .bl true]) hx3
      have cx2 := ncx3
      have cx1 := ncx2.trans cx2
      have cx0 := ncx1.trans cx1
      have Dx : DpAll K _ [.ref x1, .str "", .int 0, .ref x2, .bl true] [.list [.str "pay"], .str "", .int 0, .tuple [], .bool true] := .cons (.lst (a := x1) (xs := [.str "pay"]) (.inl (.inl (cx1 _ _ upd_same))) (.cons (.str _) (.nil))) (.cons (.str _) (.cons (.int _) (.cons (.tup (a := x2) (xs := []) (.inl (.inl (cx2 _ _ upd_same))) (.nil)) (.cons (.bl _) (.nil)))))
      have Lx := at_new (o := .lst [.ref x1, .str "", .int 0, .ref x2, .bl true]) hx3
      revert cx0 Dx Lx
      generalize upd (upd _ x2 _) x3 _ = H4
      intro cx0 Dx Lx
      refine ⟨_, rfl, p, c, 5, rfl, pl3.mono cx0, by decide, fun r H5 r1 r2 b5 pl5 => ?_⟩
      obtain ⟨m, rfl⟩ := Int.eq_ofNat_of_zero_le r1
      have hm : m < 5 := by omega
      have kp5 : Kp H4 H5 := (pl3.mono cx0).kp b5
      obtain ⟨v, hv, hdv⟩ := dp_pick (n := m) Dx hm
      refine ⟨_, _, _, v, rfl, rfl, SqL.kp (.inl (.inl Lx)) kp5, hv, k v (.other _) H5 (fun b o hb n1 _ => b5 _ _ (cx0 _ _ (b03 b o hb n1)) n1) pl5 ⟨hdv.kp kp5, ?_⟩ (.inr ⟨_, rfl⟩) trivial rfl⟩
      have : ∀ m (hm : m < 5), ([.list [.str "pay"], .str "", .int 0, .tuple [], .bool true] : List PyData)[m] ≠ .none := by
        intro m hm
        match m, hm with
        | 0, _ => exact nofun
        | 1, _ => exact nofun
        | 2, _ => exact nofun
        | 3, _ => exact nofun
        | 4, _ => exact nofun
      exact this m hm
    refine ifF (decide_eq_false fun z => e0 (V.int.inj z)) ?_
    refine ⟨_, rfl, rfl, _, rfl, ?_⟩
    by_cases e1 : wy = 1
    · refine ifT (decide_eq_true (congrArg V.int e1)) ?_
      refine ⟨sz_lit (by show 1 ≤ 100000; decide), fun t1 g1 => ?_⟩
      have r12 := Same.new (o := .tup [.str "no"]) g1
      have q1 := at_new (o := .tup [.str "no"]) g1
      have dv : Dp K (upd H3 t1 (.tup [.str "no"])) (.ref t1) (.tuple [.str "no"]) := .tup (.inl (.inl q1)) (.cons (.str _) .nil)
      revert r12 dv
      clear q1
      generalize upd H3 t1 _ = H4
      intro r12 dv
      refine ⟨_, rfl, _, rfl, _, rfl, tyV_dK (r12 _ _ d3), d, ws, rfl, rfl, .inl (r12 _ _ d3), fun q' hq' => ?_⟩
      refine ⟨q', d, ws, rfl, upd_same, .inl (Same.new hq' _ _ (r12 _ _ d3)), fun l2 hl2 => ?_⟩
      rw [tb.txt]
      have s5 := (Same.new (o := keysO q' d) hq').trans (Same.new (o := .lst ((kvs.map (·.1)).map V.str)) hl2)
      have l5 := at_new (o := .lst ((kvs.map (·.1)).map V.str)) hl2
      revert s5 l5
      generalize upd (upd H4 q' _) l2 _ = H5
      intro s5 l5
      have pl5 := (pl3.mono r12).mono s5
      refine ⟨p, c, l2, 1, 8, kvs.map (·.1), rfl, pl5, .inl (.inl l5), by decide, by decide, by rw [List.length_map]; omega, fun l3 zs H6 hl3 b6 pl6 f6 hzl hznd hz => ?_⟩
      obtain ⟨z, rfl⟩ : ∃ z, zs = [z] := by
        match zs, hzl with
        | [z], _ => exact ⟨z, rfl⟩
      obtain ⟨hzw, hzn⟩ := hz z List.mem_cons_self
      have d6 : H6 d = some (.dK ws) := b6 _ _ (s5 _ _ (r12 _ _ d3)) hdp
      have kp6 : Kp H3 H6 := (r12.trans s5).kp.trans (pl5.kp b6)
      have kp46 : Kp H4 H6 := s5.kp.trans (pl5.kp b6)
      refine ⟨l3, _, 0, .str z, rfl, rfl, .inl (.inl f6), rfl, d, _, rfl, DPut.k (k := (.inr z : Key)) d6 (lt_sz (by omega)), ?_⟩
      have kp7 : Kp H6 (upd H6 d (.dK (putK ws (.inr z) (.ref t1)))) := kpd d6
      refine ⟨_, rfl, k (.ref d) (.dict (putP kvs z (.tuple [.str "no"]))) _ (fun b o hb n1 n2 => ?_) (pl6.put hdp hdc) ⟨d, _, rfl, upd_same, (kv3.mono (kp6.trans kp7)).put (dv.kp (kp46.trans kp7)), putP_nodup tb.nd⟩ (.inl rfl) ?_ ?_⟩
      · rw [L2.upd_ne n2]
        exact b6 _ _ (s5 _ _ (r12 _ _ (b03 b o hb n1))) n1
      · refine argSmall_of (by have := putP_len (t := kvs) (x := z) (d := .tuple [.str "no"]); omega) (putP_all (R := fun q => q.1.length ≤ 100 ∧ wt q.2 ≤ 1000) small ⟨by have := word_len hzw; show z.length ≤ 100; omega, by show wt (.tuple [.str "no"]) ≤ 1000; decide +kernel⟩)
      · refine tab_long ?_
        rw [putP_new hzn, List.length_append, hkl]
        exact Nat.lt_succ_self 6
    refine ifF (decide_eq_false fun z => e1 (V.int.inj z)) ?_
    refine ⟨_, rfl, rfl, _, rfl, ?_⟩
    by_cases e2 : wy = 2
    · refine ifT (decide_eq_true (congrArg V.int e2)) ?_
      obtain ⟨v0, hv0, _⟩ := kv3.val nm hnk
      refine ⟨_, rfl, d, rfl, .inl ⟨_, .inl d3⟩, _, rfl, ws, .inr nm, v0, d3, rfl, hv0, ?_⟩
      have kp4 : Kp H3 (upd H3 d (.dK (dropK ws (.inr nm)))) := kpd d3
      have d4 : upd H3 d (.dK (dropK ws (.inr nm))) d = some (.dK (dropK ws (.inr nm))) := upd_same
      have b4 : ∀ b o, H3 b = some o → b ≠ d → upd H3 d (.dK (dropK ws (.inr nm))) b = some o := fun b o hb n2 => by rw [L2.upd_ne n2]; exact hb
      have pl4 : Pl (upd H3 d (.dK (dropK ws (.inr nm)))) p c := pl3.put hdp hdc
      have kvd : KvsR K H3 (dropK ws (.inr nm)) (dropP kvs nm) := KvsR.drop kv3
      have hwl' : (dropK ws (.inr nm)).length ≤ 6 := by have := dropK_le ws (.inr nm); omega
      have hkl' : (dropP kvs nm).length ≤ 6 := by have := drop_len kvs nm; omega
      revert kp4 d4 b4 pl4
      generalize upd H3 d _ = H4
      intro kp4 d4 b4 pl4
      generalize dropK ws (.inr nm) = ws' at *
      refine ⟨sz_lit (by show 1 ≤ 100000; decide), fun t1 g1 => ?_⟩
      have s5 := Same.new (o := .tup [.str "no"]) g1
      have q1 := at_new (o := .tup [.str "no"]) g1
      have dv : Dp K (upd H4 t1 (.tup [.str "no"])) (.ref t1) (.tuple [.str "no"]) := .tup (.inl (.inl q1)) (.cons (.str _) .nil)
      revert s5 dv
      clear q1
      generalize upd H4 t1 _ = H5
      intro s5 dv
      refine ⟨_, rfl, ?_⟩
      refine ⟨sz_lit (by show 1 ≤ 100000; decide), fun x1 hx1 => ⟨sz_lit (by show 6 ≤ 100000; decide), fun x2 hx2 => ?_⟩⟩
      have cx1 := Same.new (o := .lst [.str "", .str "A", .int 5, .non, .ref x1, .bl true]) hx2
      have cx0 := (Same.new (o := .tup [.str "a"]) hx1).trans cx1
      have fx1 := cx1 _ _ (at_new (o := .tup [.str "a"]) hx1)
      have Lx := at_new (o := .lst [.str "", .str "A", .int 5, .non, .ref x1, .bl true]) hx2
      revert cx0 fx1 Lx
      clear cx1
      generalize upd (upd _ x1 _) x2 _ = H6
      intro cx0 fx1 Lx
      have pl6 := (pl4.mono s5).mono cx0
      refine ⟨_, rfl, p, c, 6, rfl, pl6, by decide, fun r H7 r1 r2 b7 pl7 => ?_⟩
      have kp7 : Kp H6 H7 := pl6.kp b7
      have kp57 : Kp H5 H7 := cx0.kp.trans kp7
      have d7 : H7 d = some (.dK ws') := b7 _ _ (cx0 _ _ (s5 _ _ d4)) hdp
      have kv7 : KvsR K H7 ws' (dropP kvs nm) := (kvd.mono kp4).mono (s5.kp.trans kp57)
      have b07 : ∀ b o, H b = some o → b ≠ p → b ≠ d → H7 b = some o := fun b o hb n1 n2 => b7 _ _ (cx0 _ _ (s5 _ _ (b4 _ _ (b03 b o hb n1) n2))) n1
      have finT : ∀ z : Str, isWordS z = false → z.length ≤ 100 → Q (.ref d) (upd H7 d (.dK (putK ws' (.inr z) (.ref t1)))) := by
        intro z hzw hzl
        refine k (.ref d) (.dict (putP (dropP kvs nm) z (.tuple [.str "no"]))) _ (fun b o hb n1 n2 => ?_) (pl7.put hdp hdc) ⟨d, _, rfl, upd_same, (kv7.mono (kpd d7)).put (dv.kp (kp57.trans (kpd d7))), putP_nodup (drop_nodup tb.nd)⟩ (.inl rfl) ?_ (tab_bad mem_putP (.inl hzw))
        · rw [L2.upd_ne n2]
          exact b07 b o hb n1 n2
        · exact argSmall_of (by have := putP_len (t := dropP kvs nm) (x := z) (d := .tuple [.str "no"]); omega) (putP_all (R := fun q => q.1.length ≤ 100 ∧ wt q.2 ≤ 1000) (fun q hq => small q (drop_sub hq)) ⟨hzl, by show wt (.tuple [.str "no"]) ≤ 1000; decide +kernel⟩)
      have finO : ∀ (y : V) (dy : PyData), Dp K H7 y dy → isWord dy = false → (∀ z, dy ≠ .str z) → ∀ od, RawF d od (rawOf ws' ++ [(y, .ref t1)]) → Q (.ref d) (upd H7 d (RawD d od)) := by
        intro y dy hy hw hs od FR
        refine kO _ (fun b o hb n1 n2 => ?_) (pl7.put hdp hdc) ⟨d, od, ws', dropP kvs nm, y, .ref t1, dy, rfl, upd_same, FR, kv7.mono (kpd d7), fun q hq => ⟨by have := (small q (drop_sub hq)).1; omega, by have := (small q (drop_sub hq)).2; omega⟩, hy.kp (kpd d7), hw, hs⟩
        rw [L2.upd_ne n2]
        exact b07 b o hb n1 n2
      have txt7 := kv7.txt
      have lt7 : ws'.length < sizeLine := lt_sz (by omega)
      have sq7 := SqL.kp (K := K) (.inl (.inl Lx)) kp7
      have hr6 : r = 0 ∨ r = 1 ∨ r = 2 ∨ r = 3 ∨ r = 4 ∨ r = 5 := by omega
      have hx1 : H7 x1 = some (.tup [.str "a"]) := kp7 _ _ fx1 rfl
      rcases hr6 with rfl | rfl | rfl | rfl | rfl | rfl
      · exact ⟨_, _, 0, .str "", rfl, rfl, sq7, rfl, .inl ⟨d, _, rfl, DPut.k (k := (.inr "" : Key)) d7 lt7, _, rfl, finT "" (by decide +kernel) (by decide +kernel)⟩⟩
      · exact ⟨_, _, 1, .str "A", rfl, rfl, sq7, rfl, .inl ⟨d, _, rfl, DPut.k (k := (.inr "A" : Key)) d7 lt7, _, rfl, finT "A" (by decide +kernel) (by decide +kernel)⟩⟩
      · exact ⟨_, _, 2, .int 5, rfl, rfl, sq7, rfl, .inr ⟨d, ws', rfl, d7, txt7, lt7, .inr (.inr (.inl ⟨5, rfl⟩)), fun od FR => ⟨_, rfl, finO _ (.int 5) (.int _) rfl nofun od FR⟩⟩⟩
      · exact ⟨_, _, 3, .non, rfl, rfl, sq7, rfl, .inr ⟨d, ws', rfl, d7, txt7, lt7, .inl rfl, fun od FR => ⟨_, rfl, finO _ .none .non rfl nofun od FR⟩⟩⟩
      · exact ⟨_, _, 4, .ref x1, rfl, rfl, sq7, rfl, .inr ⟨d, ws', rfl, d7, txt7, lt7, .inr (.inr (.inr ⟨x1, "a", rfl, hx1⟩)), fun od FR => ⟨_, rfl, finO _ (.tuple [.str "a"]) (.tup (.inl (.inl hx1)) (.cons (.str _) .nil)) rfl nofun od FR⟩⟩⟩
      · exact ⟨_, _, 5, .bl true, rfl, rfl, sq7, rfl, .inr ⟨d, ws', rfl, d7, txt7, lt7, .inr (.inl rfl), fun od FR => ⟨_, rfl, finO _ (.bool true) (.bl _) rfl nofun od FR⟩⟩⟩
    refine ifF (decide_eq_false fun z => e2 (V.int.inj z)) ?_
    refine ⟨sz_lit (by show 0 ≤ 100000; decide), fun x1 hx1 => ⟨sz_lit (by show 2 ≤ 100000; decide), fun x2 hx2 => ⟨sz_lit (by show 5 ≤ 100000; decide), fun x3 hx3 => ⟨sz_lit (by show 1 ≤ 100000; decide), fun x4 hx4 => ⟨sz_lit (by show 2 ≤ 100000; decide), fun x5 hx5 => ⟨sz_lit (by show 1 ≤ 100000; decide), fun x6 hx6 => ⟨sz_lit (by show 8 ≤ 100000; decide), fun x7 hx7 => ?_⟩⟩⟩⟩⟩⟩⟩
    have ncx1 := Same.new (o := .tup []) hx1
    have ncx2 := Same.new (o := .tup [.str "a", .str "a"]) hx2
    have ncx3 := Same.new (o := .tup [.str "a", .str "b", .str "c", .str "d", .str "e"]) hx3
    have ncx4 := Same.new (o := .lst [.str "a"]) hx4
    have ncx5 := Same.new (o := .tup [.str "a", .int 1]) hx5
    have ncx6 := Same.new (o := .tup [.str ""]) hx6
    have ncx7 := Same.new (o := .lst [.ref x1, .ref x2, .ref x3, .ref x4, .str "a", .non, .ref x5, .ref x6]) hx7
    have cx6 := ncx7
    have cx5 := ncx6.trans cx6
    have cx4 := ncx5.trans cx5
    have cx3 := ncx4.trans cx4
    have cx2 := ncx3.trans cx3
    have cx1 := ncx2.trans cx2
    have cx0 := ncx1.trans cx1
    have Dx : DpAll K _ [.ref x1, .ref x2, .ref x3, .ref x4, .str "a", .non, .ref x5, .ref x6] [.tuple [], .tuple [.str "a", .str "a"], .tuple [.str "a", .str "b", .str "c", .str "d", .str "e"], .list [.str "a"], .str "a", .none, .tuple [.str "a", .int 1], .tuple [.str ""]] := .cons (.tup (a := x1) (xs := []) (.inl (.inl (cx1 _ _ upd_same))) (.nil)) (.cons (.tup (a := x2) (xs := [.str "a", .str "a"]) (.inl (.inl (cx2 _ _ upd_same))) (.cons (.str _) (.cons (.str _) (.nil)))) (.cons (.tup (a := x3) (xs := [.str "a", .str "b", .str "c", .str "d", .str "e"]) (.inl (.inl (cx3 _ _ upd_same))) (.cons (.str _) (.cons (.str _) (.cons (.str _) (.cons (.str _) (.cons (.str _) (.nil))))))) (.cons (.lst (a := x4) (xs := [.str "a"]) (.inl (.inl (cx4 _ _ upd_same))) (.cons (.str _) (.nil))) (.cons (.str _) (.cons (.non) (.cons (.tup (a := x5) (xs := [.str "a", .int 1]) (.inl (.inl (cx5 _ _ upd_same))) (.cons (.str _) (.cons (.int _) (.nil)))) (.cons (.tup (a := x6) (xs := [.str ""]) (.inl (.inl (cx6 _ _ upd_same))) (.cons (.str _) (.nil))) (.nil))))))))
    have Lx := at_new (o := .lst [.ref x1, .ref x2, .ref x3, .ref x4, .str "a", .non, .ref x5, .ref x6]) hx7
    revert cx0 Dx Lx
    generalize upd (upd _ x6 _) x7 _ = H8
    intro cx0 Dx Lx
    have D8 : DpAll K H8 [.ref x1, .ref x2, .ref x3, .ref x4, .str "a", .non, .ref x5, .ref x6] menuA := Dx
    have s38 := cx0
    have pl8 := pl3.mono s38
    refine ⟨_, rfl, p, c, 8, rfl, pl8, by decide, fun r H9 r1 r2 b9 pl9 => ?_⟩
    obtain ⟨m, rfl⟩ := Int.eq_ofNat_of_zero_le r1
    have hm : m < 8 := by omega
    have kp9 : Kp H8 H9 := pl8.kp b9
    obtain ⟨v, hv, hdv⟩ := dp_pick (n := m) D8 hm
    have hbad := List.all_eq_true.mp menuA_bad (menuA[m]'hm) (List.getElem_mem hm)
    revert hdv hbad
    generalize menuA[m]'hm = dd
    intro hdv hbad
    obtain ⟨hbad, hwt⟩ := Bool.and_eq_true_iff.mp hbad
    have hbad : areWords 4 dd = false := by simpa using hbad
    have hwt : wt dd ≤ 1000 := of_decide_eq_true hwt
    have d9 : H9 d = some (.dK ws) := b9 _ _ (s38 _ _ d3) hdp
    have kp10 : Kp H9 (upd H9 d (.dK (putK ws (.inr nm) v))) := kpd d9
    refine ⟨_, _, _, v, rfl, rfl, SqL.kp (.inl (.inl Lx)) kp9, hv, _, rfl, _, rfl, d, _, rfl, DPut.k (k := (.inr nm : Key)) d9 (lt_sz (by omega)), ?_⟩
    refine ⟨_, rfl, k (.ref d) (.dict (putP kvs nm dd)) _ (fun b o hb n1 n2 => ?_) (pl9.put hdp hdc) ⟨d, _, rfl, upd_same, (kv3.mono ((s38.kp.trans kp9).trans kp10)).put (hdv.kp (kp9.trans kp10)), putP_nodup tb.nd⟩ (.inl rfl) ?_ (tab_bad mem_putP (.inr hbad))⟩
    · rw [L2.upd_ne n2]
      exact b9 _ _ (s38 _ _ (b03 b o hb n1)) n1
    · exact argSmall_of (by have := putP_len (t := kvs) (x := nm) (d := dd); omega) (putP_all (R := fun q => q.1.length ≤ 100 ∧ wt q.2 ≤ 1000) small ⟨by show nm.length ≤ 100; omega, hwt⟩)
end
end Op
namespace L2
open PySem PySem.Spec PyProof.Rows
/-- len(x), x an instance of a class with its own __len__ -/
theorem call_lenI {X : Cx} {CX : CXT} {n : Nat} {C f : Addr} {fd : FuncData} {sp : Sp} {E : XK} (F : FnOk X.prog X.w X.K X.mg X.base CX n f fd ["self"] sp) (hs : PySem.W.findIn X.K (.ref C) "__len__" = some (some (.ref f))) (hf : PySem.W.isFn X.K (.ref f) = true) (hb : Binds X.K fd ["self"] []) (hr : Room (n + 1) X.A) (hx : Passes CX X E) :
    CallR X (.builtin "len") (fun xs H Q => ∃ a dx fs, xs = [.ref a] ∧ H a = some (.ins C dx fs) ∧ sp [.ref a] H (fun v H' => ∃ m : Nat, v = .int m ∧ m ≤ sizeLine ∧ Q (.int m) H') E) := by
  intro pins s σ H xs us Q I r h
  obtain ⟨a, dx, fs, rfl, ha, hsp⟩ := h
  obtain ⟨u, rfl, ru⟩ := vals1 r
  cases (show u = Value.ref a from ru)
  obtain ⟨mA, J, _⟩ := ins_get I.hok ha
  obtain ⟨od, J, _⟩ := J.look
  obtain ⟨m, hF⟩ := I.fr
  refine PySem.W.len_K hF I.ok.mod.kin J hs hf ?_
  have e0 : Env0 X.prog X.w X.K X.mg X.base X.A.in1 X.stack s H := by
    have e := I.env0
    exact ⟨e.frames, e.mod, e.bs, e.bsz, e.funs, e.frf, e.hok, e.bare⟩
  have hl := F.len _ _ _ _ hsp
  have r2 : Vals [V.ref a] [Value.ref a] := .cons rfl .nil
  refine wpAny_call (codeAny_mono (F.run X.A.in1 X.stack s H ⟨[.ref a], []⟩ [.ref a] [.ref a] _ E hr.in1 e0 (by
    have := hb s [.ref a] I.kIn (by simpa using hl)
    simpa using this) r2 hsp) fun r s' hq => ?_)
  cases r with
  | error e => exact hx pins σ H s e s' I hq
  | ok fl =>
    cases fl with
    | ret w =>
      obtain ⟨z, H', I', rz, k, ez, hk, q⟩ := I.after hq
      subst ez
      obtain ⟨t, rfl⟩ := (show ∃ t, w = Value.int k t from rz)
      have h1 : ((k : Nat) : Int) < 2 ^ 63 := by
        rw [sizeLine_eq] at hk
        omega
      exact ⟨⟨by omega, h1⟩, .int k, H', I'.tok _, ⟨_, rfl⟩, q⟩
    | next => exact False.elim hq
    | brk => exact False.elim hq
    | cont => exact False.elim hq
end L2
namespace L2
open PySem PySem.Spec PyProof.Rows
/-- a class by its name, made with keywords -/
def KcalN (P : Program) (w : World) (K : PySem.W.Frag) (mg : Str → Option Value) (base : Heap) (CX : CXT) (k : Nat) (x : Str) (C : Addr) (ps : List Str) (n : Nat) (ks : List Str) (sp : Sp) : Prop :=
  ∃ (f : Addr) (fd : FuncData) (g : List Value → List Value → List Value), Mk K C f ∧ mg x = some (.ref C) ∧ KBn K fd ps (n + 1) ks g (fun vs zs => vs ++ zs) ∧ FnOk P w K mg base CX k f fd ps sp
theorem pe_kcalN {X : Cx} {CX : CXT} {k n : Nat} {x : Str} {C : Addr} {ps ks : List Str} {sp : Sp} {E : XK} {p pos : Pos} {e : Expr} {es : List Expr} {kws : List Keyword} {t tk : TA} (c : KcalN X.prog X.w X.K X.mg X.base CX k x C ps n ks sp) (hr : Room (k + 1) X.A) (hg : Gl X x) (hx : Passes CX X E) (ha : PA X (e :: es) t) (hkw : PK X kws tk)
    (hall : (backToKw pos (keywordEach kws X.env)).all (·.1.isSome) = true := by rfl) (hks : (backToKw pos (keywordEach kws X.env)).filterMap (·.1) = ks := by rfl) (hdb : (x == ("__debug__" : Str)) = false := by decide)
    (he : starEach (e :: es) X.env = (false, eval e X.env) :: starEach es X.env := by rfl) (hpl : ((backTo pos (starEach (e :: es) X.env)).any (·.1) || (backToKw pos (keywordEach kws X.env)).any (·.1.isNone)) = false := by rfl) :
    PE X (.Call (.Name x p) (e :: es) kws pos) (tMakeK C n ks.length sp (fun vs zs => vs ++ zs) E t tk) := by
  obtain ⟨f, fd, g, h1, h2, h3, h4⟩ := c
  exact pe_makeK h1 h4 hr hg h2 h3 hx ha hkw hall hks hdb he hpl
/-- what a callee may let out is taken, whatever the names hold -/
theorem passes_len {X : Cx} {W : WX} {E : XK} (tk : Takes X W) (hW : ∀ cls d σ H, σ.length = X.N.length → E cls d H → W cls d σ H) : Passes (L2.CX X.prog X.w) X E :=
  fun _ σ _ _ e s' I c => tk e s' (XE.of_call I (fun cls d H' h => hW cls d σ H' I.len h) c)
theorem FnOk.or {P : Program} {w : World} {K : PySem.W.Frag} {mg : Str → Option Value} {base : Heap} {CX : CXT} {k : Nat} {f : Addr} {fd : FuncData} {ps : List Str} {sp sp' : Sp} (F : FnOk P w K mg base CX k f fd ps sp) (F' : FnOk P w K mg base CX k f fd ps sp') : FnOk P w K mg base CX k f fd ps (fun vs H Q E => sp vs H Q E ∨ sp' vs H Q E) :=
  ⟨fun vs H Q E h => h.elim (F.len vs H Q E) (F'.len vs H Q E), fun A outer s H args us vs Q E hr he hb hv hs => hs.elim (F.run A outer s H args us vs Q E hr he hb hv) (F'.run A outer s H args us vs Q E hr he hb hv)⟩
end L2
namespace Op
open PySem L2 PyProof.Rows
theorem ArgV.mono {K : PySem.W.Frag} {H H' : Hp} {v : V} {a : ArgD} (h : ArgV K H v a) (s : Same H H') : ArgV K H' v a := by
  cases a with
  | none => exact h
  | other d => exact ⟨h.1.mono s, h.2⟩
  | dict kvs =>
    obtain ⟨p, vs, e, hp, hk, hn⟩ := h
    exact ⟨p, vs, e, s _ _ hp, hk.mono s.kp, hn⟩
theorem dp_ints {K : PySem.W.Frag} {H : Hp} : ∀ ns : List Int, DpAll K H (ns.map V.int) (ns.map PyData.int)
  | [] => .nil
  | b :: r => .cons (.int b) (dp_ints r)
section
variable {P : Program} {w : World} {K : PySem.W.Frag} {mg : Str → Option Value} {base : Heap} {pS CI CP : Addr}
def spPLen (C : Addr) : Sp := fun vs H Q _ => ∃ (x dx rt : Addr) (fs : List (Str × V)) (kvs : List (List Key × V)), vs = [.ref x] ∧ H x = some (.ins C dx fs) ∧ fs.lookup ("row_table" : Str) = some (.ref rt) ∧ H rt = some (.dT kvs) ∧ Q (.int ((kvs.length : Nat) : Int)) H
theorem sc_Program___len__ : FnScope ["self"] ["self"] (defScope s_Program___len__) := ⟨rfl, rfl, rfl, by decide +kernel, rfl, by decide +kernel, by decide +kernel⟩
theorem ok_plen {f : Addr} {fd : FuncData} (F : Fun K "__len__" "Program.__len__" s_Program___len__ f fd) (T : Txt mg) (pc : PgC K CP) : FnOk P w K mg base CX0 1 f fd ["self"] (spPLen CP) := by
  refine F.ok sc_Program___len__ (fun vs H Q E h => ?_) (fun cdv A outer s H vs Q E hr h => ?_)
  · obtain ⟨x, dx, rt, fs, kvs, rfl, _⟩ := h
    rfl
  · obtain ⟨x, dx, rt, fs, kvs, rfl, hx, hf, ht, k⟩ := h
    refine ⟨_, (pss_one (ps_ret (pe_callB call_len_dT (by rfl) T.b_len (by decide +kernel) (pa_cons (pe_fld (pv 0) rfl) pa_nil)))), ?_⟩
    exact ⟨_, rfl, x, CP, dx, _, _, rfl, hx, pc.cls, pc.n8, hf, rt, kvs, rfl, ht, k⟩
/-- Program's own len -/
def LenC (P : Program) (w : World) (K : PySem.W.Frag) (mg : Str → Option Value) (base : Heap) (C : Addr) : Prop :=
  ∃ (f : Addr) (fd : FuncData), PySem.W.findIn K (.ref C) "__len__" = some (some (.ref f)) ∧ PySem.W.isFn K (.ref f) = true ∧ Binds K fd ["self"] [] ∧ FnOk P w K mg base CX0 1 f fd ["self"] (spPLen C)
def toldF (rows : PyData) : Except (Str × List Int) Chk → PyData
  | .ok _ => .tuple [.str "created", .int ((pathsL 5 (listOf rows) []).length : Nat)]
  | .error (part, path) => .tuple [.str "refused", .str part, .tuple (path.map .int)]
def spFault (K : PySem.W.Frag) : Sp := fun vs H Q _ => ∃ (rv av sv iv : V), vs = [rv, av, sv, iv] ∧
  ((∃ (asks sigs : ArgD) (ins rows : PyData), ArgV K H av asks ∧ ArgV K H sv sigs ∧ argSmall asks ∧ argSmall sigs ∧ Dp K H iv ins ∧ RwV K H rv rows ∧ small ins = true ∧ wt rows ≤ 30000 ∧ ∀ v H', Fr (argF asks av ++ argF sigs sv) H H' → Dp K H' v (toldF rows (progCheck false asks sigs ins rows)) → Q v H') ∨
  (OddA K H av ∧ ∀ v H', Same H H' → Dp K H' v (.tuple [.str "refused", .str "asks", .tuple []]) → Q v H'))
theorem RwV.mono {K : PySem.W.Frag} {H H' : Hp} {v : V} {d : PyData} (h : RwV K H v d) (s : Same H H') : RwV K H' v d := by
  rcases h with h | ⟨h, p, e, hp⟩
  · exact .inl (h.mono s)
  · exact .inr ⟨h, p, e, s _ _ hp⟩
theorem set5 {σ : L2.St} {v : V} (h : σ.length = 6) : (σ.set 5 (some v))[5]? = some (some v) := by
  rw [List.getElem?_set_self (by omega)]
theorem sc__law_fault : FnScope ["_law_rows", "_law_answers", "_law_boxes", "_law_words_here", "_law_program", "e"] ["_law_rows", "_law_answers", "_law_boxes", "_law_words_here"] (defScope s__law_fault) := ⟨rfl, rfl, rfl, by decide +kernel, rfl, by decide +kernel, by decide +kernel⟩
theorem ok_fault {f : Addr} {fd : FuncData} (F : Fun K "_law_fault" "_law_fault" s__law_fault f fd) (T : TxtC P w K mg pS CI) (xf : XfC K CI) (n1 : PySem.W.findIn K (.ref CI) "part" = some none) (n2 : PySem.W.findIn K (.ref CI) "path" = some none) (hex : PySem.W.exmOne K (.ref CI) (.ref CI) = some true) (lc : LenC P w K mg base CP)
    (k_Program : KcalN P w K mg base (L2.CX P w) 13 "Program" CP ["self", "rows", "asks", "signals", "inputs"] 1 ["asks", "signals", "inputs"] (fun vs H Q X => spProg K CP CI vs H Q X ∨ spProgO K CP CI vs H Q X)) :
    FnOk P w K mg base CX0 15 f fd ["_law_rows", "_law_answers", "_law_boxes", "_law_words_here"] (spFault K) := by
  refine F.ok sc__law_fault (fun vs H Q E h => ?_) (fun cdv A outer s H vs Q E hr h => ?_)
  · obtain ⟨rv, av, sv, iv, rfl, _⟩ := h
    rfl
  · obtain ⟨rv, av, sv, iv, rfl, h⟩ := h
    obtain ⟨lf, lfd, ls, li, lb, lok⟩ := lc
    refine ⟨_, (pss_cons (ps_try_as (i := 5) rfl rfl sc__law_fault.nd rfl rfl ⟨rfl, by decide, .inl T.g_InvalidProgram⟩ takes0
        (fun W pn xe tk own => pss_one (ps_set (i := 4) sc__law_fault.nd rfl (.inl rfl) (pe_kcalN k_Program hr rfl (passes_len (E := fun cls d H => ∀ σ : L2.St, σ.length = 6 → W cls d σ H) tk (fun _ _ σ _ hl h => h σ hl)) (pa_cons (pv 0) pa_nil) (pk_cons (pv 1) (pk_cons (pv 2) (pk_cons (pv 3) pk_nil))))))
        (fun a oe cls d pn hz hf => pss_one (ps_ret (pe_tup (pa_cons pe_str (pa_cons (pe_xf xf n1 hz hf (pv 5)) (pa_cons (pe_xf xf n2 hz hf (pv 5)) pa_nil)))))))
      (pss_one (ps_ret (pe_tup (pa_cons pe_str (pa_cons (pe_callB (call_lenI lok ls li lb (hr.mono (by omega)) pass0) (by rfl) T.b_len (by decide +kernel) (pa_cons (pv 4) pa_nil)) pa_nil)))))), ?_⟩
    refine ⟨_, rfl, _, rfl, _, rfl, _, rfl, rfl, rfl, fun x dx hx hdx hne => ?_⟩
    have s2 : Same H (upd (upd H dx (.own x)) x (.ins CP dx [])) := (Same.new hdx).trans (Same.new (by rw [upd_ne hne.symm]; exact hx))
    have x2 : upd (upd H dx (.own x)) x (.ins CP dx []) x = some (.ins CP dx []) := upd_same
    revert s2 x2
    generalize upd (upd H dx (.own x)) x (.ins CP dx []) = H2
    intro s2 x2
    have hxH : ∀ b o, H b = some o → b ≠ x := fun b o hb e => by rw [e, hx] at hb; cases hb
    have told : ∀ (part : Str) (path : List Int) (H3 : Hp) (d : Addr), XProg K H3 d part path → (∀ v H', Same H3 H' → Dp K H' v (.tuple [.str "refused", .str part, .tuple (path.map .int)]) → Q v H') → ∀ a : Addr, ∀ σ : L2.St, σ.length = 6 →
        ∃ tp, H3 d = some (.xd [("path", .ref tp), ("part", .str part)]) ∧ ∀ q, H3 q = none → Q (.ref q) (upd H3 q (.tup [.str "refused", .str part, .ref tp])) := by
      intro part path H3 d hxp kk a σ hl
      obtain ⟨tp, hd3, htp⟩ := hxp
      refine ⟨tp, hd3, fun q hq => ?_⟩
      have s4 := Same.new (o := .tup [.str "refused", .str part, .ref tp]) hq
      exact kk _ _ s4 (.tup (.inl (.inl upd_same)) (.cons (.str _) (.cons (.str _) (.cons (.tup (htp.mono s4) (dp_ints path)) .nil))))
    rcases h with ⟨asks, sigs, ins, rows, ha, hs, sa, ss, hi, hrw, hsi, hwr, k⟩ | ⟨hodd, k⟩
    · refine .inl ⟨x, dx, rv, av, sv, iv, asks, sigs, ins, rows, rfl, x2, ArgV.mono ha s2, ArgV.mono hs s2, sa, ss, hi.mono s2, hrw.mono s2, hsi, hwr, fun ka ks ds c hka hks hins hrows hc H3 A kva kvs ls0 ss0 gs0 bH eA eC _ _ _ _ _ _ _ _ _ _ pg => ?_, fun part path he H3 d fr hxp σ hl => ?_⟩
      · subst hrows
        have hob : H3 x = some (.ins CP A.dx (pgF A)) := by
          have := cut_all _ _ pg.ob
          rw [eA, eC] at this
          exact this
        obtain ⟨tv, ht, htr⟩ := pg.tb.rt
        have ht3 : H3 A.rt = some (.dT tv) := cut_all _ _ ht
        have hlen : tv.length = (pathsL 5 ds []).length := by rw [htr.len]; exact congrArg List.length (addL_len ds)
        have hcap : tv.length ≤ 40000 := by
          have h1 := (addL_cap 5 ds [] ([], []) 0 ⟨Nat.le_refl _, Nat.le_refl _⟩).1
          rw [htr.len]
          have : 1 + wts ds ≤ 30000 := by rw [wt_list] at hwr; exact hwr
          show (addL 5 ds [] ([], [])).1.length ≤ 40000
          omega
        refine ⟨rfl, _, rfl, x, A.dx, _, rfl, hob, x, A.dx, A.rt, _, tv, rfl, hob, rfl, ht3, _, rfl, sz_lit (by omega), sz2 _ _, fun q hq => ?_⟩
        have s4 := Same.new (o := .tup [.str "created", .int ((tv.length : Nat) : Int)]) hq
        refine k _ _ (fun b o hb _ => s4 b o (bH b o (s2 b o hb) (hxH b o hb))) ?_
        have hpc : progCheck false asks sigs ins (.list ds) = .ok c := by
          unfold progCheck
          rw [hka]
          show (match okTab isBox 3 sigs with | none => Except.error ("signals", []) | some ks => if areWords 3 ins = true then checkAll ⟨ka.map (·.1), ks.map (·.1), false⟩ (.list ds) else Except.error ("inputs", []) : Except (Str × List Int) Chk) = _
          rw [hks]
          show (if areWords 3 ins = true then checkAll ⟨ka.map (·.1), ks.map (·.1), false⟩ (.list ds) else Except.error ("inputs", []) : Except (Str × List Int) Chk) = _
          rw [if_pos hins, hc]
        rw [hpc]
        show Dp K _ _ (.tuple [.str "created", .int ((pathsL 5 ds []).length : Nat)])
        rw [← hlen]
        exact .tup (.inl (.inl upd_same)) (.cons (.str _) (.cons (.int _) .nil))
      · obtain ⟨tp, hd3, fin⟩ := told part path H3 d hxp (fun v H' s4 hd => k v H' (fun b o hb hn => s4 b o (fr b o (s2 b o hb) fun m => by
          rcases List.mem_cons.mp m with e | m
          · exact hxH b o hb e
          · exact hn m)) (by rw [he]; exact hd)) d σ hl
        refine ⟨true, hex, fun _ a hfree => ?_, nofun⟩
        exact ⟨.ref a, set5 hl, rfl, rfl, d, _, _, rfl, hd3, rfl, .ref a, set5 hl, rfl, rfl, d, _, _, rfl, hd3, rfl, sz_lit (by show 3 ≤ 100000; decide), fun q hq => fin q hq⟩
    · refine .inr ⟨x, dx, rv, av, sv, iv, rfl, x2, hodd.mono s2, fun H3 d s3 hxp σ hl => ?_⟩
      obtain ⟨tp, hd3, fin⟩ := told "asks" [] H3 d hxp (fun v H' s4 hd => k v H' ((s2.trans s3).trans s4) hd) d σ hl
      refine ⟨true, hex, fun _ a hfree => ?_, nofun⟩
      exact ⟨.ref a, set5 hl, rfl, rfl, d, _, _, rfl, hd3, rfl, .ref a, set5 hl, rfl, rfl, d, _, _, rfl, hd3, rfl, sz_lit (by show 3 ≤ 100000; decide), fun q hq => fin q hq⟩
end
end Op
namespace Op
open PySem L2 PyProof.Rows
/-! ### what is due -/
def partL : List Str := ["asks", "signals", "inputs", "rows", "size", "labels", "slots", "gates"]
def partN (j : Nat) : Str := partL.getD j ""
def dueAt (path : List Int) (j : Nat) : PyData := .tuple [.str "refused", .str (partN j), .tuple (if j = 3 then path.map .int else [])]
def made60 : PyData := .tuple [.str "created", .int 60]
def dueI (path : List Int) : List Int → Nat → PyData
  | [], _ => made60
  | f :: r, j => if f = 1 then dueAt path j else dueI path r (j + 1)
theorem dueI_drop {path : List Int} {fs : List Int} {j : Nat} (h : j < fs.length) : dueI path (fs.drop j) j = if ft fs j = 1 then dueAt path j else dueI path (fs.drop (j + 1)) (j + 1) := by
  have e : fs.drop j = ft fs j :: fs.drop (j + 1) := by
    rw [List.drop_eq_getElem_cons h]
    congr 1
    unfold ft
    rw [List.getD_eq_getElem?_getD, List.getElem?_eq_getElem h]
    rfl
  rw [e]
  rfl
/-- with the fourth fault there is a first one, at most the fourth -/
theorem due_first {fs : List Int} (h8 : fs.length = 8) (h3 : ft fs 3 = 1) : ∃ j, j ≤ 3 ∧ ∀ path, dueI path fs 0 = dueAt path j := by
  match fs, h8 with
  | [f0, f1, f2, f3, f4, f5, f6, f7], _ =>
    have h3 : f3 = 1 := h3
    by_cases e0 : f0 = 1
    · exact ⟨0, by decide, fun path => if_pos e0⟩
    by_cases e1 : f1 = 1
    · exact ⟨1, by decide, fun path => (if_neg e0).trans (if_pos e1)⟩
    by_cases e2 : f2 = 1
    · exact ⟨2, by decide, fun path => (if_neg e0).trans ((if_neg e1).trans (if_pos e2))⟩
    · exact ⟨3, by decide, fun path => (if_neg e0).trans ((if_neg e1).trans ((if_neg e2).trans (if_pos h3)))⟩
theorem part_rows : ∀ j, j ≤ 3 → (partN j = "rows" ↔ j = 3)
  | 0, _ => by decide +kernel
  | 1, _ => by decide +kernel
  | 2, _ => by decide +kernel
  | 3, _ => by decide +kernel
theorem due_path {path path' : List Int} {j : Nat} (h : j ≠ 3) : dueAt path j = dueAt path' j := by
  unfold dueAt
  rw [if_neg h, if_neg h]
theorem fin_told {fs : List Int} (h8 : fs.length = 8) (hf : ∀ i, 0 ≤ ft fs i ∧ ft fs i ≤ 1) {asks sigs : ArgD} {ins rows : PyData} {R : List SR} {path : List Int} (V : RowsV fs R)
    (hA : ft fs 0 = 1 → okTab (areWords 4) 6 asks = none) (hA' : ft fs 0 ≠ 1 → ∃ ka, okTab (areWords 4) 6 asks = some ka) (hS : ft fs 1 = 1 → okTab isBox 3 sigs = none) (hS' : ft fs 1 ≠ 1 → ∃ ks, okTab isBox 3 sigs = some ks)
    (hI : ft fs 2 = 1 → areWords 3 ins = false) (hI' : ft fs 2 ≠ 1 → areWords 3 ins = true) (hR : ft fs 3 = 1 → ∀ E, checkAll E rows = .error ("rows", path)) (hR' : ft fs 3 ≠ 1 → rows = .list (R.map SR.dat)) :
    toldF rows (progCheck false asks sigs ins rows) = dueI path fs 0 := by
  match fs, h8 with
  | [f0, f1, f2, f3, f4, f5, f6, f7], _ =>
    unfold progCheck
    by_cases e0 : f0 = 1
    · rw [hA e0]
      show _ = if f0 = 1 then dueAt path 0 else _
      rw [if_pos e0]
      rfl
    obtain ⟨ka, hka⟩ := hA' e0
    rw [hka]
    show toldF rows (match okTab isBox 3 sigs with | none => Except.error ("signals", []) | some ks => if areWords 3 ins = true then checkAll ⟨ka.map (·.1), ks.map (·.1), false⟩ rows else Except.error ("inputs", []) : Except (Str × List Int) Chk) = if f0 = 1 then dueAt path 0 else dueI path [f1, f2, f3, f4, f5, f6, f7] 1
    rw [if_neg e0]
    by_cases e1 : f1 = 1
    · rw [hS e1]
      show _ = if f1 = 1 then dueAt path 1 else _
      rw [if_pos e1]
      rfl
    obtain ⟨ks, hks⟩ := hS' e1
    rw [hks]
    show toldF rows (if areWords 3 ins = true then checkAll ⟨ka.map (·.1), ks.map (·.1), false⟩ rows else Except.error ("inputs", []) : Except (Str × List Int) Chk) = if f1 = 1 then dueAt path 1 else dueI path [f2, f3, f4, f5, f6, f7] 2
    rw [if_neg e1]
    by_cases e2 : f2 = 1
    · rw [hI e2]
      show _ = if f2 = 1 then dueAt path 2 else _
      rw [if_pos e2]
      rfl
    rw [hI' e2, if_pos rfl]
    show _ = if f2 = 1 then dueAt path 2 else dueI path [f3, f4, f5, f6, f7] 3
    rw [if_neg e2]
    by_cases e3 : f3 = 1
    · rw [hR e3]
      show _ = if f3 = 1 then dueAt path 3 else _
      rw [if_pos e3]
      rfl
    obtain rfl := hR' e3
    obtain ⟨c, hc⟩ := all_check (E := ⟨ka.map (·.1), ks.map (·.1), false⟩) V hf
    rw [hc]
    show _ = if f3 = 1 then dueAt path 3 else dueI path [f4, f5, f6, f7] 4
    rw [if_neg e3]
    show toldF _ (if f4 = 1 then _ else if f5 = 1 then _ else if f6 = 1 then _ else if f7 = 1 then _ else _) = if f4 = 1 then dueAt path 4 else if f5 = 1 then dueAt path 5 else if f6 = 1 then dueAt path 6 else if f7 = 1 then dueAt path 7 else made60
    by_cases e4 : f4 = 1
    · rw [if_pos e4, if_pos e4]
      rfl
    rw [if_neg e4, if_neg e4]
    by_cases e5 : f5 = 1
    · rw [if_pos e5, if_pos e5]
      rfl
    rw [if_neg e5, if_neg e5]
    by_cases e6 : f6 = 1
    · rw [if_pos e6, if_pos e6]
      rfl
    rw [if_neg e6, if_neg e6]
    by_cases e7 : f7 = 1
    · rw [if_pos e7, if_pos e7]
      rfl
    rw [if_neg e7, if_neg e7]
    show PyData.tuple [.str "created", .int ((pathsL 5 (R.map SR.dat) []).length : Nat)] = made60
    have h1 := rows_len R
    have h2 := V.tot
    have h3 : ft [f0, f1, f2, f3, f4, f5, f6, f7] 4 = f4 := rfl
    have h4 := hf 4
    rw [h3] at h2 h4
    have : ((pathsL 5 (R.map SR.dat) []).length : Int) = 60 := by omega
    rw [this]
    rfl
theorem smK_due (path : List Int) (hp : path.length ≤ 100) : ∀ (fs : List Int) (j : Nat), smK 3 (dueI path fs j)
  | [], j => ⟨by decide, fun d hd => by
      rcases List.mem_cons.mp hd with rfl | hd
      · show ("created" : Str).length ≤ 100000; decide +kernel
      · rw [List.mem_singleton.mp hd]; exact trivial⟩
  | f :: r, j => by
    show smK 3 (if f = 1 then dueAt path j else dueI path r (j + 1))
    split
    · refine ⟨by show 3 ≤ 10000; decide, fun d hd => ?_⟩
      rcases List.mem_cons.mp hd with rfl | hd
      · show ("refused" : Str).length ≤ 100000; decide +kernel
      · rcases List.mem_cons.mp hd with rfl | hd
        · show (partN j).length ≤ 100000
          have : ∀ j, j < 8 → (partN j).length ≤ 100 := by decide +kernel
          by_cases hj : j < 8
          · have := this j hj; omega
          · have e : partN j = "" := by
              unfold partN
              rw [List.getD_eq_getElem?_getD, List.getElem?_eq_none (by show 8 ≤ j; omega)]
              rfl
            rw [e]
            decide +kernel
        · rw [List.mem_singleton.mp hd]
          refine ⟨?_, fun d hd => ?_⟩
          · split
            · rw [List.length_map]; omega
            · exact Nat.zero_le _
          · split at hd
            · obtain ⟨n, _, rfl⟩ := List.mem_map.mp hd
              exact trivial
            · exact (List.not_mem_nil hd).elim
    · exact smK_due path hp r (j + 1)
/-! ### wrong inputs -/
def badIns (zs : List Str) : List PyData := [.tuple [], .tuple (zs.map .str ++ [.str "a"]), .tuple [.str (zs.headD ""), .str (zs.headD "")], .list (zs.map .str), .none, .str "go", .tuple [.str ""], .tuple [.int 5]]
theorem badIns_bad {zs : List Str} (hl : zs.length = 3) (hw : ∀ z ∈ zs, isWordS z = true) : ∀ d ∈ badIns zs, areWords 3 d = false ∧ small d = true := by
  match zs, hl with
  | [a, b, c], _ =>
    have ha := word_len (hw a (by simp))
    have hb := word_len (hw b (by simp))
    have hc := word_len (hw c (by simp))
    intro d hd
    unfold badIns at hd
    have s1 : ∀ z : Str, z.length ≤ 8 → small (.str z) = true := fun z h => decide_eq_true (by omega)
    rcases List.mem_cons.mp hd with rfl | hd
    · exact ⟨by decide +kernel, by decide +kernel⟩
    rcases List.mem_cons.mp hd with rfl | hd
    · refine ⟨?_, ?_⟩
      · show (decide (1 ≤ 4 ∧ ((4 : Nat) : Int) ≤ 3) && ([PyData.str a, .str b, .str c, .str "a"].all isWord && decide ([a, b, c, "a"].Nodup))) = false
        rw [show decide (1 ≤ 4 ∧ ((4 : Nat) : Int) ≤ 3) = false by decide, Bool.false_and]
      · show (decide (4 ≤ 100000) && (small (.str a) && (small (.str b) && (small (.str c) && (small (.str "a") && true))))) = true
        rw [s1 a ha, s1 b hb, s1 c hc]
        decide +kernel
    rcases List.mem_cons.mp hd with rfl | hd
    · refine ⟨?_, ?_⟩
      · show (decide (1 ≤ 2 ∧ ((2 : Nat) : Int) ≤ 3) && ([PyData.str a, .str a].all isWord && decide ([a, a].Nodup))) = false
        rw [show decide ([a, a].Nodup) = false from decide_eq_false (by simp), Bool.and_false, Bool.and_false]
      · show (decide (2 ≤ 100000) && (small (.str a) && (small (.str a) && true))) = true
        rw [s1 a ha]
        decide
    rcases List.mem_cons.mp hd with rfl | hd
    · refine ⟨rfl, ?_⟩
      show (decide (3 ≤ 100000) && (small (.str a) && (small (.str b) && (small (.str c) && true)))) = true
      rw [s1 a ha, s1 b hb, s1 c hc]
      decide
    rcases List.mem_cons.mp hd with rfl | hd
    · exact ⟨rfl, rfl⟩
    rcases List.mem_cons.mp hd with rfl | hd
    · exact ⟨rfl, by decide +kernel⟩
    rcases List.mem_cons.mp hd with rfl | hd
    · exact ⟨by decide +kernel, by decide +kernel⟩
    rw [List.mem_singleton.mp hd]
    exact ⟨by decide +kernel, by decide +kernel⟩
theorem words_ok {m : Int} {zs : List Str} (h1 : 1 ≤ zs.length) (h2 : (zs.length : Int) ≤ m) (h3 : zs.Nodup) (h4 : ∀ z ∈ zs, isWordS z = true) : areWords m (.tuple (zs.map .str)) = true := by
  show (decide (1 ≤ (zs.map PyData.str).length ∧ ((zs.map PyData.str).length : Int) ≤ m) && ((zs.map PyData.str).all isWord && decide (((zs.map PyData.str).map strOf).Nodup))) = true
  rw [map_strOf, List.length_map, decide_eq_true ⟨h1, h2⟩, decide_eq_true h3]
  have : ((zs.map PyData.str).all isWord) = true := List.all_eq_true.mpr fun d hd => by
    obtain ⟨z, hz, rfl⟩ := List.mem_map.mp hd
    exact h4 z hz
  rw [this]
  rfl
theorem dp_strs {K : PySem.W.Frag} {H : Hp} : ∀ zs : List Str, DpAll K H (zs.map V.str) (zs.map PyData.str)
  | [] => .nil
  | z :: r => .cons (.str z) (dp_strs r)
theorem wts_strs : ∀ {zs : List Str}, (∀ z ∈ zs, isWordS z = true) → wts (zs.map PyData.str) ≤ 9 * zs.length
  | [], _ => by rw [List.map_nil, wts_nil]; exact Nat.zero_le _
  | z :: r, h => by
    have h1 := wts_strs (zs := r) fun x hx => h x (List.mem_cons_of_mem _ hx)
    have h2 := word_len (h z List.mem_cons_self)
    rw [List.map_cons, wts_cons, wt_str, List.length_cons]
    omega
end Op
set_option pp.maxSteps 400
namespace Op
open PySem L2 PyProof.Rows
theorem TbV.keep {K : PySem.W.Frag} {H H' : Hp} {d : Addr} {ws : List (Key × V)} {kvs : List (Str × PyData)} {ok : PyData → Bool} {n : Nat} (h : TbV K H d ws kvs ok n) (hd : H' d = some (.dK ws)) (kp : Kp H H') : TbV K H' d ws kvs ok n := ⟨hd, h.kv.mono kp, h.nd, h.len, h.all⟩
theorem But2.kp {H H' : Hp} {p d : Addr} {us vs : List (Key × V)} (h : But2 p d H H') (hp : H p = some (.dK us)) (hd : H d = some (.dK vs)) : Kp H H' := fun b o hb ho => h b o hb (fun e => by rw [e, hp] at hb; cases hb; cases ho) fun e => by rw [e, hd] at hb; cases hb; cases ho
theorem ArgV.keep {K : PySem.W.Frag} {H H' : Hp} {v : V} {a : ArgD} {d : Addr} (h : ArgV K H v a) (hv : v = .ref d ∨ ∃ dd, a = .other dd) (kd : ∀ o, H d = some o → H' d = some o) (kp : Kp H H') : ArgV K H' v a := by
  cases a with
  | none => exact h
  | other d => exact ⟨h.1.kp kp, h.2⟩
  | dict kvs =>
    obtain ⟨p, vs, e, hp, hk, hn⟩ := h
    rcases hv with hv | ⟨dd, hv⟩
    · rw [hv] at e
      cases e
      exact ⟨d, vs, hv, kd _ hp, hk.mono kp, hn⟩
    · cases hv
theorem OddA.keep {K : PySem.W.Frag} {H H' : Hp} {d : Addr} (h : OddA K H (.ref d)) (kd : ∀ o, H d = some o → H' d = some o) (kp : Kp H H') : OddA K H' (.ref d) := by
  obtain ⟨p, od, ws, kvs, y, u, dy, h1, h2, h3, h4, h5, h6, h7⟩ := h
  cases h1
  exact ⟨d, od, ws, kvs, y, u, dy, rfl, kd _ h2, h3, h4.mono kp, h5, h6.kp kp, h7⟩
def menuB : List PyData := [.none, .tuple [.str "leave"], .tuple [.str "drop", .str ""], .list [.str "drop", .str "a"]]
theorem menuB_bad : ∀ d ∈ menuB, BadR d ∧ wt d ≤ 100 := by
  intro d hd
  unfold menuB at hd
  rcases List.mem_cons.mp hd with rfl | hd
  · exact ⟨bad_none, by decide +kernel⟩
  rcases List.mem_cons.mp hd with rfl | hd
  · exact ⟨bad_leave, by decide +kernel⟩
  rcases List.mem_cons.mp hd with rfl | hd
  · exact ⟨bad_drop, by decide +kernel⟩
  rw [List.mem_singleton.mp hd]
  exact ⟨bad_list _, by decide +kernel⟩
theorem wts_ins (ds : List PyData) (d : PyData) (n : Nat) : wts (ds.take n ++ [d] ++ ds.drop n) = wts ds + wt d := by
  have h : wts ds = wts (ds.take n) + wts (ds.drop n) := by rw [← wts_append, List.take_append_drop]
  rw [wts_append, wts_append, h, wts_cons, wts_nil]
  omega
section
variable {K : PySem.W.Frag} {H : Hp} {L : Addr} {xs : List V} {o : HO}
theorem dp_updL {v : V} {d : PyData} (h : Dp K H v d) (hn : noL d = true) (hL : H L = some (.lst xs)) : Dp K (upd H L o) v d := by
  have := noL_cut (S := (· = L)) (fun b hb => by rw [hb]; exact ⟨xs, hL⟩) h hn
  rw [← cut_upd (S := (· = L)) (o := o) rfl] at this
  exact this.mono cut_all
theorem kv_updL {ws : List (Key × V)} {kvs : List (Str × PyData)} (h : KvsR K H ws kvs) (hn : ∀ q ∈ kvs, noL q.2 = true) (hL : H L = some (.lst xs)) : KvsR K (upd H L o) ws kvs := by
  have := KvsR.cutN (S := (· = L)) (fun b hb => by rw [hb]; exact ⟨xs, hL⟩) h hn
  rw [← cut_upd (S := (· = L)) (o := o) rfl] at this
  exact this.mono (Same.kp cut_all)
theorem TbV.updL {d : Addr} {ws : List (Key × V)} {kvs : List (Str × PyData)} {ok : PyData → Bool} {n : Nat} (h : TbV K H d ws kvs ok n) (hn : ∀ q ∈ kvs, noL q.2 = true) (hL : H L = some (.lst xs)) : TbV K (upd H L o) d ws kvs ok n :=
  ⟨by rw [L2.upd_ne (fun e => by have := h.at'; rw [e, hL] at this; cases this)]; exact h.at', kv_updL h.kv hn hL, h.nd, h.len, h.all⟩
end
theorem noL_ints : ∀ ns : List Int, noLs (ns.map PyData.int) = true := fun ns => noLs_mem.mpr fun z hz => by
  obtain ⟨n, _, rfl⟩ := List.mem_map.mp hz
  unfold noL
  rfl
theorem noL_due (path : List Int) : ∀ (fs : List Int) (j : Nat), noL (dueI path fs j) = true
  | [], j => by
    show noL (.tuple [.str "created", .int 60]) = true
    decide +kernel
  | f :: r, j => by
    show noL (if f = 1 then dueAt path j else dueI path r (j + 1)) = true
    split
    · unfold dueAt noL
      refine noLs_mem.mpr fun z hz => ?_
      rcases List.mem_cons.mp hz with rfl | hz
      · unfold noL; rfl
      rcases List.mem_cons.mp hz with rfl | hz
      · unfold noL; rfl
      rw [List.mem_singleton.mp hz]
      unfold noL
      split
      · exact noL_ints path
      · unfold noLs; rfl
    · exact noL_due path r (j + 1)
/-- what is passed as the rows, apart from the bag and the two tables -/
def RwN (K : PySem.W.Frag) (p A B : Addr) (H : Hp) (v : V) (d : PyData) : Prop := Dp K H v d ∨ d = .dict [] ∧ ∃ q, v = .ref q ∧ H q = some (.dK []) ∧ q ≠ p ∧ q ≠ A ∧ q ≠ B
theorem RwN.rw {K : PySem.W.Frag} {p A B : Addr} {H : Hp} {v : V} {d : PyData} (h : RwN K p A B H v d) : RwV K H v d := by
  rcases h with h | ⟨h1, q, h2, h3, _⟩
  · exact .inl h
  · exact .inr ⟨h1, q, h2, h3⟩
theorem RwN.keep {K : PySem.W.Frag} {p A B d' : Addr} {H H' : Hp} {v : V} {d : PyData} (h : RwN K p A B H v d) (b : But2 p d' H H') (kp : Kp H H') (hd : d' = A ∨ d' = B) : RwN K p A B H' v d := by
  rcases h with h | ⟨h1, q, h2, h3, h4, h5, h6⟩
  · exact .inl (h.kp kp)
  · refine .inr ⟨h1, q, h2, b _ _ h3 h4 ?_, h4, h5, h6⟩
    rcases hd with e | e
    · rw [e]; exact h5
    · rw [e]; exact h6
theorem argF_dict {K : PySem.W.Frag} {H : Hp} {v : V} {a : ArgD} {b : Addr} (h : ArgV K H v a) (m : b ∈ argF a v) : ∃ ws, H b = some (.dK ws) := by
  cases a with
  | none => exact (List.not_mem_nil m).elim
  | other d => exact (List.not_mem_nil m).elim
  | dict kvs =>
    obtain ⟨p, vs, rfl, hp, _⟩ := h
    rw [List.mem_singleton.mp (show b ∈ [p] from m)]
    exact ⟨vs, hp⟩
/-- the asks that are passed -/
def AskS (K : PySem.W.Frag) (fs : List Int) (A : Addr) (H : Hp) (av : V) : Prop :=
  (∃ a', ArgV K H av a' ∧ (av = .ref A ∨ ∃ dd, a' = .other dd) ∧ argSmall a' ∧ (ft fs 0 = 1 → okTab (areWords 4) 6 a' = none) ∧ (ft fs 0 ≠ 1 → ∃ ka, okTab (areWords 4) 6 a' = some ka)) ∨ (ft fs 0 = 1 ∧ av = .ref A ∧ OddA K H (.ref A))
def SigS (K : PySem.W.Frag) (fs : List Int) (B : Addr) (H : Hp) (sv : V) : Prop :=
  ∃ a', ArgV K H sv a' ∧ (sv = .ref B ∨ ∃ dd, a' = .other dd) ∧ argSmall a' ∧ (ft fs 1 = 1 → okTab isBox 3 a' = none) ∧ (ft fs 1 ≠ 1 → ∃ ka, okTab isBox 3 a' = some ka)
theorem AskS.keep {K : PySem.W.Frag} {fs : List Int} {A : Addr} {H H' : Hp} {av : V} (h : AskS K fs A H av) (kd : ∀ o, H A = some o → H' A = some o) (kp : Kp H H') : AskS K fs A H' av := by
  rcases h with ⟨a', h1, h2, h3⟩ | ⟨h1, h2, h3⟩
  · exact .inl ⟨a', ArgV.keep h1 h2 kd kp, h2, h3⟩
  · exact .inr ⟨h1, h2, h3.keep kd kp⟩
theorem SigS.keep {K : PySem.W.Frag} {fs : List Int} {B : Addr} {H H' : Hp} {sv : V} (h : SigS K fs B H sv) (kd : ∀ o, H B = some o → H' B = some o) (kp : Kp H H') : SigS K fs B H' sv := by
  obtain ⟨a', h1, h2, h3⟩ := h
  exact ⟨a', ArgV.keep h1 h2 kd kp, h2, h3⟩
def spLaw (K : PySem.W.Frag) : Sp := fun vs H Q _ => ∃ (a : Addr) (ns : List Int), vs = [.ref a] ∧ SqL K H a (ns.map V.int) ∧ ns.length ≤ 63 ∧ ∀ H', Q (.bl true) H'
/-- a table under way: the first i names have their entries -/
structure TbI (K : PySem.W.Frag) (H : Hp) (d : Addr) (ws : List (Key × V)) (kvs : List (Str × PyData)) (ok : PyData → Bool) (zs : List Str) (i : Nat) : Prop where
  at' : H d = some (.dK ws)
  kv : KvsR K H ws kvs
  ks : kvs.map (·.1) = zs.take i
  all : ∀ q ∈ kvs, ok q.2 = true ∧ wt q.2 ≤ 1000
theorem TbI.next {K : PySem.W.Frag} {H H' : Hp} {d : Addr} {ws : List (Key × V)} {kvs : List (Str × PyData)} {ok : PyData → Bool} {zs : List Str} {i : Nat} {z : Str} {v : V} {dd : PyData} (h : TbI K H d ws kvs ok zs i) (hn : zs.Nodup) (hz : zs[i]? = some z) (hd : H' d = some (.dK ws)) (kp : Kp H H') (hv : Dp K H' v dd) (hok : ok dd = true) (hw : wt dd ≤ 1000) :
    TbI K (upd H' d (.dK (putK ws (.inr z) v))) d (putK ws (.inr z) v) (putP kvs z dd) ok zs (i + 1) := by
  have kp2 : Kp H' (upd H' d (.dK (putK ws (.inr z) v))) := fun b o hb ho => by
    rw [L2.upd_ne (fun e => by rw [e, hd] at hb; cases hb; cases ho)]
    exact hb
  have hni : z ∉ kvs.map (·.1) := by rw [h.ks]; exact nodup_take hn hz
  refine ⟨upd_same, ((h.kv.mono kp).mono kp2).put (hv.kp kp2), ?_, putP_all (R := fun q => ok q.2 = true ∧ wt q.2 ≤ 1000) h.all ⟨hok, hw⟩⟩
  rw [putP_new hni, List.map_append, h.ks, TS.take_one hz]
  rfl
section
variable {P : Program} {w : World} {K : PySem.W.Frag} {mg : Str → Option Value} {base : Heap}
theorem sc_law : FnScope ["_law_script", "_law_bag_here", "_law_share", "_law_k", "_law_faults", "_law_answers", "_law_name", "_law_boxes", "_law_words_here", "_law_rows", "_law_parts", "_law_due", "_law_place"] ["_law_script"] (defScope s_law) := ⟨rfl, rfl, rfl, by decide +kernel, rfl, by decide +kernel, by decide +kernel⟩
theorem ok_law {f : Addr} {fd : FuncData} (F : Fun K "law" "law" s_law f fd) (T : Txt mg) (c__law_bag : Cal P w K mg base CX0 1 "_law_bag" ["_law_script"] (spBag K)) (c__law_draw : Cal P w K mg base CX0 1 "_law_draw" ["_law_bag_here", "_law_many"] spD) (c__law_words : Cal P w K mg base CX0 2 "_law_words" ["_law_bag_here", "_law_many", "_law_most", "_law_taken"] (spWords K))
    (c__law_all_rows : Cal P w K mg base CX0 3 "_law_all_rows" ["_law_bag_here", "_law_faults"] (spAll K)) (c__law_wrong_asks : Cal P w K mg base CX0 3 "_law_wrong_asks" ["_law_bag_here", "_law_answers"] (spWA K)) (c__law_wrong_signals : Cal P w K mg base CX0 3 "_law_wrong_signals" ["_law_bag_here", "_law_boxes"] (spWS K))
    (c__law_fault : Cal P w K mg base CX0 15 "_law_fault" ["_law_rows", "_law_answers", "_law_boxes", "_law_words_here"] (spFault K)) (c__law_same : Cal P w K mg base CX0 4 "_law_same" ["_law_told", "_law_due"] (spSame K 3)) : FnOk P w K mg base CX0 16 f fd ["_law_script"] (spLaw K) := by
  refine F.ok sc_law (fun vs H Q E h => ?_) (fun cdv A0 outer s H vs Q E hr h => ?_)
  · obtain ⟨a, ns, rfl, _⟩ := h
    rfl
  · obtain ⟨a, ns, rfl, hS, hlen, k⟩ := h
    have hu := hu_of hr
    refine ⟨_, (pss_cons (ps_set (i := 1) sc_law.nd rfl (.inr rfl) (pe_cal c__law_bag (hr.mono (by omega)) rfl pass0 (pa_cons (pv 0) pa_nil)))
      (pss_cons (ps_set (i := 2) sc_law.nd rfl (.inr rfl) (pe_op op_add pe_int (pe_cal c__law_draw (hr.mono (by omega)) rfl pass0 (pa_cons (pv 1) (pa_cons pe_int pa_nil)))))
      (pss_cons (ps_setLc (i := 4) (own := [("_law_k", 3)]) (g := gName 3) (tt := tYes) rfl sc_law.nd rfl rfl (sw_true rfl rfl rfl (by decide +kernel)) (pi_range1 (by rfl) T.b_range (pa_cons pe_int pa_nil)) (blkOk_by (own := [("_law_k", 3)]) (N := ["_law_script", "_law_bag_here", "_law_share", "_law_k", "_law_faults", "_law_answers", "_law_name", "_law_boxes", "_law_words_here", "_law_rows", "_law_parts", "_law_due", "_law_place"]) (sc := defScope s_law) (by decide +kernel)) (fun _ _ _ _ _ => (pg_name (i := 3) sc_law.nd rfl (.inl rfl))) (fun _ _ _ _ _ => pts_nil) (fun _ _ _ _ _ => (pe_callTy call_int1 (by rfl) T.b_int (by decide +kernel) (pa_cons (pe_cmpR op_eq (pe_cal c__law_draw (hr.mono (by omega)) rfl pass0 (pa_cons (pv 1) (pa_cons (pv 2) pa_nil))) pe_int (nomark _)) pa_nil))))
      (pss_cons (ps_set (i := 5) sc_law.nd rfl (.inl rfl) pe_dnewK)
      (pss_cons (ps_for PassesOwn.never rfl (pi_list (pe_cal c__law_words (hr.mono (by omega)) rfl pass0 (pa_cons (pv 1) (pa_cons pe_int (pa_cons pe_int (pa_cons (pe_lst pa_nil) pa_nil)))))) (pg_name (i := 6) sc_law.nd rfl (.inl rfl)) (pss_one (ps_dput hu (pv 5) (pv 6) (pe_callTy call_tuple_of (by rfl) T.b_tuple (by decide +kernel) (pa_cons (pe_cal c__law_words (hr.mono (by omega)) rfl pass0 (pa_cons (pv 1) (pa_cons pe_int (pa_cons pe_int (pa_cons (pe_lst pa_nil) pa_nil))))) pa_nil)) rfl)))
      (pss_cons (ps_set (i := 7) sc_law.nd rfl (.inl rfl) pe_dnewK)
      (pss_cons (ps_for PassesOwn.never rfl (pi_list (pe_cal c__law_words (hr.mono (by omega)) rfl pass0 (pa_cons (pv 1) (pa_cons pe_int (pa_cons pe_int (pa_cons (pe_lst pa_nil) pa_nil)))))) (pg_name (i := 6) sc_law.nd rfl (.inl rfl)) (pss_one (ps_dput hu (pv 7) (pv 6) (pe_tup (pa_cons pe_int (pa_cons (pe_callTy call_tuple_of (by rfl) T.b_tuple (by decide +kernel) (pa_cons (pe_cal c__law_words (hr.mono (by omega)) rfl pass0 (pa_cons (pv 1) (pa_cons pe_int (pa_cons pe_int (pa_cons (pe_lst pa_nil) pa_nil))))) pa_nil)) pa_nil))) rfl)))
      (pss_cons (ps_set (i := 8) sc_law.nd rfl (.inl rfl) (pe_callTy call_tuple_of (by rfl) T.b_tuple (by decide +kernel) (pa_cons (pe_cal c__law_words (hr.mono (by omega)) rfl pass0 (pa_cons (pv 1) (pa_cons pe_int (pa_cons pe_int (pa_cons (pe_lst pa_nil) pa_nil))))) pa_nil)))
      (pss_cons (ps_set (i := 9) sc_law.nd rfl (.inl rfl) (pe_cal c__law_all_rows (hr.mono (by omega)) rfl pass0 (pa_cons (pv 1) (pa_cons (pv 4) pa_nil))))
      (pss_cons (ps_set (i := 10) sc_law.nd rfl (.inl rfl) (pe_lst (pa_cons pe_str (pa_cons pe_str (pa_cons pe_str (pa_cons pe_str (pa_cons pe_str (pa_cons pe_str (pa_cons pe_str (pa_cons pe_str pa_nil))))))))))
      (pss_cons (ps_set (i := 11) sc_law.nd rfl (.inl rfl) (pe_tup (pa_cons pe_str (pa_cons pe_int pa_nil))))
      (pss_cons (ps_set (i := 12) sc_law.nd rfl (.inl rfl) (pe_cal c__law_draw (hr.mono (by omega)) rfl pass0 (pa_cons (pv 1) (pa_cons (pe_op op_add (pe_callB call_len_seq (by rfl) T.b_len (by decide +kernel) (pa_cons (pv 9) pa_nil)) pe_int) pa_nil))))
      (pss_cons (ps_for PassesOwn.never rfl (pi_range1 (by rfl) T.b_range (pa_cons pe_int pa_nil)) (pg_name (i := 3) sc_law.nd rfl (.inl rfl)) (pss_one (ps_if (pt_cmpR op_eq (pe_ix ix_list (pv 4) (pe_op op_sub pe_int (pv 3)) (fun _ _ => rfl)) pe_int (nomark _)) (pss_cons (ps_set (i := 11) sc_law.nd rfl (.inl rfl) (pe_tup (pa_cons pe_str (pa_cons (pe_ix ix_list (pv 10) (pe_op op_sub pe_int (pv 3)) (fun _ _ => rfl)) (pa_cons (pe_tup pa_nil) pa_nil)))))
      (pss_one (ps_if (pt_cmpR op_eq (pv 3) pe_int (nomark _)) (pss_one (ps_set (i := 11) sc_law.nd rfl (.inl rfl) (pe_tup (pa_cons pe_str (pa_cons pe_str (pa_cons (pe_tup (pa_cons (pv 12) pa_nil)) pa_nil)))))) pss_nil))) pss_nil)))
      (Evl.pss_cut (ps_if (pt_cmpR op_eq (pe_ix ix_list (pv 4) pe_int (fun _ _ => rfl)) pe_int (nomark _)) (pss_cons (ps_expr (pe_bm PySem.F.plainAttrs_list PySem.F.slot_list_insert PySem.F.type_list_insert mt_insert (pv 9) (pa_cons (pv 12) (pa_cons (pe_ix ix_list (pe_lst (pa_cons pe_non (pa_cons (pe_tup (pa_cons pe_str pa_nil)) (pa_cons (pe_tup (pa_cons pe_str (pa_cons pe_str pa_nil))) (pa_cons (pe_lst (pa_cons pe_str (pa_cons pe_str pa_nil))) pa_nil))))) (pe_cal c__law_draw (hr.mono (by omega)) rfl pass0 (pa_cons (pv 1) (pa_cons pe_int pa_nil))) (fun _ _ => rfl)) pa_nil))))
      (pss_one (ps_if (pt_cmpR op_eq (pe_cal c__law_draw (hr.mono (by omega)) rfl pass0 (pa_cons (pv 1) (pa_cons pe_int pa_nil))) pe_int (nomark _)) (pss_cons (ps_set (i := 9) sc_law.nd rfl (.inl rfl) (pe_ix ix_list (pe_lst (pa_cons (pe_callTy call_tuple_of (by rfl) T.b_tuple (by decide +kernel) (pa_cons (pv 9) pa_nil)) (pa_cons pe_non (pa_cons pe_str (pa_cons pe_dnewK (pa_cons pe_int pa_nil)))))) (pe_cal c__law_draw (hr.mono (by omega)) rfl pass0 (pa_cons (pv 1) (pa_cons pe_int pa_nil))) (fun _ _ => rfl)))
      (pss_one (ps_if (pt_cmpR op_eq (pe_ix ix_tup (pv 11) pe_int (fun _ _ => rfl)) pe_str (nomark _)) (pss_one (ps_set (i := 11) sc_law.nd rfl (.inl rfl) (pe_tup (pa_cons pe_str (pa_cons pe_str (pa_cons (pe_tup pa_nil) pa_nil)))))) pss_nil))) pss_nil))) pss_nil)
      (Evl.pss_cut (ps_if (pt_cmpR op_eq (pe_ix ix_list (pv 4) pe_int (fun _ _ => rfl)) pe_int (nomark _)) (pss_one (ps_set (i := 5) sc_law.nd rfl (.inl rfl) (pe_cal c__law_wrong_asks (hr.mono (by omega)) rfl pass0 (pa_cons (pv 1) (pa_cons (pv 5) pa_nil))))) pss_nil)
      (Evl.pss_cut (ps_if (pt_cmpR op_eq (pe_ix ix_list (pv 4) pe_int (fun _ _ => rfl)) pe_int (nomark _)) (pss_one (ps_set (i := 7) sc_law.nd rfl (.inl rfl) (pe_cal c__law_wrong_signals (hr.mono (by omega)) rfl pass0 (pa_cons (pv 1) (pa_cons (pv 7) pa_nil))))) pss_nil)
      (Evl.pss_cut (ps_if (pt_cmpR op_eq (pe_ix ix_list (pv 4) pe_int (fun _ _ => rfl)) pe_int (nomark _)) (pss_one (ps_set (i := 8) sc_law.nd rfl (.inl rfl) (pe_ix ix_list (pe_lst (pa_cons (pe_tup pa_nil) (pa_cons (pe_op op_catA (pv 8) (pe_tup (pa_cons pe_str pa_nil))) (pa_cons (pe_tup (pa_cons (pe_ix ix_tup (pv 8) pe_int (fun _ _ => rfl)) (pa_cons (pe_ix ix_tup (pv 8) pe_int (fun _ _ => rfl)) pa_nil))) (pa_cons (pe_callTy call_list_of (by rfl) T.b_list (by decide +kernel) (pa_cons (pv 8) pa_nil)) (pa_cons pe_non (pa_cons pe_str (pa_cons (pe_tup (pa_cons pe_str pa_nil)) (pa_cons (pe_tup (pa_cons pe_int pa_nil)) pa_nil))))))))) (pe_cal c__law_draw (hr.mono (by omega)) rfl pass0 (pa_cons (pv 1) (pa_cons pe_int pa_nil))) (fun _ _ => rfl)))) pss_nil)
      (pss_one (ps_ret (pe_cal c__law_same (hr.mono (by omega)) rfl pass0 (pa_cons (pe_cal c__law_fault (hr.mono (by omega)) rfl pass0 (pa_cons (pv 9) (pa_cons (pv 5) (pa_cons (pv 7) (pa_cons (pv 8) pa_nil))))) (pa_cons (pv 11) pa_nil)))))))))))))))))))))), ?_⟩
    refine ⟨_, rfl, a, ns, rfl, hS, hlen, fun p c H1 hp0 s1 pl1 => ?_⟩
    refine ⟨_, rfl, p, c, 8, rfl, pl1, by decide, fun r H2 r1 r2 b2 pl2 => ⟨_, _, rfl, rfl, ?_⟩⟩
    obtain ⟨sh, hsh⟩ : ∃ sh : Int, (2 : Int) + r = sh := ⟨_, rfl⟩
    have hsh1 : sh < 100 := by omega
    show tSeq _ _ _ (List.set _ 2 (some (V.int (2 + r)))) H2
    rw [hsh]
    refine ⟨8, rfl, by omega, by omega, fun D hD => ?_⟩
    rw [show (8 : Int).toNat = 8 from rfl]
    refine lc_it (walk_range (lo := 0) (n := 8)) (fun i H' => ∃ fs : List Int, H' D = some (.lst (fs.map V.int)) ∧ fs.length = i ∧ (∀ f ∈ fs, f = 0 ∨ f = 1) ∧ But p H2 H' ∧ Pl H' p c) ⟨[], upd_same, rfl, fun f hf => (List.not_mem_nil hf).elim, Same.but (Same.new hD), pl2.mono (Same.new hD)⟩ (fun _ _ _ _ => trivial) ?_ ?_
    · rintro i x H5 H4 hi ⟨fs, hD4, hfl, hfs, b4, pl4⟩ ⟨rfl, rfl⟩
      refine ⟨rfl, _, rfl, _, rfl, p, c, _, rfl, pl4, by omega, fun r H5 r1 r2 b5 pl5 => ⟨rfl, .inr ⟨_, rfl, ?_⟩⟩⟩
      have hDp : D ≠ p := (pl2.new hD).1
      have hD5 := b5 _ _ hD4 hDp
      refine ⟨_, hD5, lt_sz (by rw [List.length_map]; omega), fs ++ [if decide (V.int r = V.int 1) = true then 1 else 0], ?_, ?_, ?_, ?_, ?_⟩
      · rw [upd_same, List.map_append]
        rfl
      · rw [List.length_append, hfl]
        rfl
      · intro f hf
        rcases List.mem_append.mp hf with hf | hf
        · exact hfs f hf
        · rw [List.mem_singleton.mp hf]
          split
          · exact .inr rfl
          · exact .inl rfl
      · intro b o hb n
        rw [L2.upd_ne (ne_of_none hb hD)]
        exact b5 b o (b4 b o hb n) n
      · exact pl5.put hDp (pl2.new hD).2
    · rintro H4 ⟨fs, hD4, h8, hfs, b4, pl4⟩
      have hf : ∀ i, 0 ≤ ft fs i ∧ ft fs i ≤ 1 := fun i => by
        unfold ft
        rw [List.getD_eq_getElem?_getD]
        cases q : fs[i]? with
        | none => exact ⟨Int.le_refl _, by decide⟩
        | some f =>
          rcases hfs f (List.mem_of_getElem? q) with e | e
          · rw [e]; exact ⟨Int.le_refl _, by decide⟩
          · rw [e]; exact ⟨by decide, Int.le_refl _⟩
      intro A hA
      have nA := pl4.new hA
      have s5 := Same.new (o := .dK []) hA
      have A5 := at_new (o := .dK []) hA
      revert s5 A5
      generalize upd H4 A _ = H5
      intro s5 A5
      have pl5 := pl4.mono s5
      have D5 := s5 _ _ hD4
      refine ⟨_, rfl, sz_lit (by decide), fun e1 he1 => ?_⟩
      have s6 := Same.new (o := .lst []) he1
      have l6 := at_new (o := .lst []) he1
      revert s6 l6
      generalize upd H5 e1 _ = H6
      intro s6 l6
      refine ⟨p, c, e1, 6, 8, [], rfl, pl5.mono s6, .inl (.inl l6), by decide, by decide, by decide, fun l1 zs H7 hl1 b7 pl7 f7 hzl hznd hz => ?_⟩
      have A7 : H7 A = some (.dK []) := b7 _ _ (s6 _ _ A5) nA.1
      have D7 : H7 D = some (.lst (fs.map V.int)) := b7 _ _ (s6 _ _ D5) (pl2.new hD).1
      refine ⟨l1, rfl, ⟨_, .inl (.inl f7)⟩, ?_⟩
      refine for_it (walk_list (xs := zs.map V.str)) (fun i σ H' => (∃ y6 : Option V, σ = [some (.ref a), some (.ref p), some (.int sh), none, some (.ref D), some (.ref A), y6, none, none, none, none, none, none]) ∧ ∃ ws kvs, TbI K H' A ws kvs (areWords 4) zs i ∧ But2 p A H7 H' ∧ Pl H' p c) ⟨⟨_, rfl⟩, [], [], ⟨A7, trivial, rfl, fun q hq => (List.not_mem_nil hq).elim⟩, fun b o hb _ _ => hb, pl7⟩ (fun i σ H' _ q => ?_) ?_ ?_
      · obtain ⟨_, ws, kvs, tb, bb, pl⟩ := q
        exact .inl (.inl (bb _ _ f7 (fun e => by obtain ⟨_, h⟩ := pl7.at; rw [e, h] at f7; cases f7) (fun e => by rw [e, A7] at f7; cases f7)))
      · rintro i x σ H9 H8 hi ⟨⟨y6, rfl⟩, ws, kvs, tb, bb, pl8⟩ ⟨rfl, hx⟩
        have hi' : i < zs.length := by rw [List.length_map] at hi; exact hi
        have hzi : zs[i]? = some zs[i] := List.getElem?_eq_getElem hi'
        obtain rfl : x = .str zs[i] := by
          rw [List.getElem?_map, hzi] at hx
          exact (Option.some.inj hx).symm
        refine ⟨_, rfl, sz_lit (by decide), fun e2 he2 => ?_⟩
        have s9 := Same.new (o := .lst []) he2
        have l9 := at_new (o := .lst []) he2
        revert s9 l9
        generalize upd H8 e2 _ = H9
        intro s9 l9
        have pl9 := pl8.mono s9
        refine ⟨p, c, e2, 4, 8, [], rfl, pl9, .inl (.inl l9), by decide, by decide, by decide, fun l2 us H10 hl2 b10 pl10 f10 hul hund hu => ?_⟩
        refine ⟨l2, _, rfl, .inl ⟨.inl (.inl f10), fun t ht => ?_⟩⟩
        have s11 := Same.new (o := .tup (us.map V.str)) ht
        have l11 := at_new (o := .tup (us.map V.str)) ht
        revert s11 l11
        generalize upd H10 t _ = H11
        intro s11 l11
        have A11 : H11 A = some (.dK ws) := s11 _ _ (b10 _ _ (s9 _ _ tb.at') nA.1)
        have kp11 : Kp H8 H11 := (s9.kp.trans (pl9.kp b10)).trans s11.kp
        have hlw : ws.length ≤ 60 := by
          have := tb.kv.len
          have h2 := congrArg List.length tb.ks
          rw [List.length_map, List.length_take] at h2
          omega
        have hul' : us.length = 4 := hul
        refine ⟨_, rfl, _, rfl, A, _, rfl, DPut.k (k := (.inr zs[i] : Key)) A11 (lt_sz (by omega)), ⟨_, rfl⟩, _, _, tb.next hznd hzi A11 kp11 (dd := .tuple (us.map .str)) (.tup (.inl (.inl l11)) (dp_strs us)) (words_ok (by omega) (by omega) hund fun z hz => (hu z hz).1) ?_, fun b o hb n1 n2 => ?_, (pl10.mono s11).put nA.1 nA.2⟩
        · have := wts_strs (zs := us) fun z hz => (hu z hz).1
          rw [wt_tuple]
          omega
        · rw [L2.upd_ne n2]
          exact s11 _ _ (b10 _ _ (s9 _ _ (bb b o hb n1 n2)) n1)
      · rintro σ H8 ⟨⟨y6, rfl⟩, wsA, kvsA, tbA, bb8, pl8⟩
        rw [List.length_map] at tbA
        have TA : TbV K H8 A wsA kvsA (areWords 4) 6 := by
          have hks := tbA.ks
          rw [List.take_length] at hks
          refine ⟨tbA.at', tbA.kv, by rw [hks]; exact hznd, by have := congrArg List.length hks; rw [List.length_map] at this; rw [this]; exact hzl, fun q hq => ⟨(hz q.1 (by rw [← hks]; exact List.mem_map.mpr ⟨q, hq, rfl⟩)).1, tbA.all q hq⟩⟩
        have D8 : H8 D = some (.lst (fs.map V.int)) := bb8 _ _ D7 (pl2.new hD).1 (fun e => by rw [e, A7] at D7; cases D7)
        clear tbA bb8 hz hznd hzl f7 hl1
        intro B hB
        have nB := pl8.new hB
        have nAB : A ≠ B := fun e => by rw [← e, TA.at'] at hB; cases hB
        have s9 := Same.new (o := .dK []) hB
        have B9 := at_new (o := .dK []) hB
        revert s9 B9
        generalize upd H8 B _ = H9
        intro s9 B9
        have pl9 := pl8.mono s9
        have TA9 := TA.keep (s9 _ _ TA.at') s9.kp
        have D9 := s9 _ _ D8
        refine ⟨_, rfl, sz_lit (by decide), fun e2 he2 => ?_⟩
        have s10 := Same.new (o := .lst []) he2
        have l10 := at_new (o := .lst []) he2
        revert s10 l10
        generalize upd H9 e2 _ = H10
        intro s10 l10
        refine ⟨p, c, e2, 3, 8, [], rfl, pl9.mono s10, .inl (.inl l10), by decide, by decide, by decide, fun l2 zs2 H11 hl2 b11 pl11 f11 hzl2 hznd2 hz2 => ?_⟩
        have B11 : H11 B = some (.dK []) := b11 _ _ (s10 _ _ B9) nB.1
        have D11 : H11 D = some (.lst (fs.map V.int)) := b11 _ _ (s10 _ _ D9) (pl2.new hD).1
        have TA11 := TA9.keep (b11 _ _ (s10 _ _ TA9.at') nA.1) (s10.kp.trans ((pl9.mono s10).kp b11))
        refine ⟨l2, rfl, ⟨_, .inl (.inl f11)⟩, ?_⟩
        refine for_it (walk_list (xs := zs2.map V.str)) (fun i σ H' => (∃ y6 : Option V, σ = [some (.ref a), some (.ref p), some (.int sh), none, some (.ref D), some (.ref A), y6, some (.ref B), none, none, none, none, none]) ∧ ∃ ws kvs, TbI K H' B ws kvs isBox zs2 i ∧ But2 p B H11 H' ∧ Pl H' p c) ⟨⟨_, rfl⟩, [], [], ⟨B11, trivial, rfl, fun q hq => (List.not_mem_nil hq).elim⟩, fun b o hb _ _ => hb, pl11⟩ (fun i σ H' _ q => ?_) ?_ ?_
        · obtain ⟨_, ws, kvs, tb, bb, pl⟩ := q
          exact .inl (.inl (bb _ _ f11 (fun e => by obtain ⟨_, h⟩ := pl11.at; rw [e, h] at f11; cases f11) (fun e => by rw [e, B11] at f11; cases f11)))
        · rintro i x σ H13 H12 hi ⟨⟨y6, rfl⟩, ws, kvs, tb, bb, pl12⟩ ⟨rfl, hx⟩
          have hi' : i < zs2.length := by rw [List.length_map] at hi; exact hi
          have hzi : zs2[i]? = some zs2[i] := List.getElem?_eq_getElem hi'
          obtain rfl : x = .str zs2[i] := by
            rw [List.getElem?_map, hzi] at hx
            exact (Option.some.inj hx).symm
          refine ⟨_, rfl, sz_lit (by decide), fun e3 he3 => ?_⟩
          have s13 := Same.new (o := .lst []) he3
          have l13 := at_new (o := .lst []) he3
          revert s13 l13
          generalize upd H12 e3 _ = H13
          intro s13 l13
          have pl13 := pl12.mono s13
          refine ⟨p, c, e3, 3, 8, [], rfl, pl13, .inl (.inl l13), by decide, by decide, by decide, fun l3 us H14 hl3 b14 pl14 f14 hul hund hu => ?_⟩
          refine ⟨l3, _, rfl, .inl ⟨.inl (.inl f14), fun t ht => ⟨sz2 _ _, fun t2 ht2 => ?_⟩⟩⟩
          have r1 := Same.new (o := .tup (us.map V.str)) ht
          have r2 := Same.new (o := .tup [.int 3, .ref t]) ht2
          have q1 := at_new (o := .tup (us.map V.str)) ht
          have q2 := at_new (o := .tup [.int 3, .ref t]) ht2
          have s15 := r1.trans r2
          have dv : Dp K (upd (upd H14 t (.tup (us.map V.str))) t2 (.tup [.int 3, .ref t])) (.ref t2) (.tuple [.int 3, .tuple (us.map .str)]) := .tup (.inl (.inl q2)) (.cons (.int _) (.cons (.tup (.inl (.inl (r2 _ _ q1))) (dp_strs us)) .nil))
          clear r1 r2 q1 q2
          revert s15 dv
          generalize upd (upd H14 t _) t2 _ = H15
          intro s15 dv
          have B15 : H15 B = some (.dK ws) := s15 _ _ (b14 _ _ (s13 _ _ tb.at') nB.1)
          have kp15 : Kp H12 H15 := (s13.kp.trans (pl13.kp b14)).trans s15.kp
          have hlw : ws.length ≤ 60 := by
            have := tb.kv.len
            have h2 := congrArg List.length tb.ks
            rw [List.length_map, List.length_take] at h2
            omega
          have hul' : us.length = 3 := hul
          refine ⟨_, rfl, _, rfl, B, _, rfl, DPut.k (k := (.inr zs2[i] : Key)) B15 (lt_sz (by omega)), ⟨_, rfl⟩, _, _, tb.next hznd2 hzi B15 kp15 dv ?_ ?_, fun b o hb n1 n2 => ?_, (pl14.mono s15).put nB.1 nB.2⟩
          · show (decide (1 ≤ (3 : Int) ∧ (3 : Int) ≤ 3) && areWords 3 (.tuple (us.map .str))) = true
            rw [words_ok (by omega) (by omega) hund fun z hz => (hu z hz).1]
            decide
          · have := wts_strs (zs := us) fun z hz => (hu z hz).1
            rw [wt_tuple, wts_cons, wts_cons, wts_nil, wt_tuple]
            show 1 + (1 + (1 + wts (us.map PyData.str) + 0)) ≤ 1000
            omega
          · rw [L2.upd_ne n2]
            exact s15 _ _ (b14 _ _ (s13 _ _ (bb b o hb n1 n2)) n1)
        · rintro σ H12 ⟨⟨y6, rfl⟩, wsB, kvsB, tbB, bb12, pl12⟩
          rw [List.length_map] at tbB
          have TB' : TbV K H12 B wsB kvsB isBox 3 := by
            have hks := tbB.ks
            rw [List.take_length] at hks
            refine ⟨tbB.at', tbB.kv, by rw [hks]; exact hznd2, by have := congrArg List.length hks; rw [List.length_map] at this; rw [this]; exact hzl2, fun q hq => ⟨(hz2 q.1 (by rw [← hks]; exact List.mem_map.mpr ⟨q, hq, rfl⟩)).1, tbB.all q hq⟩⟩
          have D12 : H12 D = some (.lst (fs.map V.int)) := bb12 _ _ D11 (pl2.new hD).1 (fun e => by rw [e, B11] at D11; cases D11)
          have kp12 : Kp H11 H12 := by
            obtain ⟨_, hpp⟩ := pl11.at
            exact bb12.kp hpp B11
          have TA12 := TA11.keep (bb12 _ _ TA11.at' nA.1 nAB) kp12
          clear tbB bb12 hz2 hznd2 hzl2 f11 hl2 kp12
          refine ⟨_, rfl, sz_lit (by decide), fun e4 he4 => ?_⟩
          have s13 := Same.new (o := .lst []) he4
          have l13 := at_new (o := .lst []) he4
          revert s13 l13
          generalize upd H12 e4 _ = H13
          intro s13 l13
          have pl13 := pl12.mono s13
          refine ⟨p, c, e4, 3, 8, [], rfl, pl13, .inl (.inl l13), by decide, by decide, by decide, fun l3 ins H14 hl3 b14 pl14 f14 hil hind hiw => ?_⟩
          refine ⟨l3, _, rfl, .inl ⟨.inl (.inl f14), fun W hW => ?_⟩⟩
          have s15 := Same.new (o := .tup (ins.map V.str)) hW
          have W15 := at_new (o := .tup (ins.map V.str)) hW
          revert s15 W15
          generalize upd H14 W _ = H15
          intro s15 W15
          have pl15 := pl14.mono s15
          have kp1215 : Kp H12 H15 := (s13.kp.trans (pl13.kp b14)).trans s15.kp
          have TA15 := TA12.keep (s15 _ _ (b14 _ _ (s13 _ _ TA12.at') nA.1)) kp1215
          have TB15 := TB'.keep (s15 _ _ (b14 _ _ (s13 _ _ TB'.at') nB.1)) kp1215
          have D15 : H15 D = some (.lst (fs.map V.int)) := kp1215 _ _ D12 rfl
          have hil' : ins.length = 3 := hil
          refine ⟨_, rfl, _, rfl, p, c, D, fs, rfl, pl15, .inl (.inl D15), h8, hf, fun L xs R H16 hL b16 pl16 L16 RV dp16 => ?_⟩
          have nL := pl15.new hL
          have kp16 : Kp H15 H16 := pl15.kp b16
          have TA16 := TA15.keep (b16 _ _ TA15.at' nA.1) kp16
          have TB16 := TB15.keep (b16 _ _ TB15.at' nB.1) kp16
          have D16 : H16 D = some (.lst (fs.map V.int)) := kp16 _ _ D15 rfl
          have W16 : H16 W = some (.tup (ins.map V.str)) := kp16 _ _ W15 rfl
          have hxl : xs.length = R.length := by rw [dp16.len, List.length_map]
          have hRl := RV.len
          have nDL : D ≠ L := fun e => by rw [← e, D15] at hL; cases hL
          refine ⟨sz_lit (by decide), fun PT hPT => ?_⟩
          have s17 := Same.new (o := .lst (partL.map V.str)) hPT
          have P17 := at_new (o := .lst (partL.map V.str)) hPT
          have hPL : PT ≠ L := fun e => by rw [e, L16] at hPT; cases hPT
          revert s17 P17
          show Same H16 (upd H16 PT (.lst [.str "asks", .str "signals", .str "inputs", .str "rows", .str "size", .str "labels", .str "slots", .str "gates"])) → upd H16 PT (.lst [.str "asks", .str "signals", .str "inputs", .str "rows", .str "size", .str "labels", .str "slots", .str "gates"]) PT = some (.lst (partL.map V.str)) → _
          generalize upd H16 PT _ = H17
          intro s17 P17
          refine ⟨sz2 _ _, fun DU hDU => ?_⟩
          have s18 := Same.new (o := .tup [.str "created", .int 60]) hDU
          have U18 := at_new (o := .tup [.str "created", .int 60]) hDU
          revert s18 U18
          generalize upd H17 DU _ = H18
          intro s18 U18
          have s1618 := s17.trans s18
          have pl18 := pl16.mono s1618
          have L18 := s1618 _ _ L16
          refine ⟨_, rfl, _, rfl, L, _, rfl, .inl (.inl (.inl L18)), _, _, rfl, rfl, p, c, _, rfl, pl18, by omega, fun pl' H19 r1' r2' b19 pl19 => ?_⟩
          obtain ⟨pc', rfl⟩ := Int.eq_ofNat_of_zero_le r1'
          have hpc : pc' ≤ R.length := by omega
          have kp19 : Kp H18 H19 := pl18.kp b19
          have kp1619 : Kp H16 H19 := s1618.kp.trans kp19
          have TA19 := TA16.keep (b19 _ _ (s1618 _ _ TA16.at') nA.1) kp1619
          have TB19 := TB16.keep (b19 _ _ (s1618 _ _ TB16.at') nB.1) kp1619
          have D19 : H19 D = some (.lst (fs.map V.int)) := kp1619 _ _ D16 rfl
          have W19 : H19 W = some (.tup (ins.map V.str)) := kp1619 _ _ W16 rfl
          have L19 : H19 L = some (.lst xs) := kp1619 _ _ L16 rfl
          have P19 : H19 PT = some (.lst (partL.map V.str)) := kp19 _ _ (s18 _ _ P17) rfl
          have dp19 : DpAll K (cutH (· = L) H19) xs (R.map SR.dat) := DpAll.kp (cut_kpS kp1619) dp16
          have U19 : Dp K H19 (.ref DU) made60 := .tup (.inl (.inl (kp19 _ _ U18 rfl))) (.cons (.str _) (.cons (.int _) .nil))
          refine ⟨8, rfl, by omega, by omega, ?_⟩
          rw [show (8 : Int).toNat = 8 from rfl]
          refine for_it (walk_range (lo := 0) (n := 8)) (fun i σ H' => (∃ (y3 : Option V) (dv : V), σ = [some (.ref a), some (.ref p), some (.int sh), y3, some (.ref D), some (.ref A), y6, some (.ref B), some (.ref W), some (.ref L), some (.ref PT), some dv, some (.int pc')] ∧ Dp K H' dv (dueI [(pc' : Int)] (fs.drop (8 - i)) (8 - i))) ∧ Same H19 H') ⟨⟨_, _, rfl, ?_⟩, Same.refl _⟩ (fun _ _ _ _ _ => trivial) ?_ ?_
          · rw [Nat.sub_zero, List.drop_eq_nil_of_le (by omega)]
            exact U19
          · rintro i x σ H21 H20 hi ⟨⟨y3, dv, rfl, hdv⟩, s20⟩ ⟨rfl, rfl⟩
            have hj : 7 - i < fs.length := by omega
            have e7 : (7 : Int) - (0 + (i : Int)) = ((7 - i : Nat) : Int) := by omega
            have hdr : dueI [(pc' : Int)] (fs.drop (8 - (i + 1))) (8 - (i + 1)) = if ft fs (7 - i) = 1 then dueAt [(pc' : Int)] (7 - i) else dueI [(pc' : Int)] (fs.drop (8 - i)) (8 - i) := by
              have h1 : 8 - (i + 1) = 7 - i := by omega
              have h2 : 8 - i = (7 - i) + 1 := by omega
              rw [h1, h2]
              exact dueI_drop hj
            refine ⟨_, rfl, _, rfl, _, _, rfl, rfl, D, _, ((7 - i : Nat) : Int), _, rfl, congrArg V.int e7, .inl (.inl (s20 _ _ D19)), at_ft hj, rfl, _, rfl, ?_⟩
            by_cases e1 : ft fs (7 - i) = 1
            · refine ifT (decide_eq_true (congrArg V.int e1)) ?_
              have hpt : atI (partL.map V.str) ((7 - i : Nat) : Int) = some (.str (partN (7 - i))) := by
                have h7 : 7 - i < partL.length := by show 7 - i < 8; omega
                refine atI_nat (j := 7 - i) ?_
                unfold partN
                rw [List.getElem?_map, List.getD_eq_getElem?_getD, List.getElem?_eq_getElem h7]
                rfl
              refine ⟨_, rfl, _, rfl, _, _, rfl, rfl, PT, _, ((7 - i : Nat) : Int), _, rfl, congrArg V.int e7, .inl (.inl (s20 _ _ P19)), hpt, sz_lit (by show 0 ≤ 100000; decide), fun e he => ⟨sz_lit (by show 3 ≤ 100000; decide), fun t ht => ?_⟩⟩
              have r1 := Same.new (o := .tup []) he
              have r2 := Same.new (o := .tup [.str "refused", .str (partN (7 - i)), .ref e]) ht
              have q1 := at_new (o := .tup []) he
              have q2 := at_new (o := .tup [.str "refused", .str (partN (7 - i)), .ref e]) ht
              have s21 := r1.trans r2
              have dt : Dp K (upd (upd H20 e (.tup [])) t (.tup [.str "refused", .str (partN (7 - i)), .ref e])) (.ref t) (.tuple [.str "refused", .str (partN (7 - i)), .tuple []]) := .tup (.inl (.inl q2)) (.cons (.str _) (.cons (.str _) (.cons (.tup (.inl (.inl (r2 _ _ q1))) .nil) .nil)))
              clear r1 r2 q1 q2
              revert s21 dt
              generalize upd (upd H20 e _) t _ = H21
              intro s21 dt
              refine ⟨_, rfl, rfl, _, rfl, ?_⟩
              by_cases e4 : i = 4
              · refine ifT (decide_eq_true (congrArg V.int (by omega))) ?_
                refine ⟨_, rfl, sz_lit (by show 1 ≤ 100000; decide), fun e2 he2 => ⟨sz_lit (by show 3 ≤ 100000; decide), fun t2 ht2 => ?_⟩⟩
                have r1 := Same.new (o := .tup [.int (pc' : Int)]) he2
                have r2 := Same.new (o := .tup [.str "refused", .str "rows", .ref e2]) ht2
                have q1 := at_new (o := .tup [.int (pc' : Int)]) he2
                have q2 := at_new (o := .tup [.str "refused", .str "rows", .ref e2]) ht2
                refine ⟨⟨_, _, rfl, ?_⟩, (s20.trans s21).trans (r1.trans r2)⟩
                rw [hdr, if_pos e1, e4]
                exact .tup (.inl (.inl q2)) (.cons (.str _) (.cons (.str _) (.cons (.tup (.inl (.inl (r2 _ _ q1))) (.cons (.int _) .nil)) .nil)))
              · refine ifF (decide_eq_false fun z => e4 (by have := V.int.inj z; omega)) ⟨⟨_, _, rfl, ?_⟩, s20.trans s21⟩
                rw [hdr, if_pos e1]
                unfold dueAt
                rw [if_neg (by omega)]
                exact dt
            · refine ifF (decide_eq_false fun z => e1 (V.int.inj z)) ⟨⟨_, _, rfl, ?_⟩, s20⟩
              rw [hdr, if_neg e1]
              exact hdv
          · rintro σ H20 ⟨⟨y3, dv, rfl, hdv⟩, s20⟩
            rw [Nat.sub_self, List.drop_zero] at hdv
            have TA20 := TA19.keep (s20 _ _ TA19.at') s20.kp
            have TB20 := TB19.keep (s20 _ _ TB19.at') s20.kp
            have D20 := s20 _ _ D19
            have W20 := s20 _ _ W19
            have L20 := s20 _ _ L19
            have pl20 := pl19.mono s20
            have dp20 : DpAll K (cutH (· = L) H20) xs (R.map SR.dat) := DpAll.mono (cut_same s20) dp19
            have noA : ∀ q ∈ kvsA, noL q.2 = true := fun q hq => noL_words (TA20.all q hq).2.1
            have noB : ∀ q ∈ kvsB, noL q.2 = true := fun q hq => noL_box (TB20.all q hq).2.1
            refine ⟨fun σ H' => ∃ (y3 : Option V) (rv dv : V) (rows : PyData) (path : List Int), σ = [some (.ref a), some (.ref p), some (.int sh), y3, some (.ref D), some (.ref A), y6, some (.ref B), some (.ref W), some rv, some (.ref PT), some dv, some (.int pc')] ∧ TbV K H' A wsA kvsA (areWords 4) 6 ∧ TbV K H' B wsB kvsB isBox 3 ∧ H' D = some (.lst (fs.map V.int)) ∧ H' W = some (.tup (ins.map V.str)) ∧ Pl H' p c ∧ RwN K p A B H' rv rows ∧ wt rows ≤ 30000 ∧ Dp K H' dv (dueI path fs 0) ∧ path.length ≤ 100 ∧ (ft fs 3 = 1 → ∀ E, checkAll E rows = .error ("rows", path)) ∧ (ft fs 3 ≠ 1 → rows = .list (R.map SR.dat)), ?_, ?_⟩
            · refine ⟨_, rfl, D, _, 3, _, rfl, rfl, .inl (.inl D20), at_ft (i := 3) (by omega), rfl, _, rfl, ?_⟩
              have hRw := RV.wt
              by_cases e3 : ft fs 3 = 1
              · refine ifT (decide_eq_true (congrArg V.int e3)) ?_
                refine ⟨_, rfl, .inl ⟨rfl, _, .inl (.inl L20)⟩, _, rfl, ?_⟩
                refine ⟨sz_lit (by show 1 ≤ 100000; decide), fun x1 hx1 => ⟨sz2 _ _, fun x2 hx2 => ⟨sz2 _ _, fun x3 hx3 => ⟨sz_lit (by show 4 ≤ 100000; decide), fun x4 hx4 => ?_⟩⟩⟩⟩
                have c4 := Same.new (o := .lst [.non, .ref x1, .ref x2, .ref x3]) hx4
                have c3 := (Same.new (o := .lst [.str "drop", .str "a"]) hx3).trans c4
                have c2 := (Same.new (o := .tup [.str "drop", .str ""]) hx2).trans c3
                have c1 := (Same.new (o := .tup [.str "leave"]) hx1).trans c2
                have F1 := c2 _ _ (at_new (o := .tup [.str "leave"]) hx1)
                have F2 := c3 _ _ (at_new (o := .tup [.str "drop", .str ""]) hx2)
                have F3 := c4 _ _ (at_new (o := .lst [.str "drop", .str "a"]) hx3)
                have F4 := at_new (o := .lst [.non, .ref x1, .ref x2, .ref x3]) hx4
                have n1 : x1 ≠ L := fun e => by rw [e, L20] at hx1; cases hx1
                have n2 : x2 ≠ L := fun e => by rw [e, Same.new hx1 _ _ L20] at hx2; cases hx2
                have n3 : x3 ≠ L := fun e => by rw [e, Same.new hx2 _ _ (Same.new hx1 _ _ L20)] at hx3; cases hx3
                clear c4 c3 c2
                revert c1 F1 F2 F3 F4
                generalize upd (upd _ x3 _) x4 _ = H21
                intro c1 F1 F2 F3 F4
                have pl21 := pl20.mono c1
                refine ⟨_, rfl, p, c, 4, rfl, pl21, by decide, fun r H22 r1 r2 b22 pl22 => ?_⟩
                obtain ⟨m, rfl⟩ := Int.eq_ofNat_of_zero_le r1
                have hm : m < 4 := by omega
                have kp22 : Kp H21 H22 := pl21.kp b22
                have kp2022 : Kp H20 H22 := c1.kp.trans kp22
                have Dc : DpAll K (cutH (· = L) H22) [.non, .ref x1, .ref x2, .ref x3] menuB := .cons .non (.cons (.tup (.inl (.inl (by rw [cut_not (S := (· = L)) n1]; exact kp22 _ _ F1 rfl))) (.cons (.str _) .nil)) (.cons (.tup (.inl (.inl (by rw [cut_not (S := (· = L)) n2]; exact kp22 _ _ F2 rfl))) (.cons (.str _) (.cons (.str _) .nil))) (.cons (.lst (.inl (.inl (by rw [cut_not (S := (· = L)) n3]; exact kp22 _ _ F3 rfl))) (.cons (.str _) (.cons (.str _) .nil))) .nil)))
                obtain ⟨v, hv, hdv'⟩ := dp_pick (n := m) Dc hm
                have hbw := menuB_bad (menuB[m]'hm) (List.getElem_mem hm)
                revert hdv' hbw
                generalize menuB[m]'hm = dd
                intro hdv' hbw
                have L22 : H22 L = some (.lst xs) := kp2022 _ _ L20 rfl
                refine ⟨x4, _, _, v, rfl, rfl, .inl (.inl (kp22 _ _ F4 rfl)), hv, L, xs, (pc' : Int), v, rfl, rfl, L22, lt_sz (by omega), by omega, by omega, ?_⟩
                rw [Int.toNat_natCast]
                have TA22 := TA20.keep (b22 _ _ (c1 _ _ TA20.at') nA.1) kp2022
                have TB22 := TB20.keep (b22 _ _ (c1 _ _ TB20.at') nB.1) kp2022
                have TA23 := TA22.updL (o := .lst (xs.take pc' ++ [v] ++ xs.drop pc')) noA L22
                have TB23 := TB22.updL (o := .lst (xs.take pc' ++ [v] ++ xs.drop pc')) noB L22
                have D23 : upd H22 L (.lst (xs.take pc' ++ [v] ++ xs.drop pc')) D = some (.lst (fs.map V.int)) := by rw [L2.upd_ne nDL]; exact kp2022 _ _ D20 rfl
                have W23 : upd H22 L (.lst (xs.take pc' ++ [v] ++ xs.drop pc')) W = some (.tup (ins.map V.str)) := by
                  have := kp2022 _ _ W20 rfl
                  rw [L2.upd_ne (fun e => by rw [e, L22] at this; cases this)]
                  exact this
                have pl23 : Pl (upd H22 L (.lst (xs.take pc' ++ [v] ++ xs.drop pc'))) p c := pl22.put nL.1 nL.2
                have L23 : upd H22 L (.lst (xs.take pc' ++ [v] ++ xs.drop pc')) L = some (.lst (xs.take pc' ++ [v] ++ xs.drop pc')) := upd_same
                have U23 : Dp K (upd H22 L (.lst (xs.take pc' ++ [v] ++ xs.drop pc'))) dv (dueI [(pc' : Int)] fs 0) := dp_updL (hdv.kp kp2022) (noL_due _ fs 0) L22
                have dp23 : DpAll K (upd H22 L (.lst (xs.take pc' ++ [v] ++ xs.drop pc'))) (xs.take pc' ++ [v] ++ xs.drop pc') ((R.map SR.dat).take pc' ++ [dd] ++ (R.map SR.dat).drop pc') := by
                  have dpA : DpAll K (cutH (· = L) H22) xs (R.map SR.dat) := DpAll.kp (cut_kpS kp2022) dp20
                  have h := DpAll.append (DpAll.append (dp_take pc' dpA) (.cons hdv' .nil)) (DpAll.drop pc' dpA)
                  rw [← cut_upd (S := (· = L)) (o := .lst (xs.take pc' ++ [v] ++ xs.drop pc')) rfl] at h
                  exact DpAll.mono cut_all h
                revert TA23 TB23 D23 W23 pl23 L23 U23 dp23
                generalize upd H22 L _ = H23
                intro TA23 TB23 D23 W23 pl23 L23 U23 dp23
                have hwt : wts ((R.map SR.dat).take pc' ++ [dd] ++ (R.map SR.dat).drop pc') ≤ 20200 := by rw [wts_ins]; have := hbw.2; omega
                have hck : ∀ E, checkAll E (.list ((R.map SR.dat).take pc' ++ [dd] ++ (R.map SR.dat).drop pc')) = .error ("rows", [(pc' : Int)]) := fun E => bad_check RV hbw.1 hpc
                revert dp23 L23 hwt hck
                generalize (R.map SR.dat).take pc' ++ [dd] ++ (R.map SR.dat).drop pc' = ds'
                generalize xs.take pc' ++ [v] ++ xs.drop pc' = xs'
                intro L23 dp23 hwt hck
                refine ⟨_, rfl, p, c, 3, rfl, pl23, by decide, fun r3 H24 r1 r2 b24 pl24 => ⟨rfl, _, rfl, ?_⟩⟩
                have kp24 : Kp H23 H24 := pl23.kp b24
                have TA24 := TA23.keep (b24 _ _ TA23.at' nA.1) kp24
                have TB24 := TB23.keep (b24 _ _ TB23.at' nB.1) kp24
                by_cases e5 : r3 = 1
                · refine ifT (decide_eq_true (congrArg V.int e5)) ?_
                  have L24 : H24 L = some (.lst xs') := kp24 _ _ L23 rfl
                  refine ⟨_, rfl, L, _, rfl, .inl ⟨.inl (.inl L24), fun t ht => ?_⟩⟩
                  have s25 := Same.new (o := .tup xs') ht
                  have t25 := at_new (o := .tup xs') ht
                  revert s25 t25
                  generalize upd H24 t _ = H25
                  intro s25 t25
                  intro q hq
                  have nqp : q ≠ p := ((pl24.mono s25).new hq).1
                  have nqA : q ≠ A := fun e => by rw [e, s25 _ _ TA24.at'] at hq; cases hq
                  have nqB : q ≠ B := fun e => by rw [e, s25 _ _ TB24.at'] at hq; cases hq
                  have s26 := Same.new (o := .dK []) hq
                  have q26 := at_new (o := .dK []) hq
                  revert s26 q26
                  generalize upd H25 q _ = H26
                  intro s26 q26
                  refine ⟨sz_lit (by show 5 ≤ 100000; decide), fun l5 hl5 => ?_⟩
                  have s27 := Same.new (o := .lst [.ref t, .non, .str "rows", .ref q, .int 0]) hl5
                  have l27 := at_new (o := .lst [.ref t, .non, .str "rows", .ref q, .int 0]) hl5
                  revert s27 l27
                  generalize upd H26 l5 _ = H27
                  intro s27 l27
                  have c27 := (s25.trans s26).trans s27
                  have pl27 := pl24.mono c27
                  refine ⟨_, rfl, p, c, 5, rfl, pl27, by decide, fun r5 H28 r1 r2 b28 pl28 => ?_⟩
                  have kp28 : Kp H27 H28 := pl27.kp b28
                  have kp2428 : Kp H24 H28 := c27.kp.trans kp28
                  have t28 : H28 t = some (.tup xs') := kp28 _ _ (s27 _ _ (s26 _ _ t25)) rfl
                  have q28 : H28 q = some (.dK []) := b28 _ _ (s27 _ _ q26) nqp
                  have dp28 : DpAll K H28 xs' ds' := DpAll.kp (kp24.trans kp2428) dp23
                  have TA28 := TA24.keep (b28 _ _ (c27 _ _ TA24.at') nA.1) kp2428
                  have TB28 := TB24.keep (b28 _ _ (c27 _ _ TB24.at') nB.1) kp2428
                  have U28 := (U23.kp kp24).kp kp2428
                  have D28 := kp2428 _ _ (kp24 _ _ D23 rfl) rfl
                  have W28 := kp2428 _ _ (kp24 _ _ W23 rfl) rfl
                  obtain ⟨rv, rows, hat, hrw, hwr, hcr⟩ : ∃ rv rows, atI [V.ref t, .non, .str "rows", .ref q, .int 0] r5 = some rv ∧ RwN K p A B H28 rv rows ∧ wt rows ≤ 30000 ∧ ∀ E, checkAll E rows = .error ("rows", []) := by
                    have h5 : r5 = 0 ∨ r5 = 1 ∨ r5 = 2 ∨ r5 = 3 ∨ r5 = 4 := by omega
                    rcases h5 with rfl | rfl | rfl | rfl | rfl
                    · exact ⟨.ref t, .tuple ds', rfl, .inl (.tup (.inl (.inl t28)) dp28), by rw [wt_tuple]; omega, fun _ => rfl⟩
                    · exact ⟨.non, .none, rfl, .inl .non, by decide +kernel, fun _ => rfl⟩
                    · exact ⟨.str "rows", .str "rows", rfl, .inl (.str _), by decide +kernel, fun _ => rfl⟩
                    · exact ⟨.ref q, .dict [], rfl, .inr ⟨rfl, q, rfl, q28, nqp, nqA, nqB⟩, by decide +kernel, fun _ => rfl⟩
                    · exact ⟨.int 0, .int 0, rfl, .inl (.int _), by decide +kernel, fun _ => rfl⟩
                  refine ⟨l5, _, _, rv, rfl, rfl, .inl (.inl (kp28 _ _ l27 rfl)), hat, ?_⟩
                  obtain ⟨j, hj3, hdj⟩ := due_first h8 e3
                  rw [hdj] at U28
                  obtain ⟨du, y2, rfl, hsq⟩ : ∃ du y2, dv = .ref du ∧ SqT K H28 du [.str "refused", .str (partN j), y2] := by
                    cases U28 with
                    | tup h1 h2 =>
                      cases h2 with
                      | cons g1 h2 =>
                        cases h2 with
                        | cons g2 h2 =>
                          cases h2 with
                          | cons g3 h2 =>
                            cases h2
                            cases g1
                            cases g2
                            exact ⟨_, _, rfl, h1⟩
                  refine ⟨_, rfl, du, _, 1, .str (partN j), rfl, rfl, hsq, rfl, rfl, _, rfl, ?_⟩
                  by_cases ej : partN j = "rows"
                  · have ej3 := (part_rows j hj3).mp ej
                    refine ifT (decide_eq_true (congrArg V.str ej)) ?_
                    refine ⟨sz_lit (by show 0 ≤ 100000; decide), fun e he => ⟨sz_lit (by show 3 ≤ 100000; decide), fun t2 ht2 => ?_⟩⟩
                    have r1 := Same.new (o := .tup []) he
                    have r2 := Same.new (o := .tup [.str "refused", .str "rows", .ref e]) ht2
                    have q1 := at_new (o := .tup []) he
                    have q2 := at_new (o := .tup [.str "refused", .str "rows", .ref e]) ht2
                    have s29 := r1.trans r2
                    refine ⟨_, _, _, rows, [], rfl, TA28.keep (s29 _ _ TA28.at') s29.kp, TB28.keep (s29 _ _ TB28.at') s29.kp, s29 _ _ D28, s29 _ _ W28, pl28.mono s29, hrw.keep (d' := A) (fun b o hb _ _ => s29 b o hb) s29.kp (.inl rfl), hwr, ?_, by simp, fun _ => hcr, fun h => (h e3).elim⟩
                    rw [hdj, ej3]
                    exact .tup (.inl (.inl q2)) (.cons (.str _) (.cons (.str _) (.cons (.tup (.inl (.inl (r2 _ _ q1))) .nil) .nil)))
                  · refine ifF (decide_eq_false fun z => ej (V.str.inj z)) ?_
                    refine ⟨_, _, _, rows, [], rfl, TA28, TB28, D28, W28, pl28, hrw, hwr, ?_, by simp, fun _ => hcr, fun h => (h e3).elim⟩
                    rw [hdj, due_path (path' := [(pc' : Int)]) fun e => ej ((part_rows j hj3).mpr e)]
                    exact U28
                · refine ifF (decide_eq_false fun z => e5 (V.int.inj z)) ?_
                  exact ⟨_, _, _, .list ds', [(pc' : Int)], rfl, TA24, TB24, kp24 _ _ D23 rfl, kp24 _ _ W23 rfl, pl24, .inl (.lst (.inl (.inl (kp24 _ _ L23 rfl))) (DpAll.kp kp24 dp23)), by rw [wt_list]; omega, U23.kp kp24, by simp, fun _ => hck, fun h => (h e3).elim⟩
              · refine ifF (decide_eq_false fun z => e3 (V.int.inj z)) ?_
                exact ⟨_, _, _, .list (R.map SR.dat), [(pc' : Int)], rfl, TA20, TB20, D20, W20, pl20, .inl (.lst (.inl (.inl L20)) (DpAll.mono cut_all dp20)), by rw [wt_list]; omega, hdv, by simp, fun h => (e3 h).elim, fun _ => rfl⟩
            · rintro σ H21 ⟨y3', rv, dv', rows, path, rfl, TA21, TB21, D21, W21, pl21, hrw, hwtr, hdue, hpl, hR, hR'⟩
              have hwA : ∀ q ∈ kvsA, q.1.length ≤ 100 ∧ wt q.2 ≤ 1000 := fun q hq => ⟨by have := word_len (TA21.all q hq).1; omega, (TA21.all q hq).2.2⟩
              have hwB : ∀ q ∈ kvsB, q.1.length ≤ 100 ∧ wt q.2 ≤ 1000 := fun q hq => ⟨by have := word_len (TB21.all q hq).1; omega, (TB21.all q hq).2.2⟩
              have kAl := TA21.len
              have kBl := TB21.len
              refine ⟨fun σ H' => ∃ (y3 : Option V) (av : V), σ = [some (.ref a), some (.ref p), some (.int sh), y3, some (.ref D), some av, y6, some (.ref B), some (.ref W), some rv, some (.ref PT), some dv', some (.int pc')] ∧ AskS K fs A H' av ∧ TbV K H' B wsB kvsB isBox 3 ∧ H' D = some (.lst (fs.map V.int)) ∧ H' W = some (.tup (ins.map V.str)) ∧ Pl H' p c ∧ RwN K p A B H' rv rows ∧ Dp K H' dv' (dueI path fs 0), ?_, ?_⟩
              · refine ⟨_, rfl, D, _, 0, _, rfl, rfl, .inl (.inl D21), at_ft (i := 0) (by omega), rfl, _, rfl, ?_⟩
                by_cases e0 : ft fs 0 = 1
                · refine ifT (decide_eq_true (congrArg V.int e0)) ?_
                  obtain ⟨_, hpp⟩ := pl21.at
                  refine ⟨_, rfl, _, rfl, p, c, A, wsA, kvsA, rfl, pl21, nA.1, TA21, fun v a' H22 b22 pl22 hv hva hsm hok => ?_, fun H22 b22 pl22 hodd => ?_⟩
                  · have kp22 := b22.kp hpp TA21.at'
                    exact ⟨_, _, rfl, .inl ⟨a', hv, hva, hsm, fun _ => hok, fun h => (h e0).elim⟩, TB21.keep (b22 _ _ TB21.at' nB.1 nAB.symm) kp22, kp22 _ _ D21 rfl, kp22 _ _ W21 rfl, pl22, hrw.keep b22 kp22 (.inl rfl), hdue.kp kp22⟩
                  · have kp22 := b22.kp hpp TA21.at'
                    exact ⟨_, _, rfl, .inr ⟨e0, rfl, hodd⟩, TB21.keep (b22 _ _ TB21.at' nB.1 nAB.symm) kp22, kp22 _ _ D21 rfl, kp22 _ _ W21 rfl, pl22, hrw.keep b22 kp22 (.inl rfl), hdue.kp kp22⟩
                · refine ifF (decide_eq_false fun z => e0 (V.int.inj z)) ?_
                  exact ⟨_, _, rfl, .inl ⟨.dict kvsA, ⟨A, wsA, rfl, TA21.at', TA21.kv, TA21.nd⟩, .inl rfl, argSmall_of (by omega) hwA, fun h => (e0 h).elim, fun _ => ⟨_, tab_good (by omega) fun q hq => ⟨(TA21.all q hq).1, (TA21.all q hq).2.1⟩⟩⟩, TB21, D21, W21, pl21, hrw, hdue⟩
              · rintro σ H22 ⟨y3'', av, rfl, hask, TB22, D22, W22, pl22, hrw22, hdue22⟩
                refine ⟨fun σ H' => ∃ (y3 : Option V) (sv : V), σ = [some (.ref a), some (.ref p), some (.int sh), y3, some (.ref D), some av, y6, some sv, some (.ref W), some rv, some (.ref PT), some dv', some (.int pc')] ∧ AskS K fs A H' av ∧ SigS K fs B H' sv ∧ H' D = some (.lst (fs.map V.int)) ∧ H' W = some (.tup (ins.map V.str)) ∧ Pl H' p c ∧ RwN K p A B H' rv rows ∧ Dp K H' dv' (dueI path fs 0), ?_, ?_⟩
                · refine ⟨_, rfl, D, _, 1, _, rfl, rfl, .inl (.inl D22), at_ft (i := 1) (by omega), rfl, _, rfl, ?_⟩
                  by_cases e0 : ft fs 1 = 1
                  · refine ifT (decide_eq_true (congrArg V.int e0)) ?_
                    obtain ⟨_, hpp⟩ := pl22.at
                    refine ⟨_, rfl, _, rfl, p, c, B, wsB, kvsB, rfl, pl22, nB.1, TB22, fun v a' H23 b23 pl23 hv hva hsm hok => ?_⟩
                    have kp23 := b23.kp hpp TB22.at'
                    exact ⟨_, _, rfl, hask.keep (fun o ho => b23 _ _ ho nA.1 nAB) kp23, ⟨a', hv, hva, hsm, fun _ => hok, fun h => (h e0).elim⟩, kp23 _ _ D22 rfl, kp23 _ _ W22 rfl, pl23, hrw22.keep b23 kp23 (.inr rfl), hdue22.kp kp23⟩
                  · refine ifF (decide_eq_false fun z => e0 (V.int.inj z)) ?_
                    exact ⟨_, _, rfl, hask, ⟨.dict kvsB, ⟨B, wsB, rfl, TB22.at', TB22.kv, TB22.nd⟩, .inl rfl, argSmall_of (by omega) hwB, fun h => (e0 h).elim, fun _ => ⟨_, tab_good (by omega) fun q hq => ⟨(TB22.all q hq).1, (TB22.all q hq).2.1⟩⟩⟩, D22, W22, pl22, hrw22, hdue22⟩
                · rintro σ H23 ⟨y3a, sv, rfl, hask23, hsig23, D23, W23, pl23, hrw23, hdue23⟩
                  refine ⟨fun σ H' => ∃ (y3 : Option V) (iv : V) (ins' : PyData), σ = [some (.ref a), some (.ref p), some (.int sh), y3, some (.ref D), some av, y6, some sv, some iv, some rv, some (.ref PT), some dv', some (.int pc')] ∧ AskS K fs A H' av ∧ SigS K fs B H' sv ∧ Dp K H' iv ins' ∧ small ins' = true ∧ (ft fs 2 = 1 → areWords 3 ins' = false) ∧ (ft fs 2 ≠ 1 → areWords 3 ins' = true) ∧ RwN K p A B H' rv rows ∧ Dp K H' dv' (dueI path fs 0), ?_, ?_⟩
                  · refine ⟨_, rfl, D, _, 2, _, rfl, rfl, .inl (.inl D23), at_ft (i := 2) (by omega), rfl, _, rfl, ?_⟩
                    by_cases e0 : ft fs 2 = 1
                    · refine ifT (decide_eq_true (congrArg V.int e0)) ?_
                      obtain ⟨w0, hw0⟩ : ∃ z, z = ins.headD "" := ⟨_, rfl⟩
                      have at0 : atI (ins.map V.str) 0 = some (.str w0) := by
                        match ins, hil', hw0 with
                        | z :: r, _, e =>
                          rw [e]
                          exact atI_nat (j := 0) rfl
                      have Ww := W23
                      refine ⟨sz_lit (by show 0 ≤ 100000; decide), fun x1 hx1 => ?_⟩
                      have s41 := Same.new (o := .tup []) hx1
                      have l41 := at_new (o := .tup []) hx1
                      revert s41 l41
                      generalize upd H23 x1 _ = G1
                      intro s41 l41
                      have Ww := s41 _ _ Ww
                      refine ⟨_, rfl, sz_lit (by show 1 ≤ 100000; decide), fun x2 hx2 => ?_⟩
                      have s42 := Same.new (o := .tup [.str "a"]) hx2
                      have l42 := at_new (o := .tup [.str "a"]) hx2
                      revert s42 l42
                      generalize upd G1 x2 _ = G2
                      intro s42 l42
                      have Ww := s42 _ _ Ww
                      refine ⟨W, x2, ins.map V.str, [.str "a"], rfl, rfl, .inl (.inl Ww), .inl (.inl l42), sz_lit (by rw [List.length_map]; show ins.length + 1 ≤ 100000; omega), (fun h => ?_), (fun _ h => by cases h), (fun _ _ x3 hx3 => ?_)⟩
                      · rw [List.map_eq_nil_iff] at h
                        rw [h] at hil'
                        cases hil'
                      have s43 := Same.new (o := .tup (ins.map V.str ++ [.str "a"])) hx3
                      have l43 := at_new (o := .tup (ins.map V.str ++ [.str "a"])) hx3
                      revert s43 l43
                      generalize upd G2 x3 _ = G3
                      intro s43 l43
                      have Ww := s43 _ _ Ww
                      refine ⟨_, rfl, W, _, 0, .str w0, rfl, rfl, .inl (.inl Ww), at0, _, rfl, W, _, 0, .str w0, rfl, rfl, .inl (.inl Ww), at0, sz2 _ _, fun x4 hx4 => ?_⟩
                      have s44 := Same.new (o := .tup [.str w0, .str w0]) hx4
                      have l44 := at_new (o := .tup [.str w0, .str w0]) hx4
                      revert s44 l44
                      generalize upd G3 x4 _ = G4
                      intro s44 l44
                      have Ww := s44 _ _ Ww
                      refine ⟨_, rfl, W, _, rfl, .inr (.inl (.inl Ww)), fun x5 hx5 => ?_⟩
                      have s45 := Same.new (o := .lst (ins.map V.str)) hx5
                      have l45 := at_new (o := .lst (ins.map V.str)) hx5
                      revert s45 l45
                      generalize upd G4 x5 _ = G5
                      intro s45 l45
                      have Ww := s45 _ _ Ww
                      refine ⟨sz_lit (by show 1 ≤ 100000; decide), fun x6 hx6 => ?_⟩
                      have s46 := Same.new (o := .tup [.str ""]) hx6
                      have l46 := at_new (o := .tup [.str ""]) hx6
                      revert s46 l46
                      generalize upd G5 x6 _ = G6
                      intro s46 l46
                      have Ww := s46 _ _ Ww
                      refine ⟨sz_lit (by show 1 ≤ 100000; decide), fun x7 hx7 => ?_⟩
                      have s47 := Same.new (o := .tup [.int 5]) hx7
                      have l47 := at_new (o := .tup [.int 5]) hx7
                      revert s47 l47
                      generalize upd G6 x7 _ = G7
                      intro s47 l47
                      have Ww := s47 _ _ Ww
                      refine ⟨sz_lit (by show 8 ≤ 100000; decide), fun x8 hx8 => ?_⟩
                      have s48 := Same.new (o := .lst [.ref x1, .ref x3, .ref x4, .ref x5, .non, .str "go", .ref x6, .ref x7]) hx8
                      have l48 := at_new (o := .lst [.ref x1, .ref x3, .ref x4, .ref x5, .non, .str "go", .ref x6, .ref x7]) hx8
                      revert s48 l48
                      generalize upd G7 x8 _ = G8
                      intro s48 l48
                      have Ww := s48 _ _ Ww
                      have s238 := ((((((s41.trans s42).trans s43).trans s44).trans s45).trans s46).trans s47).trans s48
                      have pl8 := pl23.mono s238
                      have Db : DpAll K G8 [.ref x1, .ref x3, .ref x4, .ref x5, .non, .str "go", .ref x6, .ref x7] (badIns ins) := by
                        unfold badIns
                        rw [← hw0]
                        exact .cons (.tup (.inl (.inl (s48 _ _ (s47 _ _ (s46 _ _ (s45 _ _ (s44 _ _ (s43 _ _ (s42 _ _ l41))))))))) .nil) (.cons (.tup (.inl (.inl (s48 _ _ (s47 _ _ (s46 _ _ (s45 _ _ (s44 _ _ l43))))))) ((dp_strs ins).append (.cons (.str _) .nil))) (.cons (.tup (.inl (.inl (s48 _ _ (s47 _ _ (s46 _ _ (s45 _ _ l44)))))) (.cons (.str _) (.cons (.str _) .nil))) (.cons (.lst (.inl (.inl (s48 _ _ (s47 _ _ (s46 _ _ l45))))) (dp_strs ins)) (.cons .non (.cons (.str _) (.cons (.tup (.inl (.inl (s48 _ _ (s47 _ _ l46)))) (.cons (.str _) .nil)) (.cons (.tup (.inl (.inl (s48 _ _ l47))) (.cons (.int _) .nil)) .nil)))))))
                      refine ⟨_, rfl, p, c, 8, rfl, pl8, by decide, fun r H25 r1 r2 b25 pl25 => ?_⟩
                      obtain ⟨m, rfl⟩ := Int.eq_ofNat_of_zero_le r1
                      have hm : m < (badIns ins).length := by show m < 8; omega
                      have kp25 : Kp G8 H25 := pl8.kp b25
                      have kp2325 : Kp H23 H25 := s238.kp.trans kp25
                      obtain ⟨v, hv, hdvv⟩ := dp_pick (n := m) Db hm
                      have hbd := badIns_bad hil' (fun z hz => (hiw z hz).1) _ (List.getElem_mem hm)
                      exact ⟨x8, _, _, v, rfl, rfl, .inl (.inl (kp25 _ _ l48 rfl)), hv, _, _, _, rfl, hask23.keep (fun o ho => b25 _ _ (s238 _ _ ho) nA.1) kp2325, hsig23.keep (fun o ho => b25 _ _ (s238 _ _ ho) nB.1) kp2325, hdvv.kp kp25, hbd.2, fun _ => hbd.1, fun h => (h e0).elim, hrw23.keep (d' := A) (fun b o hb n1 _ => b25 _ _ (s238 b o hb) n1) kp2325 (.inl rfl), hdue23.kp kp2325⟩
                    · refine ifF (decide_eq_false fun z => e0 (V.int.inj z)) ?_
                      refine ⟨_, _, .tuple (ins.map .str), rfl, hask23, hsig23, .tup (.inl (.inl W23)) (dp_strs ins), ?_, fun h => (e0 h).elim, fun _ => words_ok (by omega) (by omega) hind fun z hz => (hiw z hz).1, hrw23, hdue23⟩
                      exact small_of _ (by rw [wt_tuple]; have := wts_strs (zs := ins) fun z hz => (hiw z hz).1; omega)
                  · rintro σ H24 ⟨y3b, iv, ins', rfl, hask24, hsig24, hins, hsm, hI, hI', hrw24, hdue24⟩
                    have hdsm := smK_due path hpl fs 0
                    refine ⟨_, rfl, _, rfl, _, rfl, _, rfl, rv, av, sv, iv, rfl, ?_⟩
                    rcases hask24 with ⟨a', h1, h2, h3, h4, h5⟩ | ⟨g1, g2, g3⟩
                    · obtain ⟨b', t1, t2, t3, t4, t5⟩ := hsig24
                      refine .inl ⟨a', b', ins', rows, h1, t1, h3, t3, hins, hrw24.rw, hsm, hwtr, fun v H' fr hd => ?_⟩
                      rw [fin_told h8 hf RV h4 h5 t4 t5 hI hI' hR hR'] at hd
                      have kp : Kp H24 H' := fun b o hb ho => fr b o hb fun m => by
                        rcases List.mem_append.mp m with m | m
                        · obtain ⟨_, e⟩ := argF_dict h1 m
                          rw [e] at hb
                          cases hb
                          cases ho
                        · obtain ⟨_, e⟩ := argF_dict t1 m
                          rw [e] at hb
                          cases hb
                          cases ho
                      exact ⟨_, rfl, v, dv', _, rfl, hd, hdue24.kp kp, hdsm, fun H'' _ => k H''⟩
                    · subst g2
                      refine .inr ⟨g3, fun v H' s' hd => ?_⟩
                      have e : dueI path fs 0 = dueAt path 0 := by
                        have := dueI_drop (path := path) (fs := fs) (j := 0) (by omega)
                        rw [List.drop_zero, if_pos g1] at this
                        exact this
                      exact ⟨_, rfl, v, dv', dueI path fs 0, rfl, by rw [e]; exact hd, hdue24.mono s', hdsm, fun H'' _ => k H''⟩
end
end Op
namespace Op
open PySem L2 PyProof.Rows PySem.XL
theorem vals_app : ∀ {vs ws : List V} {us zs : List Value}, Vals vs us → Vals ws zs → Vals (vs ++ ws) (us ++ zs)
  | _, _, _, _, .nil, h => h
  | _, _, _, _, .cons a b, h => .cons a (vals_app b h)
theorem exm_own {K : PySem.W.Frag} {C : Addr} (hb : PySem.W.subIn K (.ref C) (.type "BaseException") = some true) (hi : PySem.W.isClsIn K C = true) (ht : PySem.W.typeIn K (.ref C) = some (.type "type")) (hs : PySem.W.subIn K (.ref C) (.ref C) = some true) : PySem.W.exmOne K (.ref C) (.ref C) = some true := by
  unfold PySem.W.exmOne
  rw [hb, if_pos (by simp)]
  have hi' : (PySem.W.clsIn K C).isSome = true := hi
  show (if ((PySem.W.clsIn K C).isSome && PySem.W.typeIn K (.ref C) == some (.type "type")) = true then PySem.W.subIn K (.ref C) (.ref C) else none) = some true
  rw [hi', ht, if_pos (by simp)]
  exact hs
theorem Sh_InvalidProgram : ∃ (Ps : Ps2) (a1 a2 a3 : Pos), defArgs s_InvalidProgram___init__ = args2 a1 a2 a3 "part" "path" ∧ defBody s_InvalidProgram___init__ = body2 Ps "invalid program" "part" "path" ∧ defScope s_InvalidProgram___init__ = scope2 "part" "path" ∧ ∀ fI, EvOk "InvalidProgram.__init__" (scope2 "part" "path") fI Ps.toPs1 "invalid program" :=
  ⟨⟨⟨_, _, _, _, _, _, _, _, _, _, _⟩, _, _, _, _⟩, _, _, _, rfl, rfl, rfl, fun fI L cda cc => ⟨_, rfl, rfl, rfl⟩⟩
theorem Xm_InvalidProgram {P : Program} {w : World} {K : PySem.W.Frag} {C fI : Addr} (T : XCls P K C) (Fn : XFn P K C fI "InvalidProgram.__init__" (defArgs s_InvalidProgram___init__) (defBody s_InvalidProgram___init__) (defScope s_InvalidProgram___init__)) (nof : PySem.W.findIn K (.ref C) "part" = some none) (nof2 : PySem.W.findIn K (.ref C) "path" = some none) :
    XMk P w K C 2 [] (fun vs _ => [("path", vs.getD 1 .non), ("part", vs.getD 0 .non)]) ∧ XMk P w K C 0 ["path", "part"] (fun _ zs => [("path", zs.getD 0 .non), ("part", zs.getD 1 .non)]) := by
  obtain ⟨Ps, a1, a2, a3, e1, e2, e3, ev⟩ := Sh_InvalidProgram
  rw [e1, e2, e3] at Fn
  exact ⟨xmk2 T Fn (by decide +kernel) (by decide +kernel) (by decide +kernel) nof nof2 (ev fI) fun s x v v2 kV doc pm an cdv ct cc => .of_eq rfl, xmk2k T Fn (by decide +kernel) (by decide +kernel) (by decide +kernel) nof nof2 (ev fI) fun s x v v2 kV doc pm an cdv ct cc => .of_eq rfl⟩
theorem all_mk {w : World} {K : PySem.W.Frag} {h : Heap} {mg : Str → Option Value} {fa p_SHAPES c_InputError c_OpenError c_InvalidProgram i_InvalidProgram g_is_integer g_is_word g_are_words g_is_branches g_inner_lists g_with_lists g_copy_row g_copy_rows g_checked_asks g_is_box g_checked_signals g_checked_inputs g__law_bag g__law_draw g__law_words g__law_same g__law_wrong_asks g__law_wrong_signals g__law_all_rows g__law_fault g_law c_RowCheck m_RowCheck___init__ m_RowCheck_check m_RowCheck_check_sizes m_RowCheck_check_list m_RowCheck_fits m_RowCheck_id_fits m_RowCheck_part_fits m_RowCheck_collect c_Program m_Program___init__ m_Program_add_rows m_Program___len__ : Addr} (X : K.In h) (G : h.Ns mainGlobals mg) (hfa : mg "law" = some (.ref fa))
    {tk_LETTERS : Tok}
    {tk_MOST_ROWS : Tok}
    {tk_MOST_LABELS : Tok}
    {tk_MOST_SLOTS : Tok}
    {tk_MOST_GATES : Tok}
    {tk_MOST_EDITS : Tok}
    {tk_DEEPEST : Tok}
    {es_SHAPES : Array DictEntry} {en_SHAPES : Nat}
    {nm_InvalidProgram q_InvalidProgram : Str} {N_InvalidProgram : Addr} {bs_InvalidProgram : List Value} {sn_InvalidProgram : List Str} {sub_InvalidProgram : List Value} {ab_InvalidProgram : Bool} {col_InvalidProgram : Option Bool} {dd_InvalidProgram : Option Addr} {ka_InvalidProgram kb_InvalidProgram kc_InvalidProgram kd_InvalidProgram ke_InvalidProgram : Option Value}
    {oc_InvalidProgram kV_InvalidProgram dc_InvalidProgram pm_InvalidProgram ct_InvalidProgram ccl_InvalidProgram cll_InvalidProgram : Value} {od_InvalidProgram an_InvalidProgram cdd_InvalidProgram cld_InvalidProgram : Option Addr} {cd_InvalidProgram cc_InvalidProgram : Addr} {sl_InvalidProgram ccs_InvalidProgram csl_InvalidProgram : Array (Option Value)} {vs_InvalidProgram : Array Value} {fl_InvalidProgram : Str} {tf_InvalidProgram : Tok}
    {xo_is_integer xk_is_integer xc_is_integer xp_is_integer xe_is_integer xt_is_integer : Value} {xd_is_integer xa_is_integer : Option Addr} {xs_is_integer : Array (Option Value)}
    {xo_is_word xk_is_word xc_is_word xp_is_word xe_is_word xt_is_word : Value} {xd_is_word xa_is_word : Option Addr} {xs_is_word : Array (Option Value)}
    {xo_are_words xk_are_words xc_are_words xp_are_words xe_are_words xt_are_words : Value} {xd_are_words xa_are_words : Option Addr} {xs_are_words : Array (Option Value)}
    {xo_is_branches xk_is_branches xc_is_branches xp_is_branches xe_is_branches xt_is_branches : Value} {xd_is_branches xa_is_branches : Option Addr} {xs_is_branches : Array (Option Value)}
    {xo_inner_lists xk_inner_lists xc_inner_lists xp_inner_lists xe_inner_lists xt_inner_lists : Value} {xd_inner_lists xa_inner_lists : Option Addr} {xs_inner_lists : Array (Option Value)}
    {xo_with_lists xk_with_lists xc_with_lists xp_with_lists xe_with_lists xt_with_lists : Value} {xd_with_lists xa_with_lists : Option Addr} {xs_with_lists : Array (Option Value)}
    {xo_copy_row xk_copy_row xc_copy_row xp_copy_row xe_copy_row xt_copy_row : Value} {xd_copy_row xa_copy_row : Option Addr} {xs_copy_row : Array (Option Value)}
    {xo_copy_rows xk_copy_rows xc_copy_rows xp_copy_rows xe_copy_rows xt_copy_rows : Value} {xd_copy_rows xa_copy_rows : Option Addr} {xs_copy_rows : Array (Option Value)}
    {xo_checked_asks xk_checked_asks xc_checked_asks xp_checked_asks xe_checked_asks xt_checked_asks : Value} {xd_checked_asks xa_checked_asks : Option Addr} {xs_checked_asks : Array (Option Value)}
    {xo_is_box xk_is_box xc_is_box xp_is_box xe_is_box xt_is_box : Value} {xd_is_box xa_is_box : Option Addr} {xs_is_box : Array (Option Value)}
    {xo_checked_signals xk_checked_signals xc_checked_signals xp_checked_signals xe_checked_signals xt_checked_signals : Value} {xd_checked_signals xa_checked_signals : Option Addr} {xs_checked_signals : Array (Option Value)}
    {xo_checked_inputs xk_checked_inputs xc_checked_inputs xp_checked_inputs xe_checked_inputs xt_checked_inputs : Value} {xd_checked_inputs xa_checked_inputs : Option Addr} {xs_checked_inputs : Array (Option Value)}
    {xo__law_bag xk__law_bag xc__law_bag xp__law_bag xe__law_bag xt__law_bag : Value} {xd__law_bag xa__law_bag : Option Addr} {xs__law_bag : Array (Option Value)}
    {xo__law_draw xk__law_draw xc__law_draw xp__law_draw xe__law_draw xt__law_draw : Value} {xd__law_draw xa__law_draw : Option Addr} {xs__law_draw : Array (Option Value)}
    {xo__law_words xk__law_words xc__law_words xp__law_words xe__law_words xt__law_words : Value} {xd__law_words xa__law_words : Option Addr} {xs__law_words : Array (Option Value)}
    {xo__law_same xk__law_same xc__law_same xp__law_same xe__law_same xt__law_same : Value} {xd__law_same xa__law_same : Option Addr} {xs__law_same : Array (Option Value)}
    {xo__law_wrong_asks xk__law_wrong_asks xc__law_wrong_asks xp__law_wrong_asks xe__law_wrong_asks xt__law_wrong_asks : Value} {xd__law_wrong_asks xa__law_wrong_asks : Option Addr} {xs__law_wrong_asks : Array (Option Value)}
    {xo__law_wrong_signals xk__law_wrong_signals xc__law_wrong_signals xp__law_wrong_signals xe__law_wrong_signals xt__law_wrong_signals : Value} {xd__law_wrong_signals xa__law_wrong_signals : Option Addr} {xs__law_wrong_signals : Array (Option Value)}
    {xo__law_all_rows xk__law_all_rows xc__law_all_rows xp__law_all_rows xe__law_all_rows xt__law_all_rows : Value} {xd__law_all_rows xa__law_all_rows : Option Addr} {xs__law_all_rows : Array (Option Value)}
    {xo__law_fault xk__law_fault xc__law_fault xp__law_fault xe__law_fault xt__law_fault : Value} {xd__law_fault xa__law_fault : Option Addr} {xs__law_fault : Array (Option Value)}
    {xo_law xk_law xc_law xp_law xe_law xt_law : Value} {xd_law xa_law : Option Addr} {xs_law : Array (Option Value)}
    {xo_RowCheck___init__ xk_RowCheck___init__ xc_RowCheck___init__ xp_RowCheck___init__ xe_RowCheck___init__ xt_RowCheck___init__ : Value} {xd_RowCheck___init__ xa_RowCheck___init__ : Option Addr} {xs_RowCheck___init__ : Array (Option Value)}
    {xo_RowCheck_check xk_RowCheck_check xc_RowCheck_check xp_RowCheck_check xe_RowCheck_check xt_RowCheck_check : Value} {xd_RowCheck_check xa_RowCheck_check : Option Addr} {xs_RowCheck_check : Array (Option Value)}
    {xo_RowCheck_check_sizes xk_RowCheck_check_sizes xc_RowCheck_check_sizes xp_RowCheck_check_sizes xe_RowCheck_check_sizes xt_RowCheck_check_sizes : Value} {xd_RowCheck_check_sizes xa_RowCheck_check_sizes : Option Addr} {xs_RowCheck_check_sizes : Array (Option Value)}
    {xo_RowCheck_check_list xk_RowCheck_check_list xc_RowCheck_check_list xp_RowCheck_check_list xe_RowCheck_check_list xt_RowCheck_check_list : Value} {xd_RowCheck_check_list xa_RowCheck_check_list : Option Addr} {xs_RowCheck_check_list : Array (Option Value)}
    {xo_RowCheck_fits xk_RowCheck_fits xc_RowCheck_fits xp_RowCheck_fits xe_RowCheck_fits xt_RowCheck_fits : Value} {xd_RowCheck_fits xa_RowCheck_fits : Option Addr} {xs_RowCheck_fits : Array (Option Value)}
    {xo_RowCheck_id_fits xk_RowCheck_id_fits xc_RowCheck_id_fits xp_RowCheck_id_fits xe_RowCheck_id_fits xt_RowCheck_id_fits : Value} {xd_RowCheck_id_fits xa_RowCheck_id_fits : Option Addr} {xs_RowCheck_id_fits : Array (Option Value)}
    {xo_RowCheck_part_fits xk_RowCheck_part_fits xc_RowCheck_part_fits xp_RowCheck_part_fits xe_RowCheck_part_fits xt_RowCheck_part_fits : Value} {xd_RowCheck_part_fits xa_RowCheck_part_fits : Option Addr} {xs_RowCheck_part_fits : Array (Option Value)}
    {xo_RowCheck_collect xk_RowCheck_collect xc_RowCheck_collect xp_RowCheck_collect xe_RowCheck_collect xt_RowCheck_collect : Value} {xd_RowCheck_collect xa_RowCheck_collect : Option Addr} {xs_RowCheck_collect : Array (Option Value)}
    {xo_Program___init__ xk_Program___init__ xc_Program___init__ xp_Program___init__ xe_Program___init__ xt_Program___init__ : Value} {xd_Program___init__ xa_Program___init__ : Option Addr} {xs_Program___init__ : Array (Option Value)}
    {xo_Program_add_rows xk_Program_add_rows xc_Program_add_rows xp_Program_add_rows xe_Program_add_rows xt_Program_add_rows : Value} {xd_Program_add_rows xa_Program_add_rows : Option Addr} {xs_Program_add_rows : Array (Option Value)}
    {xo_Program___len__ xk_Program___len__ xc_Program___len__ xp_Program___len__ xe_Program___len__ xt_Program___len__ : Value} {xd_Program___len__ xa_Program___len__ : Option Addr} {xs_Program___len__ : Array (Option Value)}
    (z_len : PySem.W.nsIn K mainGlobals "len" = some none)
    (z_int : PySem.W.nsIn K mainGlobals "int" = some none)
    (z_bool : PySem.W.nsIn K mainGlobals "bool" = some none)
    (z_str : PySem.W.nsIn K mainGlobals "str" = some none)
    (z_list : PySem.W.nsIn K mainGlobals "list" = some none)
    (z_tuple : PySem.W.nsIn K mainGlobals "tuple" = some none)
    (z_dict : PySem.W.nsIn K mainGlobals "dict" = some none)
    (z_set : PySem.W.nsIn K mainGlobals "set" = some none)
    (z_range : PySem.W.nsIn K mainGlobals "range" = some none)
    (z_zip : PySem.W.nsIn K mainGlobals "zip" = some none)
    (z_enumerate : PySem.W.nsIn K mainGlobals "enumerate" = some none)
    (z_sorted : PySem.W.nsIn K mainGlobals "sorted" = some none)
    (z_isinstance : PySem.W.nsIn K mainGlobals "isinstance" = some none)
    (z_LETTERS : PySem.W.nsIn K mainGlobals "LETTERS" = some (some (.str "abcdefghijklmnopqrstuvwxyz" tk_LETTERS)))
    (z_MOST_ROWS : PySem.W.nsIn K mainGlobals "MOST_ROWS" = some (some (.int 60 tk_MOST_ROWS)))
    (z_MOST_LABELS : PySem.W.nsIn K mainGlobals "MOST_LABELS" = some (some (.int 6 tk_MOST_LABELS)))
    (z_MOST_SLOTS : PySem.W.nsIn K mainGlobals "MOST_SLOTS" = some (some (.int 4 tk_MOST_SLOTS)))
    (z_MOST_GATES : PySem.W.nsIn K mainGlobals "MOST_GATES" = some (some (.int 8 tk_MOST_GATES)))
    (z_MOST_EDITS : PySem.W.nsIn K mainGlobals "MOST_EDITS" = some (some (.int 4 tk_MOST_EDITS)))
    (z_DEEPEST : PySem.W.nsIn K mainGlobals "DEEPEST" = some (some (.int 5 tk_DEEPEST)))
    (A_SHAPES : PySem.W.nsIn K mainGlobals "SHAPES" = some (some (.ref p_SHAPES)))
    (L_SHAPES : K.lookup p_SHAPES = some ⟨.type "dict", none, .dict es_SHAPES en_SHAPES, #[]⟩)
    (E_SHAPES : Ents w.params es_SHAPES.toList (shapes.map fun p => (p.1, V.str p.2)))
    (S_SHAPES : (p_SHAPES == sysModules) = false)
    (opq : PySem.W.nsIn K cStatics "thirdparty.any" = some none)
    (sg : PySem.W.nsIn K mainGlobals "super" = some none)
    (A_InputError : PySem.W.nsIn K mainGlobals "InputError" = some (some (.ref c_InputError)))
    (A_OpenError : PySem.W.nsIn K mainGlobals "OpenError" = some (some (.ref c_OpenError)))
    (A_InvalidProgram : PySem.W.nsIn K mainGlobals "InvalidProgram" = some (some (.ref c_InvalidProgram)))
    (l_InvalidProgram : K.lookup c_InvalidProgram = some (excClassObj nm_InvalidProgram q_InvalidProgram c_InvalidProgram N_InvalidProgram bs_InvalidProgram [.ref c_InputError, .ref c_OpenError, .type "LookupError", .type "Exception", .type "BaseException", .type "object"] true sn_InvalidProgram sub_InvalidProgram ab_InvalidProgram col_InvalidProgram dd_InvalidProgram ka_InvalidProgram kb_InvalidProgram kc_InvalidProgram kd_InvalidProgram ke_InvalidProgram "LookupError.__new__"))
    (sa_InvalidProgram : PySem.W.findIn K (.ref c_InvalidProgram) "__setattr__" = some (some (.builtin "object.__setattr__")))
    (su_InvalidProgram : PySem.W.ks_superIn K c_InvalidProgram c_InvalidProgram "__init__" = some (some (.builtin "LookupError.__init__")))
    (ii_InvalidProgram : PySem.W.findIn K (.ref c_InvalidProgram) "__init__" = some (some (.ref i_InvalidProgram)))
    (ti_InvalidProgram : PySem.W.typeIn K (.ref i_InvalidProgram) = some (.type "function"))
    (lf_InvalidProgram : K.lookup i_InvalidProgram = some ⟨oc_InvalidProgram, od_InvalidProgram, .func (PySem.W.ksFn "__init__" "InvalidProgram.__init__" (defArgs s_InvalidProgram___init__) (defBody s_InvalidProgram___init__) (defScope s_InvalidProgram___init__) .none kV_InvalidProgram dc_InvalidProgram pm_InvalidProgram an_InvalidProgram (.ref cd_InvalidProgram) ct_InvalidProgram cc_InvalidProgram), sl_InvalidProgram⟩)
    (cf_InvalidProgram : PySem.W.codeIn K (.ref cd_InvalidProgram) "InvalidProgram.__init__" = true)
    (lc_InvalidProgram : K.lookup cc_InvalidProgram = some ⟨cll_InvalidProgram, cld_InvalidProgram, .cell (some (.ref c_InvalidProgram)), csl_InvalidProgram⟩)
    (ld_InvalidProgram : K.lookup cd_InvalidProgram = some ⟨ccl_InvalidProgram, cdd_InvalidProgram, .fields vs_InvalidProgram, ccs_InvalidProgram⟩)
    (v2_InvalidProgram : vs_InvalidProgram[2]? = some (.str fl_InvalidProgram tf_InvalidProgram))
    (fe_InvalidProgram : ((PP.main.file : Str) == fl_InvalidProgram) = true)
    (kp_InvalidProgram : PySem.W.keepIn K (.ref c_InvalidProgram) = true)
    (hg_InvalidProgram : PySem.W.findIn K (.ref c_InvalidProgram) "__getattribute__" = some (some (.builtin "BaseException.__getattribute__")))
    (hk_InvalidProgram : PySem.W.findIn K (.ref c_InvalidProgram) "__getattr__" = some none)
    (hs_InvalidProgram : PySem.W.subIn K (.ref c_InvalidProgram) (.type "BaseException") = some true)
    (hd_InvalidProgram : PySem.W.hasDictIn K c_InvalidProgram = true)
    (ty_InvalidProgram : PySem.W.typeIn K (.ref c_InvalidProgram) = some (.type "type"))
    (ic_InvalidProgram : PySem.W.isClsIn K c_InvalidProgram = true)
    (ss_InvalidProgram : PySem.W.subIn K (.ref c_InvalidProgram) (.ref c_InvalidProgram) = some true)
    (no_part_InvalidProgram : PySem.W.findIn K (.ref c_InvalidProgram) "part" = some none)
    (no_path_InvalidProgram : PySem.W.findIn K (.ref c_InvalidProgram) "path" = some none)
    (A_is_integer : PySem.W.nsIn K mainGlobals "is_integer" = some (some (.ref g_is_integer)))
    (L_is_integer : K.lookup g_is_integer = some ⟨xo_is_integer, xd_is_integer, .func (PySem.W.fnOf "is_integer" "is_integer" (defArgs s_is_integer) (defBody s_is_integer) (defScope s_is_integer) .none xk_is_integer xc_is_integer xp_is_integer xa_is_integer xe_is_integer xt_is_integer), xs_is_integer⟩)
    (D_is_integer : PySem.W.codeIn K xe_is_integer "is_integer" = true)
    (P_is_integer : PySem.W.keepIn K (.ref g_is_integer) = true)
    (A_is_word : PySem.W.nsIn K mainGlobals "is_word" = some (some (.ref g_is_word)))
    (L_is_word : K.lookup g_is_word = some ⟨xo_is_word, xd_is_word, .func (PySem.W.fnOf "is_word" "is_word" (defArgs s_is_word) (defBody s_is_word) (defScope s_is_word) .none xk_is_word xc_is_word xp_is_word xa_is_word xe_is_word xt_is_word), xs_is_word⟩)
    (D_is_word : PySem.W.codeIn K xe_is_word "is_word" = true)
    (P_is_word : PySem.W.keepIn K (.ref g_is_word) = true)
    (A_are_words : PySem.W.nsIn K mainGlobals "are_words" = some (some (.ref g_are_words)))
    (L_are_words : K.lookup g_are_words = some ⟨xo_are_words, xd_are_words, .func (PySem.W.fnOf "are_words" "are_words" (defArgs s_are_words) (defBody s_are_words) (defScope s_are_words) .none xk_are_words xc_are_words xp_are_words xa_are_words xe_are_words xt_are_words), xs_are_words⟩)
    (D_are_words : PySem.W.codeIn K xe_are_words "are_words" = true)
    (P_are_words : PySem.W.keepIn K (.ref g_are_words) = true)
    (A_is_branches : PySem.W.nsIn K mainGlobals "is_branches" = some (some (.ref g_is_branches)))
    (L_is_branches : K.lookup g_is_branches = some ⟨xo_is_branches, xd_is_branches, .func (PySem.W.fnOf "is_branches" "is_branches" (defArgs s_is_branches) (defBody s_is_branches) (defScope s_is_branches) .none xk_is_branches xc_is_branches xp_is_branches xa_is_branches xe_is_branches xt_is_branches), xs_is_branches⟩)
    (D_is_branches : PySem.W.codeIn K xe_is_branches "is_branches" = true)
    (P_is_branches : PySem.W.keepIn K (.ref g_is_branches) = true)
    (A_inner_lists : PySem.W.nsIn K mainGlobals "inner_lists" = some (some (.ref g_inner_lists)))
    (L_inner_lists : K.lookup g_inner_lists = some ⟨xo_inner_lists, xd_inner_lists, .func (PySem.W.fnOf "inner_lists" "inner_lists" (defArgs s_inner_lists) (defBody s_inner_lists) (defScope s_inner_lists) .none xk_inner_lists xc_inner_lists xp_inner_lists xa_inner_lists xe_inner_lists xt_inner_lists), xs_inner_lists⟩)
    (D_inner_lists : PySem.W.codeIn K xe_inner_lists "inner_lists" = true)
    (P_inner_lists : PySem.W.keepIn K (.ref g_inner_lists) = true)
    (A_with_lists : PySem.W.nsIn K mainGlobals "with_lists" = some (some (.ref g_with_lists)))
    (L_with_lists : K.lookup g_with_lists = some ⟨xo_with_lists, xd_with_lists, .func (PySem.W.fnOf "with_lists" "with_lists" (defArgs s_with_lists) (defBody s_with_lists) (defScope s_with_lists) .none xk_with_lists xc_with_lists xp_with_lists xa_with_lists xe_with_lists xt_with_lists), xs_with_lists⟩)
    (D_with_lists : PySem.W.codeIn K xe_with_lists "with_lists" = true)
    (P_with_lists : PySem.W.keepIn K (.ref g_with_lists) = true)
    (A_copy_row : PySem.W.nsIn K mainGlobals "copy_row" = some (some (.ref g_copy_row)))
    (L_copy_row : K.lookup g_copy_row = some ⟨xo_copy_row, xd_copy_row, .func (PySem.W.fnOf "copy_row" "copy_row" (defArgs s_copy_row) (defBody s_copy_row) (defScope s_copy_row) .none xk_copy_row xc_copy_row xp_copy_row xa_copy_row xe_copy_row xt_copy_row), xs_copy_row⟩)
    (D_copy_row : PySem.W.codeIn K xe_copy_row "copy_row" = true)
    (P_copy_row : PySem.W.keepIn K (.ref g_copy_row) = true)
    (A_copy_rows : PySem.W.nsIn K mainGlobals "copy_rows" = some (some (.ref g_copy_rows)))
    (L_copy_rows : K.lookup g_copy_rows = some ⟨xo_copy_rows, xd_copy_rows, .func (PySem.W.fnOf "copy_rows" "copy_rows" (defArgs s_copy_rows) (defBody s_copy_rows) (defScope s_copy_rows) .none xk_copy_rows xc_copy_rows xp_copy_rows xa_copy_rows xe_copy_rows xt_copy_rows), xs_copy_rows⟩)
    (D_copy_rows : PySem.W.codeIn K xe_copy_rows "copy_rows" = true)
    (P_copy_rows : PySem.W.keepIn K (.ref g_copy_rows) = true)
    (A_checked_asks : PySem.W.nsIn K mainGlobals "checked_asks" = some (some (.ref g_checked_asks)))
    (L_checked_asks : K.lookup g_checked_asks = some ⟨xo_checked_asks, xd_checked_asks, .func (PySem.W.fnOf "checked_asks" "checked_asks" (defArgs s_checked_asks) (defBody s_checked_asks) (defScope s_checked_asks) .none xk_checked_asks xc_checked_asks xp_checked_asks xa_checked_asks xe_checked_asks xt_checked_asks), xs_checked_asks⟩)
    (D_checked_asks : PySem.W.codeIn K xe_checked_asks "checked_asks" = true)
    (P_checked_asks : PySem.W.keepIn K (.ref g_checked_asks) = true)
    (A_is_box : PySem.W.nsIn K mainGlobals "is_box" = some (some (.ref g_is_box)))
    (L_is_box : K.lookup g_is_box = some ⟨xo_is_box, xd_is_box, .func (PySem.W.fnOf "is_box" "is_box" (defArgs s_is_box) (defBody s_is_box) (defScope s_is_box) .none xk_is_box xc_is_box xp_is_box xa_is_box xe_is_box xt_is_box), xs_is_box⟩)
    (D_is_box : PySem.W.codeIn K xe_is_box "is_box" = true)
    (P_is_box : PySem.W.keepIn K (.ref g_is_box) = true)
    (A_checked_signals : PySem.W.nsIn K mainGlobals "checked_signals" = some (some (.ref g_checked_signals)))
    (L_checked_signals : K.lookup g_checked_signals = some ⟨xo_checked_signals, xd_checked_signals, .func (PySem.W.fnOf "checked_signals" "checked_signals" (defArgs s_checked_signals) (defBody s_checked_signals) (defScope s_checked_signals) .none xk_checked_signals xc_checked_signals xp_checked_signals xa_checked_signals xe_checked_signals xt_checked_signals), xs_checked_signals⟩)
    (D_checked_signals : PySem.W.codeIn K xe_checked_signals "checked_signals" = true)
    (P_checked_signals : PySem.W.keepIn K (.ref g_checked_signals) = true)
    (A_checked_inputs : PySem.W.nsIn K mainGlobals "checked_inputs" = some (some (.ref g_checked_inputs)))
    (L_checked_inputs : K.lookup g_checked_inputs = some ⟨xo_checked_inputs, xd_checked_inputs, .func (PySem.W.fnOf "checked_inputs" "checked_inputs" (defArgs s_checked_inputs) (defBody s_checked_inputs) (defScope s_checked_inputs) .none xk_checked_inputs xc_checked_inputs xp_checked_inputs xa_checked_inputs xe_checked_inputs xt_checked_inputs), xs_checked_inputs⟩)
    (D_checked_inputs : PySem.W.codeIn K xe_checked_inputs "checked_inputs" = true)
    (P_checked_inputs : PySem.W.keepIn K (.ref g_checked_inputs) = true)
    (A__law_bag : PySem.W.nsIn K mainGlobals "_law_bag" = some (some (.ref g__law_bag)))
    (L__law_bag : K.lookup g__law_bag = some ⟨xo__law_bag, xd__law_bag, .func (PySem.W.fnOf "_law_bag" "_law_bag" (defArgs s__law_bag) (defBody s__law_bag) (defScope s__law_bag) .none xk__law_bag xc__law_bag xp__law_bag xa__law_bag xe__law_bag xt__law_bag), xs__law_bag⟩)
    (D__law_bag : PySem.W.codeIn K xe__law_bag "_law_bag" = true)
    (P__law_bag : PySem.W.keepIn K (.ref g__law_bag) = true)
    (A__law_draw : PySem.W.nsIn K mainGlobals "_law_draw" = some (some (.ref g__law_draw)))
    (L__law_draw : K.lookup g__law_draw = some ⟨xo__law_draw, xd__law_draw, .func (PySem.W.fnOf "_law_draw" "_law_draw" (defArgs s__law_draw) (defBody s__law_draw) (defScope s__law_draw) .none xk__law_draw xc__law_draw xp__law_draw xa__law_draw xe__law_draw xt__law_draw), xs__law_draw⟩)
    (D__law_draw : PySem.W.codeIn K xe__law_draw "_law_draw" = true)
    (P__law_draw : PySem.W.keepIn K (.ref g__law_draw) = true)
    (A__law_words : PySem.W.nsIn K mainGlobals "_law_words" = some (some (.ref g__law_words)))
    (L__law_words : K.lookup g__law_words = some ⟨xo__law_words, xd__law_words, .func (PySem.W.fnOf "_law_words" "_law_words" (defArgs s__law_words) (defBody s__law_words) (defScope s__law_words) .none xk__law_words xc__law_words xp__law_words xa__law_words xe__law_words xt__law_words), xs__law_words⟩)
    (D__law_words : PySem.W.codeIn K xe__law_words "_law_words" = true)
    (P__law_words : PySem.W.keepIn K (.ref g__law_words) = true)
    (A__law_same : PySem.W.nsIn K mainGlobals "_law_same" = some (some (.ref g__law_same)))
    (L__law_same : K.lookup g__law_same = some ⟨xo__law_same, xd__law_same, .func (PySem.W.fnOf "_law_same" "_law_same" (defArgs s__law_same) (defBody s__law_same) (defScope s__law_same) .none xk__law_same xc__law_same xp__law_same xa__law_same xe__law_same xt__law_same), xs__law_same⟩)
    (D__law_same : PySem.W.codeIn K xe__law_same "_law_same" = true)
    (P__law_same : PySem.W.keepIn K (.ref g__law_same) = true)
    (A__law_wrong_asks : PySem.W.nsIn K mainGlobals "_law_wrong_asks" = some (some (.ref g__law_wrong_asks)))
    (L__law_wrong_asks : K.lookup g__law_wrong_asks = some ⟨xo__law_wrong_asks, xd__law_wrong_asks, .func (PySem.W.fnOf "_law_wrong_asks" "_law_wrong_asks" (defArgs s__law_wrong_asks) (defBody s__law_wrong_asks) (defScope s__law_wrong_asks) .none xk__law_wrong_asks xc__law_wrong_asks xp__law_wrong_asks xa__law_wrong_asks xe__law_wrong_asks xt__law_wrong_asks), xs__law_wrong_asks⟩)
    (D__law_wrong_asks : PySem.W.codeIn K xe__law_wrong_asks "_law_wrong_asks" = true)
    (P__law_wrong_asks : PySem.W.keepIn K (.ref g__law_wrong_asks) = true)
    (A__law_wrong_signals : PySem.W.nsIn K mainGlobals "_law_wrong_signals" = some (some (.ref g__law_wrong_signals)))
    (L__law_wrong_signals : K.lookup g__law_wrong_signals = some ⟨xo__law_wrong_signals, xd__law_wrong_signals, .func (PySem.W.fnOf "_law_wrong_signals" "_law_wrong_signals" (defArgs s__law_wrong_signals) (defBody s__law_wrong_signals) (defScope s__law_wrong_signals) .none xk__law_wrong_signals xc__law_wrong_signals xp__law_wrong_signals xa__law_wrong_signals xe__law_wrong_signals xt__law_wrong_signals), xs__law_wrong_signals⟩)
    (D__law_wrong_signals : PySem.W.codeIn K xe__law_wrong_signals "_law_wrong_signals" = true)
    (P__law_wrong_signals : PySem.W.keepIn K (.ref g__law_wrong_signals) = true)
    (A__law_all_rows : PySem.W.nsIn K mainGlobals "_law_all_rows" = some (some (.ref g__law_all_rows)))
    (L__law_all_rows : K.lookup g__law_all_rows = some ⟨xo__law_all_rows, xd__law_all_rows, .func (PySem.W.fnOf "_law_all_rows" "_law_all_rows" (defArgs s__law_all_rows) (defBody s__law_all_rows) (defScope s__law_all_rows) .none xk__law_all_rows xc__law_all_rows xp__law_all_rows xa__law_all_rows xe__law_all_rows xt__law_all_rows), xs__law_all_rows⟩)
    (D__law_all_rows : PySem.W.codeIn K xe__law_all_rows "_law_all_rows" = true)
    (P__law_all_rows : PySem.W.keepIn K (.ref g__law_all_rows) = true)
    (A__law_fault : PySem.W.nsIn K mainGlobals "_law_fault" = some (some (.ref g__law_fault)))
    (L__law_fault : K.lookup g__law_fault = some ⟨xo__law_fault, xd__law_fault, .func (PySem.W.fnOf "_law_fault" "_law_fault" (defArgs s__law_fault) (defBody s__law_fault) (defScope s__law_fault) .none xk__law_fault xc__law_fault xp__law_fault xa__law_fault xe__law_fault xt__law_fault), xs__law_fault⟩)
    (D__law_fault : PySem.W.codeIn K xe__law_fault "_law_fault" = true)
    (P__law_fault : PySem.W.keepIn K (.ref g__law_fault) = true)
    (A_law : PySem.W.nsIn K mainGlobals "law" = some (some (.ref g_law)))
    (L_law : K.lookup g_law = some ⟨xo_law, xd_law, .func (PySem.W.fnOf "law" "law" (defArgs s_law) (defBody s_law) (defScope s_law) .none xk_law xc_law xp_law xa_law xe_law xt_law), xs_law⟩)
    (D_law : PySem.W.codeIn K xe_law "law" = true)
    (P_law : PySem.W.keepIn K (.ref g_law) = true)
    (A_RowCheck : PySem.W.nsIn K mainGlobals "RowCheck" = some (some (.ref c_RowCheck)))
    (c1_RowCheck : PySem.W.plainGet K c_RowCheck Str.empty = true)
    (c2_RowCheck : PySem.W.hasDictIn K c_RowCheck = true)
    (c3_RowCheck : PySem.W.plainOver K c_RowCheck = true)
    (c4_RowCheck : PySem.W.findIn K (.ref c_RowCheck) "__setattr__" = some (some (.builtin "object.__setattr__")))
    (n_RowCheck_known_asks : PySem.W.findIn K (.ref c_RowCheck) "known_asks" = some none)
    (n_RowCheck_known_signals : PySem.W.findIn K (.ref c_RowCheck) "known_signals" = some none)
    (n_RowCheck_with_edits : PySem.W.findIn K (.ref c_RowCheck) "with_edits" = some none)
    (n_RowCheck_total : PySem.W.findIn K (.ref c_RowCheck) "total" = some none)
    (n_RowCheck_label_words : PySem.W.findIn K (.ref c_RowCheck) "label_words" = some none)
    (n_RowCheck_slot_words : PySem.W.findIn K (.ref c_RowCheck) "slot_words" = some none)
    (n_RowCheck_gate_words : PySem.W.findIn K (.ref c_RowCheck) "gate_words" = some none)
    (n_RowCheck_edit_words : PySem.W.findIn K (.ref c_RowCheck) "edit_words" = some none)
    (mk_RowCheck : PySem.W.makesIn K c_RowCheck = true)
    (kp_RowCheck : PySem.W.keepIn K (.ref c_RowCheck) = true)
    (at_RowCheck___init__ : PySem.W.findIn K (.ref c_RowCheck) "__init__" = some (some (.ref m_RowCheck___init__)))
    (fn_RowCheck___init__ : PySem.W.isFn K (.ref m_RowCheck___init__) = true)
    (L_RowCheck___init__ : K.lookup m_RowCheck___init__ = some ⟨xo_RowCheck___init__, xd_RowCheck___init__, .func (PySem.W.fnOf "__init__" "RowCheck.__init__" (defArgs s_RowCheck___init__) (defBody s_RowCheck___init__) (defScope s_RowCheck___init__) .none xk_RowCheck___init__ xc_RowCheck___init__ xp_RowCheck___init__ xa_RowCheck___init__ xe_RowCheck___init__ xt_RowCheck___init__), xs_RowCheck___init__⟩)
    (D_RowCheck___init__ : PySem.W.codeIn K xe_RowCheck___init__ "RowCheck.__init__" = true)
    (P_RowCheck___init__ : PySem.W.keepIn K (.ref m_RowCheck___init__) = true)
    (at_RowCheck_check : PySem.W.findIn K (.ref c_RowCheck) "check" = some (some (.ref m_RowCheck_check)))
    (fn_RowCheck_check : PySem.W.isFn K (.ref m_RowCheck_check) = true)
    (L_RowCheck_check : K.lookup m_RowCheck_check = some ⟨xo_RowCheck_check, xd_RowCheck_check, .func (PySem.W.fnOf "check" "RowCheck.check" (defArgs s_RowCheck_check) (defBody s_RowCheck_check) (defScope s_RowCheck_check) .none xk_RowCheck_check xc_RowCheck_check xp_RowCheck_check xa_RowCheck_check xe_RowCheck_check xt_RowCheck_check), xs_RowCheck_check⟩)
    (D_RowCheck_check : PySem.W.codeIn K xe_RowCheck_check "RowCheck.check" = true)
    (P_RowCheck_check : PySem.W.keepIn K (.ref m_RowCheck_check) = true)
    (at_RowCheck_check_sizes : PySem.W.findIn K (.ref c_RowCheck) "check_sizes" = some (some (.ref m_RowCheck_check_sizes)))
    (fn_RowCheck_check_sizes : PySem.W.isFn K (.ref m_RowCheck_check_sizes) = true)
    (L_RowCheck_check_sizes : K.lookup m_RowCheck_check_sizes = some ⟨xo_RowCheck_check_sizes, xd_RowCheck_check_sizes, .func (PySem.W.fnOf "check_sizes" "RowCheck.check_sizes" (defArgs s_RowCheck_check_sizes) (defBody s_RowCheck_check_sizes) (defScope s_RowCheck_check_sizes) .none xk_RowCheck_check_sizes xc_RowCheck_check_sizes xp_RowCheck_check_sizes xa_RowCheck_check_sizes xe_RowCheck_check_sizes xt_RowCheck_check_sizes), xs_RowCheck_check_sizes⟩)
    (D_RowCheck_check_sizes : PySem.W.codeIn K xe_RowCheck_check_sizes "RowCheck.check_sizes" = true)
    (P_RowCheck_check_sizes : PySem.W.keepIn K (.ref m_RowCheck_check_sizes) = true)
    (at_RowCheck_check_list : PySem.W.findIn K (.ref c_RowCheck) "check_list" = some (some (.ref m_RowCheck_check_list)))
    (fn_RowCheck_check_list : PySem.W.isFn K (.ref m_RowCheck_check_list) = true)
    (L_RowCheck_check_list : K.lookup m_RowCheck_check_list = some ⟨xo_RowCheck_check_list, xd_RowCheck_check_list, .func (PySem.W.fnOf "check_list" "RowCheck.check_list" (defArgs s_RowCheck_check_list) (defBody s_RowCheck_check_list) (defScope s_RowCheck_check_list) .none xk_RowCheck_check_list xc_RowCheck_check_list xp_RowCheck_check_list xa_RowCheck_check_list xe_RowCheck_check_list xt_RowCheck_check_list), xs_RowCheck_check_list⟩)
    (D_RowCheck_check_list : PySem.W.codeIn K xe_RowCheck_check_list "RowCheck.check_list" = true)
    (P_RowCheck_check_list : PySem.W.keepIn K (.ref m_RowCheck_check_list) = true)
    (at_RowCheck_fits : PySem.W.findIn K (.ref c_RowCheck) "fits" = some (some (.ref m_RowCheck_fits)))
    (fn_RowCheck_fits : PySem.W.isFn K (.ref m_RowCheck_fits) = true)
    (L_RowCheck_fits : K.lookup m_RowCheck_fits = some ⟨xo_RowCheck_fits, xd_RowCheck_fits, .func (PySem.W.fnOf "fits" "RowCheck.fits" (defArgs s_RowCheck_fits) (defBody s_RowCheck_fits) (defScope s_RowCheck_fits) .none xk_RowCheck_fits xc_RowCheck_fits xp_RowCheck_fits xa_RowCheck_fits xe_RowCheck_fits xt_RowCheck_fits), xs_RowCheck_fits⟩)
    (D_RowCheck_fits : PySem.W.codeIn K xe_RowCheck_fits "RowCheck.fits" = true)
    (P_RowCheck_fits : PySem.W.keepIn K (.ref m_RowCheck_fits) = true)
    (at_RowCheck_id_fits : PySem.W.findIn K (.ref c_RowCheck) "id_fits" = some (some (.ref m_RowCheck_id_fits)))
    (fn_RowCheck_id_fits : PySem.W.isFn K (.ref m_RowCheck_id_fits) = true)
    (L_RowCheck_id_fits : K.lookup m_RowCheck_id_fits = some ⟨xo_RowCheck_id_fits, xd_RowCheck_id_fits, .func (PySem.W.fnOf "id_fits" "RowCheck.id_fits" (defArgs s_RowCheck_id_fits) (defBody s_RowCheck_id_fits) (defScope s_RowCheck_id_fits) .none xk_RowCheck_id_fits xc_RowCheck_id_fits xp_RowCheck_id_fits xa_RowCheck_id_fits xe_RowCheck_id_fits xt_RowCheck_id_fits), xs_RowCheck_id_fits⟩)
    (D_RowCheck_id_fits : PySem.W.codeIn K xe_RowCheck_id_fits "RowCheck.id_fits" = true)
    (P_RowCheck_id_fits : PySem.W.keepIn K (.ref m_RowCheck_id_fits) = true)
    (at_RowCheck_part_fits : PySem.W.findIn K (.ref c_RowCheck) "part_fits" = some (some (.ref m_RowCheck_part_fits)))
    (fn_RowCheck_part_fits : PySem.W.isFn K (.ref m_RowCheck_part_fits) = true)
    (L_RowCheck_part_fits : K.lookup m_RowCheck_part_fits = some ⟨xo_RowCheck_part_fits, xd_RowCheck_part_fits, .func (PySem.W.fnOf "part_fits" "RowCheck.part_fits" (defArgs s_RowCheck_part_fits) (defBody s_RowCheck_part_fits) (defScope s_RowCheck_part_fits) .none xk_RowCheck_part_fits xc_RowCheck_part_fits xp_RowCheck_part_fits xa_RowCheck_part_fits xe_RowCheck_part_fits xt_RowCheck_part_fits), xs_RowCheck_part_fits⟩)
    (D_RowCheck_part_fits : PySem.W.codeIn K xe_RowCheck_part_fits "RowCheck.part_fits" = true)
    (P_RowCheck_part_fits : PySem.W.keepIn K (.ref m_RowCheck_part_fits) = true)
    (at_RowCheck_collect : PySem.W.findIn K (.ref c_RowCheck) "collect" = some (some (.ref m_RowCheck_collect)))
    (fn_RowCheck_collect : PySem.W.isFn K (.ref m_RowCheck_collect) = true)
    (L_RowCheck_collect : K.lookup m_RowCheck_collect = some ⟨xo_RowCheck_collect, xd_RowCheck_collect, .func (PySem.W.fnOf "collect" "RowCheck.collect" (defArgs s_RowCheck_collect) (defBody s_RowCheck_collect) (defScope s_RowCheck_collect) .none xk_RowCheck_collect xc_RowCheck_collect xp_RowCheck_collect xa_RowCheck_collect xe_RowCheck_collect xt_RowCheck_collect), xs_RowCheck_collect⟩)
    (D_RowCheck_collect : PySem.W.codeIn K xe_RowCheck_collect "RowCheck.collect" = true)
    (P_RowCheck_collect : PySem.W.keepIn K (.ref m_RowCheck_collect) = true)
    (A_Program : PySem.W.nsIn K mainGlobals "Program" = some (some (.ref c_Program)))
    (c1_Program : PySem.W.plainGet K c_Program Str.empty = true)
    (c2_Program : PySem.W.hasDictIn K c_Program = true)
    (c3_Program : PySem.W.plainOver K c_Program = true)
    (c4_Program : PySem.W.findIn K (.ref c_Program) "__setattr__" = some (some (.builtin "object.__setattr__")))
    (n_Program_ask_table : PySem.W.findIn K (.ref c_Program) "ask_table" = some none)
    (n_Program_signal_table : PySem.W.findIn K (.ref c_Program) "signal_table" = some none)
    (n_Program_input_words : PySem.W.findIn K (.ref c_Program) "input_words" = some none)
    (n_Program_row_list : PySem.W.findIn K (.ref c_Program) "row_list" = some none)
    (n_Program_label_names : PySem.W.findIn K (.ref c_Program) "label_names" = some none)
    (n_Program_slot_names : PySem.W.findIn K (.ref c_Program) "slot_names" = some none)
    (n_Program_gate_names : PySem.W.findIn K (.ref c_Program) "gate_names" = some none)
    (n_Program_row_table : PySem.W.findIn K (.ref c_Program) "row_table" = some none)
    (n_Program_list_sizes : PySem.W.findIn K (.ref c_Program) "list_sizes" = some none)
    (mk_Program : PySem.W.makesIn K c_Program = true)
    (kp_Program : PySem.W.keepIn K (.ref c_Program) = true)
    (at_Program___init__ : PySem.W.findIn K (.ref c_Program) "__init__" = some (some (.ref m_Program___init__)))
    (fn_Program___init__ : PySem.W.isFn K (.ref m_Program___init__) = true)
    (L_Program___init__ : K.lookup m_Program___init__ = some ⟨xo_Program___init__, xd_Program___init__, .func (PySem.W.fnOf "__init__" "Program.__init__" (defArgs s_Program___init__) (defBody s_Program___init__) (defScope s_Program___init__) .none xk_Program___init__ xc_Program___init__ xp_Program___init__ xa_Program___init__ xe_Program___init__ xt_Program___init__), xs_Program___init__⟩)
    (D_Program___init__ : PySem.W.codeIn K xe_Program___init__ "Program.__init__" = true)
    (P_Program___init__ : PySem.W.keepIn K (.ref m_Program___init__) = true)
    (at_Program_add_rows : PySem.W.findIn K (.ref c_Program) "add_rows" = some (some (.ref m_Program_add_rows)))
    (fn_Program_add_rows : PySem.W.isFn K (.ref m_Program_add_rows) = true)
    (L_Program_add_rows : K.lookup m_Program_add_rows = some ⟨xo_Program_add_rows, xd_Program_add_rows, .func (PySem.W.fnOf "add_rows" "Program.add_rows" (defArgs s_Program_add_rows) (defBody s_Program_add_rows) (defScope s_Program_add_rows) .none xk_Program_add_rows xc_Program_add_rows xp_Program_add_rows xa_Program_add_rows xe_Program_add_rows xt_Program_add_rows), xs_Program_add_rows⟩)
    (D_Program_add_rows : PySem.W.codeIn K xe_Program_add_rows "Program.add_rows" = true)
    (P_Program_add_rows : PySem.W.keepIn K (.ref m_Program_add_rows) = true)
    (at_Program___len__ : PySem.W.findIn K (.ref c_Program) "__len__" = some (some (.ref m_Program___len__)))
    (fn_Program___len__ : PySem.W.isFn K (.ref m_Program___len__) = true)
    (L_Program___len__ : K.lookup m_Program___len__ = some ⟨xo_Program___len__, xd_Program___len__, .func (PySem.W.fnOf "__len__" "Program.__len__" (defArgs s_Program___len__) (defBody s_Program___len__) (defScope s_Program___len__) .none xk_Program___len__ xc_Program___len__ xp_Program___len__ xa_Program___len__ xe_Program___len__ xt_Program___len__), xs_Program___len__⟩)
    (D_Program___len__ : PySem.W.codeIn K xe_Program___len__ "Program.__len__" = true)
    (P_Program___len__ : PySem.W.keepIn K (.ref m_Program___len__) = true)
    : ∃ fd : FuncData, (∀ (s : Shared) (v : Value), BindsTo s fd ⟨[v], []⟩ [("_law_script", v)]) ∧ ∀ base : Heap, K.In base → base.Ns mainGlobals mg → FnOk PP w K mg base CX0 16 fa fd ["_law_script"] (spLaw K) := by
  have e := hfa.symm.trans (PySem.W.mg_of X G A_law)
  cases e
  have X_InvalidProgram : XCls PP K c_InvalidProgram := ⟨⟨_, _, _, _, _, _, _, _, _, _, _, _, _, _, _, l_InvalidProgram, rfl⟩, sa_InvalidProgram, su_InvalidProgram, opq, sg, by decide +kernel⟩
  have Y_InvalidProgram : XFn PP K c_InvalidProgram i_InvalidProgram "InvalidProgram.__init__" (defArgs s_InvalidProgram___init__) (defBody s_InvalidProgram___init__) (defScope s_InvalidProgram___init__) := ⟨⟨_, _, _, _, _, _, _, _, _, _, _, _, _, _, _, _, _, _, _, lf_InvalidProgram, cf_InvalidProgram, lc_InvalidProgram, ld_InvalidProgram, v2_InvalidProgram, fe_InvalidProgram⟩, ii_InvalidProgram, ti_InvalidProgram⟩
  have xm_InvalidProgram := Xm_InvalidProgram (w := w) X_InvalidProgram Y_InvalidProgram no_part_InvalidProgram no_path_InvalidProgram
  have ex_InvalidProgram := exm_own hs_InvalidProgram ic_InvalidProgram ty_InvalidProgram ss_InvalidProgram
  have xf_InvalidProgram : XfC K c_InvalidProgram := ⟨hg_InvalidProgram, hk_InvalidProgram, hs_InvalidProgram, hd_InvalidProgram⟩
  have F_is_integer := fun_mk (st := s_is_integer) L_is_integer D_is_integer P_is_integer
  have B_is_integer := F_is_integer.binds (ps := ["value"]) fun _ _ _ _ _ _ us hl => match us, hl with | [_], _ => rfl
  have F_is_word := fun_mk (st := s_is_word) L_is_word D_is_word P_is_word
  have B_is_word := F_is_word.binds (ps := ["value"]) fun _ _ _ _ _ _ us hl => match us, hl with | [_], _ => rfl
  have F_are_words := fun_mk (st := s_are_words) L_are_words D_are_words P_are_words
  have B_are_words := F_are_words.binds (ps := ["value", "most"]) fun _ _ _ _ _ _ us hl => match us, hl with | [_, _], _ => rfl
  have F_is_branches := fun_mk (st := s_is_branches) L_is_branches D_is_branches P_is_branches
  have B_is_branches := F_is_branches.binds (ps := ["value"]) fun _ _ _ _ _ _ us hl => match us, hl with | [_], _ => rfl
  have F_inner_lists := fun_mk (st := s_inner_lists) L_inner_lists D_inner_lists P_inner_lists
  have B_inner_lists := F_inner_lists.binds (ps := ["row"]) fun _ _ _ _ _ _ us hl => match us, hl with | [_], _ => rfl
  have F_with_lists := fun_mk (st := s_with_lists) L_with_lists D_with_lists P_with_lists
  have B_with_lists := F_with_lists.binds (ps := ["row", "lists"]) fun _ _ _ _ _ _ us hl => match us, hl with | [_, _], _ => rfl
  have F_copy_row := fun_mk (st := s_copy_row) L_copy_row D_copy_row P_copy_row
  have B_copy_row := F_copy_row.binds (ps := ["row"]) fun _ _ _ _ _ _ us hl => match us, hl with | [_], _ => rfl
  have F_copy_rows := fun_mk (st := s_copy_rows) L_copy_rows D_copy_rows P_copy_rows
  have B_copy_rows := F_copy_rows.binds (ps := ["rows"]) fun _ _ _ _ _ _ us hl => match us, hl with | [_], _ => rfl
  have F_checked_asks := fun_mk (st := s_checked_asks) L_checked_asks D_checked_asks P_checked_asks
  have B_checked_asks := F_checked_asks.binds (ps := ["value"]) fun _ _ _ _ _ _ us hl => match us, hl with | [_], _ => rfl
  have F_is_box := fun_mk (st := s_is_box) L_is_box D_is_box P_is_box
  have B_is_box := F_is_box.binds (ps := ["value"]) fun _ _ _ _ _ _ us hl => match us, hl with | [_], _ => rfl
  have F_checked_signals := fun_mk (st := s_checked_signals) L_checked_signals D_checked_signals P_checked_signals
  have B_checked_signals := F_checked_signals.binds (ps := ["value"]) fun _ _ _ _ _ _ us hl => match us, hl with | [_], _ => rfl
  have F_checked_inputs := fun_mk (st := s_checked_inputs) L_checked_inputs D_checked_inputs P_checked_inputs
  have B_checked_inputs := F_checked_inputs.binds (ps := ["value"]) fun _ _ _ _ _ _ us hl => match us, hl with | [_], _ => rfl
  have F__law_bag := fun_mk (st := s__law_bag) L__law_bag D__law_bag P__law_bag
  have B__law_bag := F__law_bag.binds (ps := ["_law_script"]) fun _ _ _ _ _ _ us hl => match us, hl with | [_], _ => rfl
  have F__law_draw := fun_mk (st := s__law_draw) L__law_draw D__law_draw P__law_draw
  have B__law_draw := F__law_draw.binds (ps := ["_law_bag_here", "_law_many"]) fun _ _ _ _ _ _ us hl => match us, hl with | [_, _], _ => rfl
  have F__law_words := fun_mk (st := s__law_words) L__law_words D__law_words P__law_words
  have B__law_words := F__law_words.binds (ps := ["_law_bag_here", "_law_many", "_law_most", "_law_taken"]) fun _ _ _ _ _ _ us hl => match us, hl with | [_, _, _, _], _ => rfl
  have F__law_same := fun_mk (st := s__law_same) L__law_same D__law_same P__law_same
  have B__law_same := F__law_same.binds (ps := ["_law_told", "_law_due"]) fun _ _ _ _ _ _ us hl => match us, hl with | [_, _], _ => rfl
  have F__law_wrong_asks := fun_mk (st := s__law_wrong_asks) L__law_wrong_asks D__law_wrong_asks P__law_wrong_asks
  have B__law_wrong_asks := F__law_wrong_asks.binds (ps := ["_law_bag_here", "_law_answers"]) fun _ _ _ _ _ _ us hl => match us, hl with | [_, _], _ => rfl
  have F__law_wrong_signals := fun_mk (st := s__law_wrong_signals) L__law_wrong_signals D__law_wrong_signals P__law_wrong_signals
  have B__law_wrong_signals := F__law_wrong_signals.binds (ps := ["_law_bag_here", "_law_boxes"]) fun _ _ _ _ _ _ us hl => match us, hl with | [_, _], _ => rfl
  have F__law_all_rows := fun_mk (st := s__law_all_rows) L__law_all_rows D__law_all_rows P__law_all_rows
  have B__law_all_rows := F__law_all_rows.binds (ps := ["_law_bag_here", "_law_faults"]) fun _ _ _ _ _ _ us hl => match us, hl with | [_, _], _ => rfl
  have F__law_fault := fun_mk (st := s__law_fault) L__law_fault D__law_fault P__law_fault
  have B__law_fault := F__law_fault.binds (ps := ["_law_rows", "_law_answers", "_law_boxes", "_law_words_here"]) fun _ _ _ _ _ _ us hl => match us, hl with | [_, _, _, _], _ => rfl
  have F_law := fun_mk (st := s_law) L_law D_law P_law
  have B_law := F_law.binds (ps := ["_law_script"]) fun _ _ _ _ _ _ us hl => match us, hl with | [_], _ => rfl
  have cls_RowCheck : Cls K c_RowCheck := ⟨c1_RowCheck, c2_RowCheck, c3_RowCheck, c4_RowCheck⟩
  have F_RowCheck___init__ := fun_mk (st := s_RowCheck___init__) L_RowCheck___init__ D_RowCheck___init__ P_RowCheck___init__
  have B_RowCheck___init__ := F_RowCheck___init__.binds (ps := ["self", "asks", "signals", "with_edits"]) fun _ _ _ _ _ _ us hl => match us, hl with | [_, _, _, _], _ => rfl
  have M_RowCheck : Mk K c_RowCheck m_RowCheck___init__ := ⟨mk_RowCheck, at_RowCheck___init__, fn_RowCheck___init__, kp_RowCheck⟩
  have F_RowCheck_check := fun_mk (st := s_RowCheck_check) L_RowCheck_check D_RowCheck_check P_RowCheck_check
  have B_RowCheck_check := F_RowCheck_check.binds (ps := ["self", "rows"]) fun _ _ _ _ _ _ us hl => match us, hl with | [_, _], _ => rfl
  have M_RowCheck_check : Meth K c_RowCheck "check" m_RowCheck_check := ⟨at_RowCheck_check, fn_RowCheck_check, P_RowCheck_check⟩
  have F_RowCheck_check_sizes := fun_mk (st := s_RowCheck_check_sizes) L_RowCheck_check_sizes D_RowCheck_check_sizes P_RowCheck_check_sizes
  have B_RowCheck_check_sizes := F_RowCheck_check_sizes.binds (ps := ["self"]) fun _ _ _ _ _ _ us hl => match us, hl with | [_], _ => rfl
  have M_RowCheck_check_sizes : Meth K c_RowCheck "check_sizes" m_RowCheck_check_sizes := ⟨at_RowCheck_check_sizes, fn_RowCheck_check_sizes, P_RowCheck_check_sizes⟩
  have F_RowCheck_check_list := fun_mk (st := s_RowCheck_check_list) L_RowCheck_check_list D_RowCheck_check_list P_RowCheck_check_list
  have B_RowCheck_check_list := F_RowCheck_check_list.binds (ps := ["self", "rows", "prefix", "depth", "in_loop"]) fun _ _ _ _ _ _ us hl => match us, hl with | [_, _, _, _, _], _ => rfl
  have M_RowCheck_check_list : Meth K c_RowCheck "check_list" m_RowCheck_check_list := ⟨at_RowCheck_check_list, fn_RowCheck_check_list, P_RowCheck_check_list⟩
  have F_RowCheck_fits := fun_mk (st := s_RowCheck_fits) L_RowCheck_fits D_RowCheck_fits P_RowCheck_fits
  have B_RowCheck_fits := F_RowCheck_fits.binds (ps := ["self", "row", "depth", "in_loop"]) fun _ _ _ _ _ _ us hl => match us, hl with | [_, _, _, _], _ => rfl
  have M_RowCheck_fits : Meth K c_RowCheck "fits" m_RowCheck_fits := ⟨at_RowCheck_fits, fn_RowCheck_fits, P_RowCheck_fits⟩
  have F_RowCheck_id_fits := fun_mk (st := s_RowCheck_id_fits) L_RowCheck_id_fits D_RowCheck_id_fits P_RowCheck_id_fits
  have B_RowCheck_id_fits := F_RowCheck_id_fits.binds (ps := ["self", "row"]) fun _ _ _ _ _ _ us hl => match us, hl with | [_, _], _ => rfl
  have M_RowCheck_id_fits : Meth K c_RowCheck "id_fits" m_RowCheck_id_fits := ⟨at_RowCheck_id_fits, fn_RowCheck_id_fits, P_RowCheck_id_fits⟩
  have F_RowCheck_part_fits := fun_mk (st := s_RowCheck_part_fits) L_RowCheck_part_fits D_RowCheck_part_fits P_RowCheck_part_fits
  have B_RowCheck_part_fits := F_RowCheck_part_fits.binds (ps := ["self", "code", "part"]) fun _ _ _ _ _ _ us hl => match us, hl with | [_, _, _], _ => rfl
  have M_RowCheck_part_fits : Meth K c_RowCheck "part_fits" m_RowCheck_part_fits := ⟨at_RowCheck_part_fits, fn_RowCheck_part_fits, P_RowCheck_part_fits⟩
  have F_RowCheck_collect := fun_mk (st := s_RowCheck_collect) L_RowCheck_collect D_RowCheck_collect P_RowCheck_collect
  have B_RowCheck_collect := F_RowCheck_collect.binds (ps := ["self", "row"]) fun _ _ _ _ _ _ us hl => match us, hl with | [_, _], _ => rfl
  have M_RowCheck_collect : Meth K c_RowCheck "collect" m_RowCheck_collect := ⟨at_RowCheck_collect, fn_RowCheck_collect, P_RowCheck_collect⟩
  have cls_Program : Cls K c_Program := ⟨c1_Program, c2_Program, c3_Program, c4_Program⟩
  have F_Program___init__ := fun_mk (st := s_Program___init__) L_Program___init__ D_Program___init__ P_Program___init__
  have M_Program : Mk K c_Program m_Program___init__ := ⟨mk_Program, at_Program___init__, fn_Program___init__, kp_Program⟩
  have F_Program_add_rows := fun_mk (st := s_Program_add_rows) L_Program_add_rows D_Program_add_rows P_Program_add_rows
  have B_Program_add_rows := F_Program_add_rows.binds (ps := ["self", "rows", "prefix"]) fun _ _ _ _ _ _ us hl => match us, hl with | [_, _, _], _ => rfl
  have M_Program_add_rows : Meth K c_Program "add_rows" m_Program_add_rows := ⟨at_Program_add_rows, fn_Program_add_rows, P_Program_add_rows⟩
  have F_Program___len__ := fun_mk (st := s_Program___len__) L_Program___len__ D_Program___len__ P_Program___len__
  have B_Program___len__ := F_Program___len__.binds (ps := ["self"]) fun _ _ _ _ _ _ us hl => match us, hl with | [_], _ => rfl
  have M_Program___len__ : Meth K c_Program "__len__" m_Program___len__ := ⟨at_Program___len__, fn_Program___len__, P_Program___len__⟩
  have T0 : Txt mg := { b_len := PySem.W.mg_none_of X G z_len, b_int := PySem.W.mg_none_of X G z_int, b_bool := PySem.W.mg_none_of X G z_bool, b_str := PySem.W.mg_none_of X G z_str, b_list := PySem.W.mg_none_of X G z_list, b_tuple := PySem.W.mg_none_of X G z_tuple, b_dict := PySem.W.mg_none_of X G z_dict, b_set := PySem.W.mg_none_of X G z_set, b_range := PySem.W.mg_none_of X G z_range, b_zip := PySem.W.mg_none_of X G z_zip, b_enumerate := PySem.W.mg_none_of X G z_enumerate, b_sorted := PySem.W.mg_none_of X G z_sorted, b_isinstance := PySem.W.mg_none_of X G z_isinstance, g_LETTERS := ⟨_, PySem.W.mg_of X G z_LETTERS⟩ }
  have T : TxtC PP w K mg p_SHAPES c_InvalidProgram := { T0 with g_SHAPES := PySem.W.mg_of X G A_SHAPES, w_SHAPES := ⟨_, _, L_SHAPES, E_SHAPES, S_SHAPES⟩, g_MOST_ROWS := ⟨_, PySem.W.mg_of X G z_MOST_ROWS⟩, g_MOST_LABELS := ⟨_, PySem.W.mg_of X G z_MOST_LABELS⟩, g_MOST_SLOTS := ⟨_, PySem.W.mg_of X G z_MOST_SLOTS⟩, g_MOST_GATES := ⟨_, PySem.W.mg_of X G z_MOST_GATES⟩, g_MOST_EDITS := ⟨_, PySem.W.mg_of X G z_MOST_EDITS⟩, g_DEEPEST := ⟨_, PySem.W.mg_of X G z_DEEPEST⟩, g_InvalidProgram := PySem.W.mg_of X G A_InvalidProgram, k_InvalidProgram := kp_InvalidProgram, mk_InvalidProgram := xm_InvalidProgram.1, r_InvalidProgram := fun _ _ k => ⟨PySem.W.looks_subIn k hs_InvalidProgram, PySem.W.looks_typeIn k ty_InvalidProgram⟩ }
  have rc : RcC K c_RowCheck := ⟨cls_RowCheck, n_RowCheck_known_asks, n_RowCheck_known_signals, n_RowCheck_with_edits, n_RowCheck_total, n_RowCheck_label_words, n_RowCheck_slot_words, n_RowCheck_gate_words, n_RowCheck_edit_words⟩
  have pc : PgC K c_Program := ⟨cls_Program, n_Program_ask_table, n_Program_signal_table, n_Program_input_words, n_Program_row_list, n_Program_label_names, n_Program_slot_names, n_Program_gate_names, n_Program_row_table, n_Program_list_sizes⟩
  refine ⟨PySem.W.fnOf "law" "law" (defArgs s_law) (defBody s_law) (defScope s_law) .none xk_law xc_law xp_law xa_law xe_law xt_law, fun s v => .of_eq rfl, fun base _ _ => ?_⟩
  have c_is_integer : Cal PP w K mg base CX0 1 "is_integer" ["value"] (spInt K) := ⟨g_is_integer, _, PySem.W.mg_of X G A_is_integer, P_is_integer, B_is_integer, ok_is_integer F_is_integer T0⟩
  have c_is_word : Cal PP w K mg base CX0 1 "is_word" ["value"] (spWord K) := ⟨g_is_word, _, PySem.W.mg_of X G A_is_word, P_is_word, B_is_word, ok_is_word F_is_word T0⟩
  have c_are_words : Cal PP w K mg base CX0 2 "are_words" ["value", "most"] (spAreWords K) := ⟨g_are_words, _, PySem.W.mg_of X G A_are_words, P_are_words, B_are_words, ok_are_words F_are_words T0 c_is_word⟩
  have c_is_branches : Cal PP w K mg base CX0 1 "is_branches" ["value"] (spBr K) := ⟨g_is_branches, _, PySem.W.mg_of X G A_is_branches, P_is_branches, B_is_branches, ok_is_branches F_is_branches T0⟩
  have c_inner_lists : Cal PP w K mg base CX0 1 "inner_lists" ["row"] (spInner K) := ⟨g_inner_lists, _, PySem.W.mg_of X G A_inner_lists, P_inner_lists, B_inner_lists, ok_inner_lists F_inner_lists T0⟩
  have c_with_lists : Cal PP w K mg base CX0 1 "with_lists" ["row", "lists"] (spWith K) := ⟨g_with_lists, _, PySem.W.mg_of X G A_with_lists, P_with_lists, B_with_lists, ok_with_lists F_with_lists T0⟩
  have c_copy_rows : Cal PP w K mg base CX0 11 "copy_rows" ["rows"] (spCRows K 5) := ok_copies F_copy_rows F_copy_row T0 (PySem.W.mg_of X G A_copy_rows) (PySem.W.mg_of X G A_copy_row) P_copy_rows P_copy_row B_copy_rows B_copy_row c_inner_lists c_with_lists 5
  have c_checked_asks : Cal PP w K mg base (L2.CX PP w) 3 "checked_asks" ["value"] (spTab K c_InvalidProgram "asks" (areWords 4) 6) := ⟨g_checked_asks, _, PySem.W.mg_of X G A_checked_asks, P_checked_asks, B_checked_asks, ok_checked_asks F_checked_asks T c_is_word c_are_words⟩
  have c_is_box : Cal PP w K mg base CX0 3 "is_box" ["value"] (spBox K) := ⟨g_is_box, _, PySem.W.mg_of X G A_is_box, P_is_box, B_is_box, ok_is_box F_is_box T0 c_is_integer c_are_words⟩
  have c_checked_signals : Cal PP w K mg base (L2.CX PP w) 4 "checked_signals" ["value"] (spTab K c_InvalidProgram "signals" isBox 3) := ⟨g_checked_signals, _, PySem.W.mg_of X G A_checked_signals, P_checked_signals, B_checked_signals, ok_checked_signals F_checked_signals T c_is_word c_is_box⟩
  have c_checked_inputs : Cal PP w K mg base (L2.CX PP w) 3 "checked_inputs" ["value"] (spInputs K c_InvalidProgram) := ⟨g_checked_inputs, _, PySem.W.mg_of X G A_checked_inputs, P_checked_inputs, B_checked_inputs, ok_checked_inputs F_checked_inputs T c_are_words⟩
  have m_part_fits : Mcal PP w K mg base CX0 3 c_RowCheck "part_fits" ["self", "code", "part"] (spPF K) := ⟨m_RowCheck_part_fits, _, M_RowCheck_part_fits, B_RowCheck_part_fits, ok_part_fits F_RowCheck_part_fits T0 c_is_word c_are_words c_is_branches⟩
  have m_id_fits : Mcal PP w K mg base CX0 1 c_RowCheck "id_fits" ["self", "row"] (spID K) := ⟨m_RowCheck_id_fits, _, M_RowCheck_id_fits, B_RowCheck_id_fits, ok_id_fits F_RowCheck_id_fits⟩
  have m_collect : Mcal PP w K mg base CX0 1 c_RowCheck "collect" ["self", "row"] (spCol K) := ⟨m_RowCheck_collect, _, M_RowCheck_collect, B_RowCheck_collect, ok_collect F_RowCheck_collect T⟩
  have m_fits : Mcal PP w K mg base CX0 4 c_RowCheck "fits" ["self", "row", "depth", "in_loop"] (spFits K c_RowCheck) := ⟨m_RowCheck_fits, _, M_RowCheck_fits, B_RowCheck_fits, ok_fits F_RowCheck_fits T rc m_part_fits m_id_fits⟩
  have m_check_list : Mcal PP w K mg base (L2.CX PP w) 11 c_RowCheck "check_list" ["self", "rows", "prefix", "depth", "in_loop"] (spCL K c_RowCheck c_InvalidProgram 5) := ⟨m_RowCheck_check_list, _, M_RowCheck_check_list, B_RowCheck_check_list, ok_check_list F_RowCheck_check_list T rc M_RowCheck_check_list B_RowCheck_check_list m_fits m_collect c_inner_lists 5⟩
  have m_check_sizes : Mcal PP w K mg base (L2.CX PP w) 1 c_RowCheck "check_sizes" ["self"] (spSizes K c_RowCheck c_InvalidProgram) := ⟨m_RowCheck_check_sizes, _, M_RowCheck_check_sizes, B_RowCheck_check_sizes, ok_check_sizes F_RowCheck_check_sizes T rc⟩
  have m_check : Mcal PP w K mg base (L2.CX PP w) 12 c_RowCheck "check" ["self", "rows"] (spCheck K c_RowCheck c_InvalidProgram) := ⟨m_RowCheck_check, _, M_RowCheck_check, B_RowCheck_check, ok_check F_RowCheck_check T rc m_check_list m_check_sizes⟩
  have k_RowCheck : Kcal PP w K mg base CX0 1 "RowCheck" c_RowCheck ["self", "asks", "signals", "with_edits"] (spRcInit K c_RowCheck) := ⟨m_RowCheck___init__, _, M_RowCheck, PySem.W.mg_of X G A_RowCheck, B_RowCheck___init__, ok_rcinit F_RowCheck___init__ rc⟩
  have c_inner_listsG : Cal PP w K mg base CX0 1 "inner_lists" ["row"] (spInnerG K) := ⟨g_inner_lists, _, PySem.W.mg_of X G A_inner_lists, P_inner_lists, B_inner_lists, ok_inner_listsG F_inner_lists T0⟩
  have m_add_rows : Mcal PP w K mg base CX0 7 c_Program "add_rows" ["self", "rows", "prefix"] (spAdd K c_Program 5) := ⟨m_Program_add_rows, _, M_Program_add_rows, B_Program_add_rows, ok_add_rows F_Program_add_rows T0 pc M_Program_add_rows B_Program_add_rows c_inner_listsG 5⟩
  have c_checked_asksO : Cal PP w K mg base (L2.CX PP w) 3 "checked_asks" ["value"] (spTabO K c_InvalidProgram) := ⟨g_checked_asks, _, PySem.W.mg_of X G A_checked_asks, P_checked_asks, B_checked_asks, ok_checked_asksO F_checked_asks T c_is_word c_are_words⟩
  have k_Program : KcalN PP w K mg base (L2.CX PP w) 13 "Program" c_Program ["self", "rows", "asks", "signals", "inputs"] 1 ["asks", "signals", "inputs"] (fun vs H Q X => spProg K c_Program c_InvalidProgram vs H Q X ∨ spProgO K c_Program c_InvalidProgram vs H Q X) := ⟨m_Program___init__, _, fun us ws => us ++ ws, M_Program, PySem.W.mg_of X G A_Program, ⟨fun s us ws _ l1 l2 => match us, l1, ws, l2 with | [_, _], _, [_, _, _], _ => .of_eq rfl, fun r1 r2 => vals_app r1 r2⟩, (ok_prog F_Program___init__ T pc rc c_checked_asks c_checked_signals c_checked_inputs k_RowCheck m_check c_copy_rows m_add_rows).or (ok_progO F_Program___init__ T c_checked_asksO)⟩
  have lc : LenC PP w K mg base c_Program := ⟨m_Program___len__, _, M_Program___len__.at_, M_Program___len__.fn, B_Program___len__, ok_plen F_Program___len__ T0 pc⟩
  have c__law_bag : Cal PP w K mg base CX0 1 "_law_bag" ["_law_script"] (spBag K) := ⟨g__law_bag, _, PySem.W.mg_of X G A__law_bag, P__law_bag, B__law_bag, ok_bag F__law_bag T0⟩
  have c__law_draw : Cal PP w K mg base CX0 1 "_law_draw" ["_law_bag_here", "_law_many"] spD := ⟨g__law_draw, _, PySem.W.mg_of X G A__law_draw, P__law_draw, B__law_draw, ok_draw F__law_draw T0⟩
  have c__law_words : Cal PP w K mg base CX0 2 "_law_words" ["_law_bag_here", "_law_many", "_law_most", "_law_taken"] (spWords K) := ⟨g__law_words, _, PySem.W.mg_of X G A__law_words, P__law_words, B__law_words, ok_words F__law_words T0 c__law_draw⟩
  have c__law_same : Cal PP w K mg base CX0 4 "_law_same" ["_law_told", "_law_due"] (spSame K 3) := ok_sameN F__law_same T0 (PySem.W.mg_of X G A__law_same) P__law_same B__law_same 3
  have c__law_wrong_asks : Cal PP w K mg base CX0 3 "_law_wrong_asks" ["_law_bag_here", "_law_answers"] (spWA K) := ⟨g__law_wrong_asks, _, PySem.W.mg_of X G A__law_wrong_asks, P__law_wrong_asks, B__law_wrong_asks, ok_wrong_asks F__law_wrong_asks T0 c__law_draw c__law_words⟩
  have c__law_wrong_signals : Cal PP w K mg base CX0 3 "_law_wrong_signals" ["_law_bag_here", "_law_boxes"] (spWS K) := ⟨g__law_wrong_signals, _, PySem.W.mg_of X G A__law_wrong_signals, P__law_wrong_signals, B__law_wrong_signals, ok_wrong_signals F__law_wrong_signals T0 c__law_draw c__law_words⟩
  have c__law_all_rows : Cal PP w K mg base CX0 3 "_law_all_rows" ["_law_bag_here", "_law_faults"] (spAll K) := ⟨g__law_all_rows, _, PySem.W.mg_of X G A__law_all_rows, P__law_all_rows, B__law_all_rows, ok_all_rows F__law_all_rows T0 c__law_draw c__law_words⟩
  have c__law_fault : Cal PP w K mg base CX0 15 "_law_fault" ["_law_rows", "_law_answers", "_law_boxes", "_law_words_here"] (spFault K) := ⟨g__law_fault, _, PySem.W.mg_of X G A__law_fault, P__law_fault, B__law_fault, ok_fault F__law_fault T xf_InvalidProgram no_part_InvalidProgram no_path_InvalidProgram ex_InvalidProgram lc k_Program⟩
  exact ok_law F_law T0 c__law_bag c__law_draw c__law_words c__law_all_rows c__law_wrong_asks c__law_wrong_signals c__law_fault c__law_same
theorem walk {q : Program} {loose : List Str} {XP : (Str → Option Value) → Heap → Prop} {YP : World → Heap → Prop} {d : DefRec} {K : Params → PySem.W.Frag} (hdf : d.params.defaults = [])
    (hY : ∀ (w : World) (h : Heap), YP w h → (K w.params).In h)
    (F : ∀ (w : World) (mg : Str → Option Value) (fa : Addr) (h : Heap), (K w.params).In h → h.Ns mainGlobals mg → mg d.name = some (.ref fa) →
      ∃ fd : FuncData, (∀ (s : Shared) (u : Value), BindsTo s fd ⟨[u], []⟩ [("_law_script", u)]) ∧ ∀ base : Heap, (K w.params).In base → base.Ns mainGlobals mg → FnOk PP w (K w.params) mg base CX0 16 fa fd ["_law_script"] (spLaw (K w.params))) :
    PySem.W.WalkO q loose XP YP PySem.Challenge.rw_openruns_k04_parts_in_order.row.toRowW d [] (fun f vs => PySem.call f vs) :=
  L2.walk_of (l := PySem.Challenge.rw_openruns_k04_parts_in_order) (n := 63) (k := 16) (x := "_law_script") (CX := fun _ => CX0) (sp := fun w => spLaw (K w.params)) rfl (by decide) hdf ⟨rfl, by decide, by decide⟩ hY F (fun _ _ a ns hl _ hS => ⟨a, ns, rfl, hS, hl, fun _ => rfl⟩) fun _ _ _ _ _ z => z
end Op
open PySem PySem.W PyProof.Rows
set_option maxRecDepth 100000 in
set_option maxHeartbeats 0 in
theorem PySem.Challenge.cw_openruns_k04_parts_in_order_holds : PySem.Challenge.rw_openruns_k04_parts_in_order.Holds := by
  w_on; o_law; k_head; (case hw => w_witness2)
  k_fill
  refine Op.walk rfl (fun w h Y => PySem.W.kIn_of Y) ?F
  case F =>
    intro w mg fa h KX G hmg
    refine' Op.all_mk KX G hmg ?z_len ?z_int ?z_bool ?z_str ?z_list ?z_tuple ?z_dict ?z_set ?z_range ?z_zip ?z_enumerate ?z_sorted ?z_isinstance ?z_LETTERS ?z_MOST_ROWS ?z_MOST_LABELS ?z_MOST_SLOTS ?z_MOST_GATES ?z_MOST_EDITS ?z_DEEPEST ?A_SHAPES ?L_SHAPES ?E_SHAPES ?S_SHAPES ?opq ?sg ?A_InputError ?A_OpenError ?A_InvalidProgram ?l_InvalidProgram ?sa_InvalidProgram ?su_InvalidProgram ?ii_InvalidProgram ?ti_InvalidProgram ?lf_InvalidProgram ?cf_InvalidProgram ?lc_InvalidProgram ?ld_InvalidProgram ?v2_InvalidProgram ?fe_InvalidProgram ?kp_InvalidProgram ?hg_InvalidProgram ?hk_InvalidProgram ?hs_InvalidProgram ?hd_InvalidProgram ?ty_InvalidProgram ?ic_InvalidProgram ?ss_InvalidProgram ?no_part_InvalidProgram ?no_path_InvalidProgram ?A_is_integer ?L_is_integer ?D_is_integer ?P_is_integer ?A_is_word ?L_is_word ?D_is_word ?P_is_word ?A_are_words ?L_are_words ?D_are_words ?P_are_words ?A_is_branches ?L_is_branches ?D_is_branches ?P_is_branches ?A_inner_lists ?L_inner_lists ?D_inner_lists ?P_inner_lists ?A_with_lists ?L_with_lists ?D_with_lists ?P_with_lists ?A_copy_row ?L_copy_row ?D_copy_row ?P_copy_row ?A_copy_rows ?L_copy_rows ?D_copy_rows ?P_copy_rows ?A_checked_asks ?L_checked_asks ?D_checked_asks ?P_checked_asks ?A_is_box ?L_is_box ?D_is_box ?P_is_box ?A_checked_signals ?L_checked_signals ?D_checked_signals ?P_checked_signals ?A_checked_inputs ?L_checked_inputs ?D_checked_inputs ?P_checked_inputs ?A__law_bag ?L__law_bag ?D__law_bag ?P__law_bag ?A__law_draw ?L__law_draw ?D__law_draw ?P__law_draw ?A__law_words ?L__law_words ?D__law_words ?P__law_words ?A__law_same ?L__law_same ?D__law_same ?P__law_same ?A__law_wrong_asks ?L__law_wrong_asks ?D__law_wrong_asks ?P__law_wrong_asks ?A__law_wrong_signals ?L__law_wrong_signals ?D__law_wrong_signals ?P__law_wrong_signals ?A__law_all_rows ?L__law_all_rows ?D__law_all_rows ?P__law_all_rows ?A__law_fault ?L__law_fault ?D__law_fault ?P__law_fault ?A_law ?L_law ?D_law ?P_law ?A_RowCheck ?c1_RowCheck ?c2_RowCheck ?c3_RowCheck ?c4_RowCheck ?n_RowCheck_known_asks ?n_RowCheck_known_signals ?n_RowCheck_with_edits ?n_RowCheck_total ?n_RowCheck_label_words ?n_RowCheck_slot_words ?n_RowCheck_gate_words ?n_RowCheck_edit_words ?mk_RowCheck ?kp_RowCheck ?at_RowCheck___init__ ?fn_RowCheck___init__ ?L_RowCheck___init__ ?D_RowCheck___init__ ?P_RowCheck___init__ ?at_RowCheck_check ?fn_RowCheck_check ?L_RowCheck_check ?D_RowCheck_check ?P_RowCheck_check ?at_RowCheck_check_sizes ?fn_RowCheck_check_sizes ?L_RowCheck_check_sizes ?D_RowCheck_check_sizes ?P_RowCheck_check_sizes ?at_RowCheck_check_list ?fn_RowCheck_check_list ?L_RowCheck_check_list ?D_RowCheck_check_list ?P_RowCheck_check_list ?at_RowCheck_fits ?fn_RowCheck_fits ?L_RowCheck_fits ?D_RowCheck_fits ?P_RowCheck_fits ?at_RowCheck_id_fits ?fn_RowCheck_id_fits ?L_RowCheck_id_fits ?D_RowCheck_id_fits ?P_RowCheck_id_fits ?at_RowCheck_part_fits ?fn_RowCheck_part_fits ?L_RowCheck_part_fits ?D_RowCheck_part_fits ?P_RowCheck_part_fits ?at_RowCheck_collect ?fn_RowCheck_collect ?L_RowCheck_collect ?D_RowCheck_collect ?P_RowCheck_collect ?A_Program ?c1_Program ?c2_Program ?c3_Program ?c4_Program ?n_Program_ask_table ?n_Program_signal_table ?n_Program_input_words ?n_Program_row_list ?n_Program_label_names ?n_Program_slot_names ?n_Program_gate_names ?n_Program_row_table ?n_Program_list_sizes ?mk_Program ?kp_Program ?at_Program___init__ ?fn_Program___init__ ?L_Program___init__ ?D_Program___init__ ?P_Program___init__ ?at_Program_add_rows ?fn_Program_add_rows ?L_Program_add_rows ?D_Program_add_rows ?P_Program_add_rows ?at_Program___len__ ?fn_Program___len__ ?L_Program___len__ ?D_Program___len__ ?P_Program___len__
    (case z_len => k_is)
    (case z_int => k_is)
    (case z_bool => k_is)
    (case z_str => k_is)
    (case z_list => k_is)
    (case z_tuple => k_is)
    (case z_dict => k_is)
    (case z_set => k_is)
    (case z_range => k_is)
    (case z_zip => k_is)
    (case z_enumerate => k_is)
    (case z_sorted => k_is)
    (case z_isinstance => k_is)
    (case z_LETTERS => k_is)
    (case z_MOST_ROWS => k_is)
    (case z_MOST_LABELS => k_is)
    (case z_MOST_SLOTS => k_is)
    (case z_MOST_GATES => k_is)
    (case z_MOST_EDITS => k_is)
    (case z_DEEPEST => k_is)
    (case A_SHAPES => k_is)
    (case L_SHAPES => k_is)
    (case E_SHAPES => exact ⟨⟨_, rfl, rfl⟩, ⟨_, rfl⟩, ⟨⟨_, rfl, rfl⟩, ⟨_, rfl⟩, ⟨⟨_, rfl, rfl⟩, ⟨_, rfl⟩, ⟨⟨_, rfl, rfl⟩, ⟨_, rfl⟩, ⟨⟨_, rfl, rfl⟩, ⟨_, rfl⟩, ⟨⟨_, rfl, rfl⟩, ⟨_, rfl⟩, ⟨⟨_, rfl, rfl⟩, ⟨_, rfl⟩, ⟨⟨_, rfl, rfl⟩, ⟨_, rfl⟩, ⟨⟨_, rfl, rfl⟩, ⟨_, rfl⟩, ⟨⟨_, rfl, rfl⟩, ⟨_, rfl⟩, ⟨⟨_, rfl, rfl⟩, ⟨_, rfl⟩, ⟨⟨_, rfl, rfl⟩, ⟨_, rfl⟩, ⟨⟨_, rfl, rfl⟩, ⟨_, rfl⟩, ⟨⟨_, rfl, rfl⟩, ⟨_, rfl⟩, ⟨⟨_, rfl, rfl⟩, ⟨_, rfl⟩, ⟨⟨_, rfl, rfl⟩, ⟨_, rfl⟩, ⟨⟨_, rfl, rfl⟩, ⟨_, rfl⟩, ⟨⟨_, rfl, rfl⟩, ⟨_, rfl⟩, trivial⟩⟩⟩⟩⟩⟩⟩⟩⟩⟩⟩⟩⟩⟩⟩⟩⟩⟩)
    (case S_SHAPES => rfl)
    (case opq => k_is)
    (case sg => k_is)
    (case A_InputError => k_is)
    (case A_OpenError => k_is)
    (case A_InvalidProgram => k_is)
    (case l_InvalidProgram => k_is)
    (case sa_InvalidProgram => k_is)
    (case su_InvalidProgram => rfl)
    (case ii_InvalidProgram => k_is)
    (case ti_InvalidProgram => k_is)
    (case lf_InvalidProgram => k_is)
    (case cf_InvalidProgram => k_is)
    (case lc_InvalidProgram => k_is)
    (case ld_InvalidProgram => k_is)
    (case v2_InvalidProgram => rfl)
    (case fe_InvalidProgram => decide +kernel)
    (case kp_InvalidProgram => k_is)
    (case hg_InvalidProgram => k_is)
    (case hk_InvalidProgram => k_is)
    (case hs_InvalidProgram => k_is)
    (case hd_InvalidProgram => k_is)
    (case ty_InvalidProgram => k_is)
    (case ic_InvalidProgram => k_is)
    (case ss_InvalidProgram => k_is)
    (case no_part_InvalidProgram => k_is)
    (case no_path_InvalidProgram => k_is)
    (case A_is_integer => k_is)
    (case L_is_integer => k_is)
    (case D_is_integer => k_is)
    (case P_is_integer => k_is)
    (case A_is_word => k_is)
    (case L_is_word => k_is)
    (case D_is_word => k_is)
    (case P_is_word => k_is)
    (case A_are_words => k_is)
    (case L_are_words => k_is)
    (case D_are_words => k_is)
    (case P_are_words => k_is)
    (case A_is_branches => k_is)
    (case L_is_branches => k_is)
    (case D_is_branches => k_is)
    (case P_is_branches => k_is)
    (case A_inner_lists => k_is)
    (case L_inner_lists => k_is)
    (case D_inner_lists => k_is)
    (case P_inner_lists => k_is)
    (case A_with_lists => k_is)
    (case L_with_lists => k_is)
    (case D_with_lists => k_is)
    (case P_with_lists => k_is)
    (case A_copy_row => k_is)
    (case L_copy_row => k_is)
    (case D_copy_row => k_is)
    (case P_copy_row => k_is)
    (case A_copy_rows => k_is)
    (case L_copy_rows => k_is)
    (case D_copy_rows => k_is)
    (case P_copy_rows => k_is)
    (case A_checked_asks => k_is)
    (case L_checked_asks => k_is)
    (case D_checked_asks => k_is)
    (case P_checked_asks => k_is)
    (case A_is_box => k_is)
    (case L_is_box => k_is)
    (case D_is_box => k_is)
    (case P_is_box => k_is)
    (case A_checked_signals => k_is)
    (case L_checked_signals => k_is)
    (case D_checked_signals => k_is)
    (case P_checked_signals => k_is)
    (case A_checked_inputs => k_is)
    (case L_checked_inputs => k_is)
    (case D_checked_inputs => k_is)
    (case P_checked_inputs => k_is)
    (case A__law_bag => k_is)
    (case L__law_bag => k_is)
    (case D__law_bag => k_is)
    (case P__law_bag => k_is)
    (case A__law_draw => k_is)
    (case L__law_draw => k_is)
    (case D__law_draw => k_is)
    (case P__law_draw => k_is)
    (case A__law_words => k_is)
    (case L__law_words => k_is)
    (case D__law_words => k_is)
    (case P__law_words => k_is)
    (case A__law_same => k_is)
    (case L__law_same => k_is)
    (case D__law_same => k_is)
    (case P__law_same => k_is)
    (case A__law_wrong_asks => k_is)
    (case L__law_wrong_asks => k_is)
    (case D__law_wrong_asks => k_is)
    (case P__law_wrong_asks => k_is)
    (case A__law_wrong_signals => k_is)
    (case L__law_wrong_signals => k_is)
    (case D__law_wrong_signals => k_is)
    (case P__law_wrong_signals => k_is)
    (case A__law_all_rows => k_is)
    (case L__law_all_rows => k_is)
    (case D__law_all_rows => k_is)
    (case P__law_all_rows => k_is)
    (case A__law_fault => k_is)
    (case L__law_fault => k_is)
    (case D__law_fault => k_is)
    (case P__law_fault => k_is)
    (case A_law => k_is)
    (case L_law => k_is)
    (case D_law => k_is)
    (case P_law => k_is)
    (case A_RowCheck => k_is)
    (case c1_RowCheck => k_is)
    (case c2_RowCheck => k_is)
    (case c3_RowCheck => k_is)
    (case c4_RowCheck => k_is)
    (case n_RowCheck_known_asks => k_is)
    (case n_RowCheck_known_signals => k_is)
    (case n_RowCheck_with_edits => k_is)
    (case n_RowCheck_total => k_is)
    (case n_RowCheck_label_words => k_is)
    (case n_RowCheck_slot_words => k_is)
    (case n_RowCheck_gate_words => k_is)
    (case n_RowCheck_edit_words => k_is)
    (case mk_RowCheck => k_is)
    (case kp_RowCheck => k_is)
    (case at_RowCheck___init__ => k_is)
    (case fn_RowCheck___init__ => k_is)
    (case L_RowCheck___init__ => k_is)
    (case D_RowCheck___init__ => k_is)
    (case P_RowCheck___init__ => k_is)
    (case at_RowCheck_check => k_is)
    (case fn_RowCheck_check => k_is)
    (case L_RowCheck_check => k_is)
    (case D_RowCheck_check => k_is)
    (case P_RowCheck_check => k_is)
    (case at_RowCheck_check_sizes => k_is)
    (case fn_RowCheck_check_sizes => k_is)
    (case L_RowCheck_check_sizes => k_is)
    (case D_RowCheck_check_sizes => k_is)
    (case P_RowCheck_check_sizes => k_is)
    (case at_RowCheck_check_list => k_is)
    (case fn_RowCheck_check_list => k_is)
    (case L_RowCheck_check_list => k_is)
    (case D_RowCheck_check_list => k_is)
    (case P_RowCheck_check_list => k_is)
    (case at_RowCheck_fits => k_is)
    (case fn_RowCheck_fits => k_is)
    (case L_RowCheck_fits => k_is)
    (case D_RowCheck_fits => k_is)
    (case P_RowCheck_fits => k_is)
    (case at_RowCheck_id_fits => k_is)
    (case fn_RowCheck_id_fits => k_is)
    (case L_RowCheck_id_fits => k_is)
    (case D_RowCheck_id_fits => k_is)
    (case P_RowCheck_id_fits => k_is)
    (case at_RowCheck_part_fits => k_is)
    (case fn_RowCheck_part_fits => k_is)
    (case L_RowCheck_part_fits => k_is)
    (case D_RowCheck_part_fits => k_is)
    (case P_RowCheck_part_fits => k_is)
    (case at_RowCheck_collect => k_is)
    (case fn_RowCheck_collect => k_is)
    (case L_RowCheck_collect => k_is)
    (case D_RowCheck_collect => k_is)
    (case P_RowCheck_collect => k_is)
    (case A_Program => k_is)
    (case c1_Program => k_is)
    (case c2_Program => k_is)
    (case c3_Program => k_is)
    (case c4_Program => k_is)
    (case n_Program_ask_table => k_is)
    (case n_Program_signal_table => k_is)
    (case n_Program_input_words => k_is)
    (case n_Program_row_list => k_is)
    (case n_Program_label_names => k_is)
    (case n_Program_slot_names => k_is)
    (case n_Program_gate_names => k_is)
    (case n_Program_row_table => k_is)
    (case n_Program_list_sizes => k_is)
    (case mk_Program => k_is)
    (case kp_Program => k_is)
    (case at_Program___init__ => k_is)
    (case fn_Program___init__ => k_is)
    (case L_Program___init__ => k_is)
    (case D_Program___init__ => k_is)
    (case P_Program___init__ => k_is)
    (case at_Program_add_rows => k_is)
    (case fn_Program_add_rows => k_is)
    (case L_Program_add_rows => k_is)
    (case D_Program_add_rows => k_is)
    (case P_Program_add_rows => k_is)
    (case at_Program___len__ => k_is)
    (case fn_Program___len__ => k_is)
    (case L_Program___len__ => k_is)
    (case D_Program___len__ => k_is)
    (case P_Program___len__ => k_is)
