import PyProof.Rows.All
import Wide.All
import OpenK.AllK
import Wide.FinOn
import PyProof.EqAt
import PyProof.EqKinds
import PyProof.TupleCall
import KE.KExcSuper
import KE.KExcIs
import HandS.Base
import HandS.Call
import HandS.List
import HandS.Ends
import HandS.Exc
import HandS.ExcInit
import HandS.ExcSuper
import HandS.MakeKwOnly
import HandS.IsInst
import HandS.ForMost
import HandS.TryOnly
import HandS.WordsExc
import HandS.ExcOwn
import HandS.ExcField
import HandS.TupAny
import HandS.Zip
import KE.GoesMore
import KE.GoesZip
import KE.GoesEnum
import HandS.Strs
import HandS.More
import HandS.DictTup
import HandS.DictComp
import HandS.Walk
import HandS.Evl
import HandS.Star
import HandS.Wide
import HandS.Style
import PySem.Challenge.RW_openruns_k18_program_text
set_option Elab.async false
set_option linter.all false
set_option maxRecDepth 100000
set_option maxHeartbeats 4000000
namespace PySem
namespace XL
open PySem.W PySem.Calls PyProof.Rows
/-! ### C(args, kw = ..), C an own exception class -/
section
variable {M : Model} {prog : Program} {w : World} {A : Around} {E : Value → Shared → Prop} {R : Result → Shared → Prop} {h : Heap} {g : Array GenState} {d : Drawn} {t : Nat} {os : OsState}
variable {nm q : Str} {C N : Addr} {bs bm bmB : List Value} {hdct : Bool} {sn : List Str} {sub : List Value} {ab : Bool} {col : Option Bool} {dd : Option Addr} {k0 k1 k2 k3 k5 : Option Value} {B newId initId : String}
theorem check_newK (F : ExcBaseFacts B newId initId bmB) (hT : ∀ X : String, bm.contains (.type X) = bmB.contains (.type X)) {rest : List Value} {kw : List (Str × Value)} {Q : Unit → Shared → Prop}
    (hC : h.get? C = some (excClassObj nm q C N bs bm hdct sn sub ab col dd k0 k1 k2 k3 k5 newId)) (hq : Q () ⟨h, g, d, t, os⟩) : wpAny M A (checkBuiltinCall newId ⟨.ref C :: rest, kw⟩) Q E ⟨h, g, d, t, os⟩ := by
  have hcont : (Value.ref C :: bm).contains (.type B) = true := by rw [List.contains_cons, hT, F.hasB, Bool.or_true]
  have hstar := F.noStar
  simp only [checkBuiltinCall, F.newKind, F.newSplit, F.newRow]
  repeat (first | refine wpAny_loadPart_at hC ?_ | (refine wpAny_isSubtype_exc hC ?_; rw [hcont]) | refine wpAny_staticBase_exc hC ?_ | refine wpAny_madeBy_exc hC ?_ | simp only [bne_self_eq_false, Bool.false_eq_true, if_false] | wp_step)
  exact hq
theorem newK (F : ExcBaseFacts B newId initId bmB) (hT : ∀ X : String, bm.contains (.type X) = bmB.contains (.type X)) {rest : List Value} {kw : List (Str × Value)}
    (hC : h.get? C = some (excClassObj nm q C N bs bm hdct sn sub ab col dd k0 k1 k2 k3 k5 newId))
    (hq : R (.ok (.ret (.ref (h.objs.size + 1)))) ⟨(h.push { cls := .type "tuple", data := .seq rest.toArray }).push
      { cls := .ref C, data := .fields #[.ref h.objs.size, .none, .none, .none, .bool false, .none] }, g, d, t, os⟩) (hrest : rest.length ≤ sizeLine) :
    codeAny (model prog w) A (.builtin newId ⟨.ref C :: rest, kw⟩) R ⟨h, g, d, t, os⟩ := by
  have hends := F.ends
  have hcB : (Value.ref C :: bm).contains (.type B) = true := by rw [List.contains_cons, hT, F.hasB, Bool.or_true]
  have hcA : (Value.ref C :: bm).contains (.type "AttributeError") = false := by rw [List.contains_cons, hT, F.noAttr]; rfl
  have hcN : (Value.ref C :: bm).contains (.type "NameError") = false := by rw [List.contains_cons, hT, F.noName]; rfl
  refine codeAny_builtinAt F.entry ?_
  unfold Builtin.«BaseException.__new__»
  refine wpAt_bind ?_
  show wpAt _ _ _ (stack >>= _) _ _ _
  refine wpAt_bind (wpAt_stack fun p below => wpAt_of_wpAny ?_)
  wp_walk
  refine wpAt_of_wpAny ?_
  rw [F.owner]
  repeat (first | with_reducible refine wpAny_madeHere_exc F.canon hC ?_ | with_reducible refine wpAny_loadPart_at hC ?_ | (with_reducible refine wpAny_isSubtype_exc hC ?_; first | rw [hcB] | rw [hcA] | rw [hcN]) | wp_step)
  show R _ _
  rw [Heap.size_push]
  exact hq
theorem type_callK (F : ExcBaseFacts B newId initId bmB) (hT : ∀ X : String, bm.contains (.type X) = bmB.contains (.type X)) {rest : List Value} {kw : List (Str × Value)} {fI : Addr} {Q : Fin → Shared → Prop}
    (hC : h.get? C = some (excClassObj nm q C N bs bm hdct sn sub ab col dd k0 k1 k2 k3 k5 newId))
    (hi : W.Looks (model prog w) h (typeLookup (.ref C) "__init__") (some (.ref fI))) (hb : ∀ self, W.Looks (model prog w) h (bindSpecial (.ref fI) self) (.ref fI, [self])) (hrest : rest.length ≤ sizeLine)
    (hq : codeAny (model prog w) A (.call (.ref fI) ⟨.ref (h.objs.size + 1) :: rest, kw⟩)
      (fun r s' => match r with | .ok (.ret v) => v = .none ∧ Q (.done (.ret (.ref (h.objs.size + 1)))) s' | .ok _ => False | .error e => E e s')
      ⟨(h.push (W.kdv_tup rest)).push (HandSPX.excO C h.objs.size), g, d, t, os⟩) :
    wpAny (model prog w) A (Builtin.«type.__call__» ⟨.ref C :: rest, kw⟩) Q E ⟨h, g, d, t, os⟩ := by
  repeat (first | with_reducible refine wpAny_loadPart_at hC ?_ | with_reducible refine wpAny_madeBy_exc hC ?_ | wp_step)
  refine codeAny_call_builtin_code (Code.quiet_builtin _ F.quiet) (check_newK F hT hC ?_)
  refine newK F hT hC ?_ hrest
  show wpAny _ _ _ _ _ _
  have k : ∀ b o, h.get? b = some o → ((h.push (W.kdv_tup rest)).push (HandSPX.excO C h.objs.size)).get? b = some o := fun b o e => Heap.get?_push_of_some _ (Heap.get?_push_of_some _ e)
  have hC₁ := k _ _ hC
  have hget : ((h.push (W.kdv_tup rest)).push (HandSPX.excO C h.objs.size)).get? (h.objs.size + 1) = some (HandSPX.excO C h.objs.size) := by heap_get
  have hcC : (Value.ref C :: bm).contains (.ref C) = true := by simp
  have i1 := hi.keeps k
  have b1 := (hb (.ref (h.objs.size + 1))).keeps k
  unfold isInstance
  repeat (first | with_reducible refine wpAny_loadPart_at hget ?_ | (with_reducible refine wpAny_isSubtype_exc hC₁ ?_; rw [hcC]) | wp_step)
  show wpAny _ _ (typeLookup (.ref C) _) _ _ _
  refine i1.at ?_
  refine wpAny_holding (wpAny_bind (b1.at ?_))
  refine wpAny_bind (wpAny_call (codeAny_mono hq fun r s' z => ?_))
  rcases r with e | (v | _ | _ | _) <;> first | exact z | exact z.elim | skip
  obtain ⟨rfl, z⟩ := z
  first
    | exact wpAny_pure (wpAny_pure z)
    | (wp_walk; exact z)
theorem check_typeK {M : Model} {rest : List Value} {kw : List (Str × Value)} {Q : Unit → Shared → Prop} (hC : h.get? C = some (excClassObj nm q C N bs bm hdct sn sub ab col dd k0 k1 k2 k3 k5 newId))
    (hq : Q () ⟨h, g, d, t, os⟩) : wpAny M A (checkBuiltinCall "type.__call__" ⟨.ref C :: rest, kw⟩) Q E ⟨h, g, d, t, os⟩ := by
  have f3 := tc_sub
  have hT : (⟨h, g, d, t, os⟩ : Shared).TypeIs (.ref C) "type" := ⟨_, hC, rfl⟩
  simp only [checkBuiltinCall, tc_kind, tc_split]
  repeat (any_goals (first | assumption | with_reducible refine wpAny_loadPart_at hC ?_ | with_reducible refine wpAny_onRaise ?_ | with_reducible refine wpAny_map ?_ | wp_step))
theorem call_ownK (F : ExcBaseFacts B newId initId bmB) (hT : ∀ X : String, bm.contains (.type X) = bmB.contains (.type X)) {rest : List Value} {kw : List (Str × Value)} {fI : Addr}
    (hC : h.get? C = some (excClassObj nm q C N bs bm hdct sn sub ab col dd k0 k1 k2 k3 k5 newId))
    (hi : W.Looks (model prog w) h (typeLookup (.ref C) "__init__") (some (.ref fI))) (hb : ∀ self, W.Looks (model prog w) h (bindSpecial (.ref fI) self) (.ref fI, [self])) (hrest : rest.length ≤ sizeLine)
    (hq : codeAny (model prog w) (A.under (.builtin "type.__call__" ⟨.ref C :: rest, kw⟩)) (.call (.ref fI) ⟨.ref (h.objs.size + 1) :: rest, kw⟩) (W.InitBack (h.objs.size + 1) R)
      ⟨(h.push (W.kdv_tup rest)).push (HandSPX.excO C h.objs.size), g, d, t, os⟩) :
    codeAny (model prog w) A (.call (.ref C) ⟨rest, kw⟩) R ⟨h, g, d, t, os⟩ := by
  have f1 := tc_lookup
  have f2 := tc_bind (.ref C)
  have hTy : (⟨h, g, d, t, os⟩ : Shared).TypeIs (.ref C) "type" := ⟨_, hC, rfl⟩
  refine codeAny_of_tree ?_
  show wpAny _ _ (callAny (.ref C) _) _ _ _
  repeat (any_goals (first | assumption | with_reducible refine wpAny_loadPart_at hC ?_ | wp_step))
  refine ⟨rfl, ?_⟩
  refine codeAny_call_builtin_at (Code.quiet_builtin _ (by decide +kernel)) entry_typeCall (check_typeK hC (type_callK F hT hC hi hb hrest ?_))
  refine codeAny_mono hq fun r s' z => ?_
  rcases r with e | (v | _ | _ | _) <;> exact z
end
end XL
end PySem
namespace PySem
namespace XL
open PySem.W PySem.Calls PyProof.Rows Builtin Builtin.ObjectAttr
abbrev lkT : List Value := [.type "LookupError", .type "Exception", .type "BaseException", .type "object"]
theorem lk_ne {l : List Value} (e : excTail lkT l = true) : l.isEmpty = false := by
  rcases excTail_cases l e with ⟨c, r, rfl, _⟩ | rfl <;> rfl
/-! ### self.name = v on an exception over LookupError -/
section
variable {prog : Program} {w : World} {A : Around} {E : Value → Shared → Prop} {R : Result → Shared → Prop} {hp : Heap} {g : Array GenState} {d : Drawn} {t : Nat} {os : OsState}
theorem osa_walk {K : W.Frag} {name : Str} {tk : Tok} {v : Value} {x C : Addr} {ox : Obj} {od : Option Obj} {cd : ClassData}
    (X : K.In hp) (I : W.InstAt hp x ox C od) (hcd : W.clsIn K C = some cd) (hm : excTail lkT cd.mro = true) (ha : W.findIn K (.ref C) name = some none)
    (hq : wpAny (model prog w) A.in1 (Builtin.ObjectAttr.storeInOwnDict (.ref x) (.ref C) (.str name tk) name v false)
      (fun fin s' => match fin with | .done f => R (.ok f) s' | .again c' => c'.quiet = true ∧ codeAny (model prog w) A c' R s') (fun e s' => R (.error e) s') ⟨hp, g, d, t, os⟩) :
    codeAny (model prog w) A (.call (.builtin "object.__setattr__") ⟨[.ref x, .str name tk, v], []⟩) R ⟨hp, g, d, t, os⟩ := by
  have SF := F.store_LookupError
  have ne := lk_ne hm
  have hob : cd.mro.contains (.type "object") = true := (excTail_contains "object" _ hm).trans (by decide +kernel)
  have sub : W.Looks (model prog w) hp (isInstance (.ref x) (.type "object")) true := I.type.andThen (W.looks_mroIn X (by unfold W.mroIn; rw [hcd, Option.bind_some, if_neg (by rw [ne]; decide), hob]))
  refine codeAny_call_builtin SF.slot.plain SF.entry (@W.check_slot (model prog w) _ _ ⟨hp, g, d, t, os⟩ "object.__setattr__" "object" "__setattr__" (.ref x) [.str name tk, v] [] _ SF.kind SF.split sub (SF.args (.ref x) (.str name tk) v) ?_)
  have hmr : W.Looks (model prog w) hp (mroOf (.ref C)) cd.mro := (W.looks_clsIn X hcd).andThen .now
  have L3 : W.Looks (model prog w) hp (storeTaker? none) none := .now
  rw [W.osa_eq, refuse_eq]
  refine wpAny_bind (wpAny_bind (I.type.at (wpAny_bind (hmr.at ?_))))
  rw [excTail_pass _ (SF.passes _) _ hm]
  refine wpAny_pure (wpAny_bind (I.type.at (wpAny_bind ((W.looks_findIn X ha).at (wpAny_bind (L3.at ?_))))))
  exact hq
theorem osa_new {K : W.Frag} {name : Str} {tk : Tok} {v : Value} {x C : Addr} {fv : Array Value} {cd : ClassData}
    (X : K.In hp) (hx : hp.get? x = some { cls := .ref C, data := .fields fv }) (hcd : W.clsIn K C = some cd) (hm : excTail lkT cd.mro = true) (hh : cd.hasDict = true) (ha : W.findIn K (.ref C) name = some none)
    (hq : ∀ h' tk' dx, (∀ b o, b ≠ x → hp.get? b = some o → h'.get? b = some o) → hp.objs.size ≤ dx → dx ≠ x → h'.get? x = some { cls := .ref C, dict := some dx, data := .fields fv } →
      h'.Ns1 dx (fun y => if y = name then some v else none) → R (.ok (.ret .none)) ⟨h', g, d, tk', os⟩) :
    codeAny (model prog w) A (.call (.builtin "object.__setattr__") ⟨[.ref x, .str name tk, v], []⟩) R ⟨hp, g, d, t, os⟩ := by
  have I : W.InstAt hp x { cls := .ref C, data := .fields fv } C none := ⟨hx, rfl, rfl, trivial⟩
  have hxs : x ≠ hp.objs.size := Nat.ne_of_lt (Heap.lt_size hx)
  refine osa_walk X I hcd hm ha ?_
  have hcls : W.Looks (model prog w) hp (classData C) cd := W.looks_clsIn X hcd
  obtain ⟨nm, bs, mro, ns, qn, hd, sn, sb, ab, col, del⟩ := cd
  dsimp only at hh
  subst hh
  unfold Builtin.ObjectAttr.storeInOwnDict Builtin.ObjectAttr.ownDictForStores
  repeat (first | with_reducible refine HandSPX.store_in_new ?_ ?_ | with_reducible refine wpAny_loadPart_at hx ?_ | with_reducible refine hcls.at ?_ | wp_step)
  · exact ⟨_, #[], _, (Heap.get?_update_ne _ _ _ _ hxs.symm).trans (Heap.get?_push_at rfl rfl), rfl, fun e he => absurd he (by simp), fun _ => rfl⟩
  · intro h' tk' hn' hs
    have hx₁ : (hp.push { cls := .type "dict", data := .dict #[] }).get? x = some { cls := .ref C, data := .fields fv } := Heap.get?_push_of_some _ hx
    refine hq h' tk' hp.objs.size (fun b o hb ho => ?_) (Nat.le_refl _) hxs.symm ?_ hn'
    · exact (hs.2 b (Nat.ne_of_lt (Heap.lt_size ho))).trans ((Heap.get?_update_ne _ _ _ _ hb).trans (Heap.get?_push_of_some _ ho))
    · exact (hs.2 x hxs).trans (Heap.get?_update_self _ hx₁ rfl)
theorem osa_old {K : W.Frag} {name : Str} {tk : Tok} {v : Value} {x C dx : Addr} {fv : Array Value} {cd : ClassData} {m0 : Str → Option Value} {nl : List Str}
    (X : K.In hp) (hx : hp.get? x = some { cls := .ref C, dict := some dx, data := .fields fv }) (hns : hp.Ns1 dx m0) (hw : Within m0 nl) (hz : nl.length ≤ 1000) (hcd : W.clsIn K C = some cd) (hm : excTail lkT cd.mro = true) (hh : cd.hasDict = true)
    (ha : W.findIn K (.ref C) name = some none)
    (hq : ∀ h' tk', (∀ b o, b ≠ dx → hp.get? b = some o → h'.get? b = some o) → h'.Ns1 dx (fun y => if y = name then some v else m0 y) → R (.ok (.ret .none)) ⟨h', g, d, tk', os⟩) :
    codeAny (model prog w) A (.call (.builtin "object.__setattr__") ⟨[.ref x, .str name tk, v], []⟩) R ⟨hp, g, d, t, os⟩ := by
  obtain ⟨oD, esD, epD, hoD, hdD, _⟩ := hns.count hw
  have I : W.InstAt hp x { cls := .ref C, dict := some dx, data := .fields fv } C (some oD) := ⟨hx, rfl, rfl, hoD⟩
  refine osa_walk X I hcd hm ha ?_
  have hcls : W.Looks (model prog w) hp (classData C) cd := W.looks_clsIn X hcd
  obtain ⟨nm, bs, mro, ns, qn, hd, sn, sb, ab, col, del⟩ := cd
  dsimp only at hh
  subst hh
  unfold Builtin.ObjectAttr.storeInOwnDict Builtin.ObjectAttr.ownDictForStores
  repeat (first | with_reducible refine OEX.store_in_old hns hw hz ?_ | with_reducible refine wpAny_loadPart_at hx ?_ | with_reducible refine hcls.at ?_ | wp_step)
  intro h' tk' hn' hs
  exact hq h' tk' (fun b o hb ho => (hs.2 b hb).trans ho) hn'
end
/-! ### the text of an own __init__ -/
section
variable {prog : Program} {w : World} {A : Around} {E : Value → Shared → Prop} {R : Result → Shared → Prop} {s : Shared} {K : Frag}
/-- the __init__ of an own class at C (its cell __class__ at cc, its code at cda), over LookupError: what the written part says -/
structure XCls (prog : Program) (K : Frag) (C : Addr) : Prop where
  cls : ∃ nm q N bs bm sn sub ab col dd k0 k1 k2 k3 k5, K.lookup C = some (excClassObj nm q C N bs bm true sn sub ab col dd k0 k1 k2 k3 k5 "LookupError.__new__") ∧ excTail lkT bm = true
  sa : findIn K (.ref C) "__setattr__" = some (some (.builtin "object.__setattr__"))
  sup : ks_superIn K C C "__init__" = some (some (.builtin "LookupError.__init__"))
  opq : nsIn K cStatics "thirdparty.any" = some none
  sg : nsIn K mainGlobals "super" = some none
  top : (prog.main.scope.names.lookup ("super" : Str)).isSome = false
/-- .. of the function object at fI -/
structure XFn (prog : Program) (K : Frag) (C fI : Addr) (qual : Str) (params : Arguments) (body : List Stmt) (scope : Scope) : Prop where
  fn : ∃ (oc : Value) (od : Option Addr) (kV doc pm : Value) (an : Option Addr) (cda : Addr) (ct : Value) (cc : Addr) (osl : Array (Option Value)) (cl ccl : Value) (cld cdd : Option Addr) (csl ccs : Array (Option Value)) (vs : Array Value) (file : Str) (tf : Tok),
    K.lookup fI = some ⟨oc, od, .func (ksFn "__init__" qual params body scope .none kV doc pm an (.ref cda) ct cc), osl⟩ ∧ codeIn K (.ref cda) qual = true ∧
    K.lookup cc = some ⟨cl, cld, .cell (some (.ref C)), csl⟩ ∧ K.lookup cda = some ⟨ccl, cdd, .fields vs, ccs⟩ ∧ vs[2]? = some (.str file tf) ∧ ((prog.main.file : Str) == file) = true
  iC : findIn K (.ref C) "__init__" = some (some (.ref fI))
  tI : typeIn K (.ref fI) = some (.type "function")
/-- a module's parts -/
structure XTop (h : Heap) : Prop where
  g : ∃ mg, h.Ns mainGlobals mg
  b : ∃ mb, h.Ns builtinsNs mb ∧ ∀ x : Str, x ≠ "__name__" → mb x = bootBuiltins x
  nolimit : h.NoLimit
theorem XTop.keeps {h h' : Heap} (T : XTop h) (k : ∀ b o, h.get? b = some o → h'.get? b = some o) : XTop h' :=
  ⟨let ⟨mg, q⟩ := T.g; ⟨mg, q.keeps k⟩, let ⟨mb, q, r⟩ := T.b; ⟨mb, q.keeps k, r⟩, T.nolimit.keeps k⟩
end
end XL
end PySem
namespace PySem
namespace XL
open PySem.W PySem.Calls PyProof.Rows
/-! ### super().__init__('..') in an own __init__ -/
/-- where the statement stands -/
structure SupPos where
  (p0 p1 p2 p3 p4 p5 : Pos) (j : String)
section
variable {prog : Program} {w : World} {A : Around} {E : Value → Shared → Prop} {R : Result → Shared → Prop} {s : Shared} {K : Frag}
theorem call_mw {x C u t0 : Addr} {rest : List Value} {Q : Value → Shared → Prop} (T : XCls prog K C) (X : K.In s.heap) (hx : s.heap.get? x = some (HandSPX.excO C t0)) (hu : KxsAt "LookupError.__init__" u x s.heap) (hz : rest.length ≤ sizeLine)
    (hq : ∀ h' t1, (∀ b o, b ≠ x → s.heap.get? b = some o → h'.get? b = some o) → h'.get? x = some (HandSPX.excO C t1) → Q .none { s with heap := h' }) :
    wpAny (model prog w) A (call (.ref u) rest) Q E s := by
  obtain ⟨nm, q, N, bs, bm, sn, sub, ab, col, dd, k0, k1, k2, k3, k5, hC, hbm⟩ := T.cls
  have FB := F.excBase_LookupError
  obtain ⟨hh, g, d, tk, os⟩ := s
  unfold KxsAt at hu
  refine wpAny_call (codeAny_of_tree ?_)
  show wpAny _ A.in1 (callAny (.ref u) ⟨rest, []⟩) _ _ _
  simp only [callAny]
  refine wpAny_bind (wpAny_load hu ?_)
  simp only [kxs_mw, show (Value.type "method-wrapper" == Value.type "method" || Value.type "method-wrapper" == Value.type "builtin_function_or_method" || Value.type "method-wrapper" == Value.type "method-wrapper") = true by decide, if_true]
  refine KFB.if_so (by decide) ?_
  refine wpAny_bind (check_bound_init FB.toExcCallFacts (X _ _ hC) hx rfl ?_)
  refine wpAny_bind (wpAny_pure (wpAny_pure ?_))
  refine ⟨plainId_quiet FB.init.plain _, codeAny_builtin FB.initEntry ?_⟩
  exact exc_init_tree (cls := .ref C) (t0 := t0) (dv := none) (c2 := .none) (c3 := .none) (b4 := .bool false) hx hz fun h' k e _ => hq h' _ k e
theorem sup_stmt {x C fI L : Addr} {t0 : Addr} {qual : Str} {body : List Stmt} {scope : Scope} {cda cc : Addr} {oc cl ccl : Value} {od cld cdd : Option Addr} {osl csl ccs : Array (Option Value)} {fd : FuncData} {vs : Array Value} {file : Str} {tf : Tok} {ar : Arg}
    {m : Str → Option Value} {p0 p1 p2 p3 p4 p5 : Pos} {tx : Str} {j} {Q : Flow → Shared → Prop}
    (T : XCls prog K C) (X : K.In s.heap) (P : XTop s.heap) (hn : s.heap.Ns L m) (hv : m ar.arg = some (.ref x)) (hx : s.heap.get? x = some (HandSPX.excO C t0)) (hL : L ≠ x)
    (hf : K.lookup fI = some ⟨oc, od, .func fd, osl⟩) (hp : (fd.params.posonlyargs ++ fd.params.args).head? = some ar) (hcode : K.lookup cda = some ⟨ccl, cdd, .fields vs, ccs⟩) (hvs : vs[2]? = some (.str file tf)) (hfile : ((prog.main.file : Str) == file) = true)
    (hcell : K.lookup cc = some ⟨cl, cld, .cell (some (.ref C)), csl⟩)
    (hks : scope.names.lookup ("super" : Str) = some .globalImplicit) (hkc : scope.names.lookup ("__class__" : Str) = some .free) (hka : scope.names.lookup ar.arg = some .local) (hk : scope.kind = .function)
    (hq : ∀ h' tk t1, (∀ b o, b ≠ x → s.heap.get? b = some o → h'.get? b = some o) → h'.get? x = some (HandSPX.excO C t1) → Q .next { s with heap := h', toks := tk })
    {pl : Sem Bool}
    (he : eval (.Call (.Attribute (.Call (.Name "super" p0) [] [] p1) "__init__" p2) [.Constant (.str tx) j p3] [] p4) (ksEnv qual scope L fI (.ref cda) cc) = (do
      let ov ← attributeBase (.Call (.Name "super" p0) [] [] p1) "__init__" (ksEnv qual scope L fI (.ref cda) cc) (eval (.Call (.Name "super" p0) [] [] p1) (ksEnv qual scope L fI (.ref cda) cc))
      standAt p2.atName
      let (f, first) ← holding [ov] (getMethod ov "__init__" pl)
      callWith p4 f first (backTo p4 (starEach [.Constant (.str tx) j p3] (ksEnv qual scope L fI (.ref cda) cc))) []) := by rfl)
    (hi : interactive (ksEnv qual scope L fI (.ref cda) cc) = false := by rfl)
    (hw : swapsWith (.Call (.Attribute (.Call (.Name "super" p0) [] [] p1) "__init__" p2) [.Constant (.str tx) j p3] [] p4) none p5.line (ksEnv qual scope L fI (.ref cda) cc) = pure false := by rfl) :
    _root_.PySem.wpAt (model prog w) A (.func body (ksEnv qual scope L fI (.ref cda) cc)) (exec (.Expr (.Call (.Attribute (.Call (.Name "super" p0) [] [] p1) "__init__" p2) [.Constant (.str tx) j p3] [] p4) p5) (ksEnv qual scope L fI (.ref cda) cc)) Q E s := by
  obtain ⟨nm, q, N, bs, bm, sn, sub, ab, col, dd, k0, k1, k2, k3, k5, hC, hbm⟩ := T.cls
  have hcl : clsIn K C = some { name := nm, bases := bs, mro := .ref C :: bm, ns := N, qualname := q, hasDict := true, slotNames := sn, subclasses := sub, abstract := ab, collection := col, hasDel := false } := by unfold clsIn; rw [hC] <;> rfl
  have hmC : mroIn K C (.ref C) = some true := by unfold mroIn; rw [hcl, Option.bind_some, if_neg (by show ¬ (List.isEmpty (Value.ref C :: bm) = true); simp)]; simp
  have hD1 := X _ _ hC
  obtain ⟨hh, g, d, t, os⟩ := s
  refine ks_wpAt_Expr_any (ks_wpAt_MethodCall ?_ he) hi hw
  refine ks_wpAt_super_base (env := ksEnv qual scope L fI (.ref cda) cc) hks hkc (by decide) rfl (X _ _ hf) rfl hp rfl (X _ _ hcode) rfl hvs hfile T.top ?_
  obtain ⟨mg, hg⟩ := P.g
  obtain ⟨mb, hb, hbt⟩ := P.b
  refine ks_loadName_global hk hks (loadGlobal_builtin (env := ksEnv qual scope L fI (.ref cda) cc) hg (mg_none_of X hg T.sg) hb ((hbt _ (by decide +kernel)).trans (show bootBuiltins "super" = some (.type "super") from by decide +kernel)) ⟨rfl, ?_⟩)
  refine wpAny_loadName_free hk hkc rfl ⟨_, X _ _ hcell, rfl⟩ ?_
  refine wpAny_loadName_local hk hka hn hv ?_
  refine ks_wpAny_isType_cls hD1 rfl ⟨rfl, ?_⟩
  refine ks_wpAny_call_super hD1 rfl hx rfl (fun c e => nomatch e) (looks_mroIn X hmC) (fun h1 e1 kk1 => ?_)
  have k1' : ∀ b o, hh.get? b = some o → h1.get? b = some o := kk1
  have X1 : K.In h1 := X.keeps k1'
  have hI : Looks (model prog w) h1 (isInstance (.ref x) (.type "LookupError")) true := by
    have I : InstAt h1 x (HandSPX.excO C t0) C none := ⟨k1' _ _ hx, rfl, rfl, trivial⟩
    refine I.type.andThen (looks_mroIn X1 ?_)
    unfold mroIn
    rw [hcl, Option.bind_some, if_neg (by show ¬ (List.isEmpty (Value.ref C :: bm) = true); simp)]
    show some ((Value.ref C :: bm).contains (.type "LookupError")) = some true
    rw [List.contains_cons, excTail_contains "LookupError" _ hbm]
    rfl
  have hxC : x ≠ C := fun z => by
    rw [z] at hx
    have y := hD1.symm.trans hx
    cases y
  have hsup := T.sup
  unfold ks_superIn at hsup
  rw [hcl] at hsup
  refine kxs_getMethod kxs_LookupError e1 (looks_opaque X1 T.opq) (l₀ := .ref C :: bm) (fun A Q E s k q => wpAny_bind ((looks_clsIn X1 hcl) A _ E s k (wpAny_pure q))) rfl X1 hsup hI hxC (by decide) ?_
  have k2' : ∀ b o, hh.get? b = some o → (h1.push (kxs_mw "LookupError.__init__" x)).get? b = some o := fun b o z => Heap.get?_push_of_some _ (k1' b o z)
  show wpAny _ _ (callWith p4 (.ref h1.objs.size) [] (backTo p4 (starEach [.Constant (.str tx) j p3] (ksEnv qual scope L fI (.ref cda) cc))) []) _ _ _
  refine kxs_callWith (i := "LookupError.__init__") (x := x) (by rfl) (evalArgs_plain ?_)
  refine spliced_cons ?_
  show wpAny _ _ (eval (.Constant (.str tx) j p3) (ksEnv qual scope L fI (.ref cda) cc)) _ _ _
  refine Calls.Constant_str (spliced_nil ?_)
  refine ⟨Heap.get?_push_at rfl rfl, ?_⟩
  refine call_mw (s := ⟨h1.push (kxs_mw "LookupError.__init__" x), g, d, _, os⟩) T (X.keeps k2') (k2' _ _ hx) (Heap.get?_push_at rfl rfl) (by show 1 ≤ sizeLine; rw [sizeLine_eq]; decide) fun h' t1 k3 e3 => ?_
  exact hq h' _ t1 (fun b o hb z => k3 b o hb (k2' b o z)) e3
end
end XL
end PySem
namespace PySem
namespace XL
open PySem.W PySem.Calls PyProof.Rows
/-- where an __init__ of one, of two fields stands -/
structure Ps1 where
  (p0 p1 p2 p3 p4 p5 q1 q2 q3 q4 : Pos) (j : Nat)
structure Ps2 extends Ps1 where
  (r1 r2 r3 r4 : Pos)
abbrev supS (P : Ps1) (tx : Str) : Stmt := .Expr (.Call (.Attribute (.Call (.Name "super" P.p0) [] [] P.p1) "__init__" P.p2) [.Constant (.str tx) P.j P.p3] [] P.p4) P.p5
abbrev body1 (P : Ps1) (tx f : Str) : List Stmt := [supS P tx, .Assign [.Attribute (.Name "self" P.q1) f P.q2] (.Name f P.q3) P.q4]
abbrev body2 (P : Ps2) (tx f f2 : Str) : List Stmt := [supS P.toPs1 tx, .Assign [.Attribute (.Name "self" P.q1) f P.q2] (.Name f P.q3) P.q4, .Assign [.Attribute (.Name "self" P.r1) f2 P.r2] (.Name f2 P.r3) P.r4]
abbrev args1 (a1 a2 : Pos) (f : Str) : Arguments := { posonlyargs := [], args := [{ arg := "self", annotation := none, pos := a1 }, { arg := f, annotation := none, pos := a2 }], vararg := none, kwonlyargs := [], kw_defaults := [], kwarg := none, defaults := [] }
abbrev args2 (a1 a2 a3 : Pos) (f f2 : Str) : Arguments := { posonlyargs := [], args := [{ arg := "self", annotation := none, pos := a1 }, { arg := f, annotation := none, pos := a2 }, { arg := f2, annotation := none, pos := a3 }], vararg := none, kwonlyargs := [], kw_defaults := [], kwarg := none, defaults := [] }
abbrev scope1 (f : Str) : Scope := { kind := .function, names := [(Str.ofString "self", .local), (f, .local), (Str.ofString "__class__", .free), (Str.ofString "super", .globalImplicit)], isGenerator := false, isCoroutine := false, more := [] }
abbrev scope2 (f f2 : Str) : Scope := { kind := .function, names := [(Str.ofString "self", .local), (f, .local), (f2, .local), (Str.ofString "__class__", .free), (Str.ofString "super", .globalImplicit)], isGenerator := false, isCoroutine := false, more := [] }
/-- how the statement super().__init__('..') is run: rfl for a written scope -/
def EvOk (qual : Str) (scope : Scope) (fI : Addr) (P : Ps1) (tx : Str) : Prop := ∀ L cda cc : Addr, ∃ pl : Sem Bool,
  eval (.Call (.Attribute (.Call (.Name "super" P.p0) [] [] P.p1) "__init__" P.p2) [.Constant (.str tx) P.j P.p3] [] P.p4) (ksEnv qual scope L fI (.ref cda) cc) = (do
      let ov ← attributeBase (.Call (.Name "super" P.p0) [] [] P.p1) "__init__" (ksEnv qual scope L fI (.ref cda) cc) (eval (.Call (.Name "super" P.p0) [] [] P.p1) (ksEnv qual scope L fI (.ref cda) cc))
      standAt P.p2.atName
      let (f, first) ← holding [ov] (getMethod ov "__init__" pl)
      callWith P.p4 f first (backTo P.p4 (starEach [.Constant (.str tx) P.j P.p3] (ksEnv qual scope L fI (.ref cda) cc))) []) ∧
  interactive (ksEnv qual scope L fI (.ref cda) cc) = false ∧
  swapsWith (.Call (.Attribute (.Call (.Name "super" P.p0) [] [] P.p1) "__init__" P.p2) [.Constant (.str tx) P.j P.p3] [] P.p4) none P.p5.line (ksEnv qual scope L fI (.ref cda) cc) = pure false
/-- what __init__ leaves of a fresh exception at x -/
structure InitEnd (h h' : Heap) (x C dx : Addr) (mm : Str → Option Value) : Prop where
  keep : ∀ b o, b ≠ x → h.get? b = some o → h'.get? b = some o
  obj : ∃ t1 : Addr, h'.get? x = some { cls := .ref C, dict := some dx, data := .fields #[.ref t1, .none, .none, .none, .bool false, .none] }
  dbig : h.objs.size ≤ dx
  dne : dx ≠ x
  ns : h'.Ns1 dx mm
/-- a field's name is no name of the machine's -/
def okF (f : Str) : Bool := !(f == ("self" : Str)) && !(f == ("super" : Str)) && !(f == ("__class__" : Str)) && !(f == ("__debug__" : Str))
theorem okF_of {f : Str} (h : okF f = true) : (f == ("self" : Str)) = false ∧ (f == ("super" : Str)) = false ∧ (f == ("__class__" : Str)) = false ∧ (f == ("__debug__" : Str)) = false := by
  unfold okF at h
  simp only [Bool.and_eq_true, Bool.not_eq_true'] at h
  exact ⟨h.1.1.1, h.1.1.2, h.1.2, h.2⟩
theorem flip {a b : Str} (h : (a == b) = false) : (b == a) = false := by
  have := beq_eq_false_iff_ne.mp h
  exact beq_eq_false_iff_ne.mpr (Ne.symm this)
section
variable {prog : Program} {w : World} {A : Around} {E : Value → Shared → Prop} {R : Result → Shared → Prop} {s : Shared} {K : Frag} {C fI x t0 : Addr} {qual tx f f2 : Str} {v v2 : Value}
theorem init1 {P : Ps1} {a1 a2 : Pos} {args : Args} (T : XCls prog K C) (Fn : XFn prog K C fI qual (args1 a1 a2 f) (body1 P tx f) (scope1 f)) (hf : okF f = true) (nof : findIn K (.ref C) f = some none) (ev : EvOk qual (scope1 f) fI P tx)
    (X : K.In s.heap) (Tp : XTop s.heap) (hx : s.heap.get? x = some (HandSPX.excO C t0)) (hnx : K.lookup x = none) (hroom : A.depth < recursionLimit)
    (hb : ∀ (kV doc pm : Value) (an : Option Addr) (cdv ct : Value) (cc : Addr), BindsTo s (ksFn "__init__" qual (args1 a1 a2 f) (body1 P tx f) (scope1 f) .none kV doc pm an cdv ct cc) args [("self", .ref x), (f, v)])
    (hq : ∀ h' tk dx, InitEnd s.heap h' x C dx (fun y => if y = f then some v else none) → R (.ok (.ret .none)) { s with heap := h', toks := tk }) :
    codeAny (model prog w) A (.call (.ref fI) args) R s := by
  obtain ⟨oc, od, kV, doc, pm, an, cda, ct, cc, osl, cl, ccl, cld, cdd, csl, ccs, vs, file, tf, ho, hcd, hcell, hcode, hvs, hfile⟩ := Fn.fn
  obtain ⟨n1, n2, n3, n4⟩ := okF_of hf
  have l1 : (scope1 f).names.lookup f = some .local := by simp [List.lookup, n1]
  have l2 : (scope1 f).names.lookup ("super" : Str) = some .globalImplicit := by simp [List.lookup, flip n2]; rfl
  have l3 : (scope1 f).names.lookup ("__class__" : Str) = some .free := by simp [List.lookup, flip n3]; rfl
  have ls : (scope1 f).names.lookup ("self" : Str) = some .local := by simp [List.lookup]
  have hnc : ∀ y ∈ (scope1 f).names, y.2 ≠ .cell := by
    intro y hy
    simp only [scope1, List.mem_cons, List.mem_nil_iff, or_false] at hy
    rcases hy with rfl | rfl | rfl | rfl <;> simp
  have hlo : ∀ y ∈ ([("self", .ref x), (f, v)] : List (Str × Value)), (scope1 f).names.lookup y.1 = some .local := by
    intro y hy
    simp only [List.mem_cons, List.mem_nil_iff, or_false] at hy
    rcases hy with rfl | rfl
    · exact ls
    · exact l1
  obtain ⟨nm, q, N, bs, bm, sn, sub, ab, col, dd, k0, k1, k2, k3, k5, hC, hbm⟩ := T.cls
  have hcl : clsIn K C = some { name := nm, bases := bs, mro := .ref C :: bm, ns := N, qualname := q, hasDict := true, slotNames := sn, subclasses := sub, abstract := ab, collection := col, hasDel := false } := by unfold clsIn; rw [hC] <;> rfl
  refine ks_codeAny_call_defAt (fd := ksFn "__init__" qual (args1 a1 a2 f) (body1 P tx f) (scope1 f) .none kV doc pm an (.ref cda) ct cc) (body := body1 P tx f) (binds := [("self", .ref x), (f, v)]) hroom (X _ _ ho) rfl Tp.nolimit (codeRec_of X hcd) rfl (hb _ _ _ _ _ _ _) hnc hlo (fun h₁ hns hk₁ => ?_)
  have hLx : s.heap.objs.size ≠ x := Nat.ne_of_gt (Heap.lt_size hx)
  have ms : (fun y => ([("self", Value.ref x), (f, v)] : List (Str × Value)).reverse.lookup y) "self" = some (.ref x) := by simp [List.lookup, flip n1]
  have mf : (fun y => ([("self", Value.ref x), (f, v)] : List (Str × Value)).reverse.lookup y) f = some v := by simp [List.lookup]
  obtain ⟨pl, he, hi, hw⟩ := ev s.heap.objs.size cda cc
  refine ks_wpAt_execs_cons (sup_stmt (s := { s with heap := h₁, toks := s.toks + 2 }) (ar := { arg := "self", annotation := none, pos := a1 }) (t0 := t0) T (X.keeps hk₁) (Tp.keeps hk₁) hns ms (hk₁ _ _ hx) hLx ho rfl hcode hvs hfile hcell l2 l3 ls rfl (fun h₂ tk₂ t1 k₂ e₂ => ?_) he hi hw)
  refine wpAt_of_wpAny ?_
  have kk : ∀ b o, b ≠ x → s.heap.get? b = some o → h₂.get? b = some o := fun b o hb z => k₂ b o hb (hk₁ b o z)
  have X₂ : K.In h₂ := fun a o e => kk a o (fun z => by
    subst z
    rw [hnx] at e
    cases e) (X a o e)
  have hns₂ : h₂.Ns s.heap.objs.size (fun y => ([("self", Value.ref x), (f, v)] : List (Str × Value)).reverse.lookup y) := hns.at fun o z => k₂ _ o hLx z
  refine wpAny_execs_cons (plainObj_wpAny_Assign_Attribute ?_)
  refine ESX.ldL (v := v) hns₂ mf (ESX.ldL (v := .ref x) hns₂ ms ?_ rfl ls) rfl l1 n4
  refine set_plain X₂ (ox := HandSPX.excO C t1) (od := none) ⟨e₂, rfl, rfl, trivial⟩ T.sa ?_
  refine osa_new X₂ e₂ hcl (show excTail lkT (.ref C :: bm) = true from hbm) rfl nof (fun h₃ tk₃ dx k₃ dn dne hx₃ hn₃ => ?_)
  refine wpAny_execs_nil ?_
  have z1 : s.heap.objs.size < h₂.objs.size := hns₂.lt
  exact hq h₃ tk₃ dx ⟨fun b o hb e => k₃ b o hb (kk b o hb e), ⟨t1, hx₃⟩, Nat.le_of_lt (Nat.lt_of_lt_of_le z1 dn), dne, hn₃⟩
theorem init2 {P : Ps2} {a1 a2 a3 : Pos} {args : Args} (T : XCls prog K C) (Fn : XFn prog K C fI qual (args2 a1 a2 a3 f f2) (body2 P tx f f2) (scope2 f f2)) (hf : okF f = true) (hf2 : okF f2 = true) (h12 : (f == f2) = false) (nof : findIn K (.ref C) f = some none) (nof2 : findIn K (.ref C) f2 = some none) (ev : EvOk qual (scope2 f f2) fI P.toPs1 tx)
    (X : K.In s.heap) (Tp : XTop s.heap) (hx : s.heap.get? x = some (HandSPX.excO C t0)) (hnx : K.lookup x = none) (hroom : A.depth < recursionLimit)
    (hb : ∀ (kV doc pm : Value) (an : Option Addr) (cdv ct : Value) (cc : Addr), BindsTo s (ksFn "__init__" qual (args2 a1 a2 a3 f f2) (body2 P tx f f2) (scope2 f f2) .none kV doc pm an cdv ct cc) args [("self", .ref x), (f, v), (f2, v2)])
    (hq : ∀ h' tk dx, InitEnd s.heap h' x C dx (fun y => if y = f2 then some v2 else if y = f then some v else none) → R (.ok (.ret .none)) { s with heap := h', toks := tk }) :
    codeAny (model prog w) A (.call (.ref fI) args) R s := by
  obtain ⟨oc, od, kV, doc, pm, an, cda, ct, cc, osl, cl, ccl, cld, cdd, csl, ccs, vs, file, tf, ho, hcd, hcell, hcode, hvs, hfile⟩ := Fn.fn
  obtain ⟨n1, n2, n3, n4⟩ := okF_of hf
  obtain ⟨m1, m2, m3, m4⟩ := okF_of hf2
  have l1 : (scope2 f f2).names.lookup f = some .local := by simp [List.lookup, n1]
  have l1' : (scope2 f f2).names.lookup f2 = some .local := by simp [List.lookup, m1, flip h12]
  have l2 : (scope2 f f2).names.lookup ("super" : Str) = some .globalImplicit := by simp [List.lookup, flip n2, flip m2]; rfl
  have l3 : (scope2 f f2).names.lookup ("__class__" : Str) = some .free := by simp [List.lookup, flip n3, flip m3]; rfl
  have ls : (scope2 f f2).names.lookup ("self" : Str) = some .local := by simp [List.lookup]
  have hnc : ∀ y ∈ (scope2 f f2).names, y.2 ≠ .cell := by
    intro y hy
    simp only [scope1, List.mem_cons, List.mem_nil_iff, or_false] at hy
    rcases hy with rfl | rfl | rfl | rfl | rfl <;> simp
  have hlo : ∀ y ∈ ([("self", .ref x), (f, v), (f2, v2)] : List (Str × Value)), (scope2 f f2).names.lookup y.1 = some .local := by
    intro y hy
    simp only [List.mem_cons, List.mem_nil_iff, or_false] at hy
    rcases hy with rfl | rfl | rfl
    · exact ls
    · exact l1
    · exact l1'
  obtain ⟨nm, q, N, bs, bm, sn, sub, ab, col, dd, k0, k1, k2, k3, k5, hC, hbm⟩ := T.cls
  have hcl : clsIn K C = some { name := nm, bases := bs, mro := .ref C :: bm, ns := N, qualname := q, hasDict := true, slotNames := sn, subclasses := sub, abstract := ab, collection := col, hasDel := false } := by unfold clsIn; rw [hC] <;> rfl
  refine ks_codeAny_call_defAt (fd := ksFn "__init__" qual (args2 a1 a2 a3 f f2) (body2 P tx f f2) (scope2 f f2) .none kV doc pm an (.ref cda) ct cc) (body := body2 P tx f f2) (binds := [("self", .ref x), (f, v), (f2, v2)]) hroom (X _ _ ho) rfl Tp.nolimit (codeRec_of X hcd) rfl (hb _ _ _ _ _ _ _) hnc hlo (fun h₁ hns hk₁ => ?_)
  have hLx : s.heap.objs.size ≠ x := Nat.ne_of_gt (Heap.lt_size hx)
  have ms : (fun y => ([("self", Value.ref x), (f, v), (f2, v2)] : List (Str × Value)).reverse.lookup y) "self" = some (.ref x) := by simp [List.lookup, flip n1, flip m1]
  have mf : (fun y => ([("self", Value.ref x), (f, v), (f2, v2)] : List (Str × Value)).reverse.lookup y) f = some v := by simp [List.lookup, h12]
  have mf2 : (fun y => ([("self", Value.ref x), (f, v), (f2, v2)] : List (Str × Value)).reverse.lookup y) f2 = some v2 := by simp [List.lookup]
  obtain ⟨pl, he, hi, hw⟩ := ev s.heap.objs.size cda cc
  refine ks_wpAt_execs_cons (sup_stmt (s := { s with heap := h₁, toks := s.toks + 3 }) (ar := { arg := "self", annotation := none, pos := a1 }) (t0 := t0) T (X.keeps hk₁) (Tp.keeps hk₁) hns ms (hk₁ _ _ hx) hLx ho rfl hcode hvs hfile hcell l2 l3 ls rfl (fun h₂ tk₂ t1 k₂ e₂ => ?_) he hi hw)
  refine wpAt_of_wpAny ?_
  have kk : ∀ b o, b ≠ x → s.heap.get? b = some o → h₂.get? b = some o := fun b o hb z => k₂ b o hb (hk₁ b o z)
  have X₂ : K.In h₂ := fun a o e => kk a o (fun z => by
    subst z
    rw [hnx] at e
    cases e) (X a o e)
  have hns₂ : h₂.Ns s.heap.objs.size (fun y => ([("self", Value.ref x), (f, v), (f2, v2)] : List (Str × Value)).reverse.lookup y) := hns.at fun o z => k₂ _ o hLx z
  refine wpAny_execs_cons (plainObj_wpAny_Assign_Attribute ?_)
  refine ESX.ldL (v := v) hns₂ mf (ESX.ldL (v := .ref x) hns₂ ms ?_ rfl ls) rfl l1 n4
  refine set_plain X₂ (ox := HandSPX.excO C t1) (od := none) ⟨e₂, rfl, rfl, trivial⟩ T.sa ?_
  refine osa_new X₂ e₂ hcl (show excTail lkT (.ref C :: bm) = true from hbm) rfl nof (fun h₃ tk₃ dx k₃ dn dne hx₃ hn₃ => ?_)
  have z1 : s.heap.objs.size < h₂.objs.size := hns₂.lt
  have hns₃ : h₃.Ns s.heap.objs.size (fun y => ([("self", Value.ref x), (f, v), (f2, v2)] : List (Str × Value)).reverse.lookup y) := hns₂.at fun o z => k₃ _ o hLx z
  have X₃ : K.In h₃ := fun a o e => k₃ a o (fun z => by
    subst z
    rw [hnx] at e
    cases e) (X₂ a o e)
  refine wpAny_execs_cons (plainObj_wpAny_Assign_Attribute ?_)
  refine ESX.ldL (v := v2) hns₃ mf2 (ESX.ldL (v := .ref x) hns₃ ms ?_ rfl ls) rfl l1' m4
  have hwi : Within (fun y => if y = f then some v else none) [f] := fun y hy => by
    by_cases e : y = f
    · rw [e]; exact List.mem_cons_self ..
    · exact absurd (if_neg e) hy
  obtain ⟨oD, _, _, hoD, _, _⟩ := hn₃.count hwi
  refine set_plain X₃ (ox := { cls := .ref C, dict := some dx, data := .fields #[.ref t1, .none, .none, .none, .bool false, .none] }) (od := some oD) ⟨hx₃, rfl, rfl, hoD⟩ T.sa ?_
  refine osa_old X₃ hx₃ hn₃ hwi (by show 1 ≤ 1000; decide) hcl (show excTail lkT (.ref C :: bm) = true from hbm) rfl nof2 (fun h₄ tk₄ k₄ hn₄ => ?_)
  refine wpAny_execs_nil ?_
  have nd : ∀ {b : Addr} {o : Obj}, s.heap.get? b = some o → b ≠ dx := fun {b o} q => Nat.ne_of_lt (Nat.lt_of_lt_of_le (Heap.lt_size q) (Nat.le_of_lt (Nat.lt_of_lt_of_le z1 dn)))
  exact hq h₄ tk₄ dx ⟨fun b o hb e => k₄ b o (nd e) (k₃ b o hb (kk b o hb e)), ⟨t1, k₄ _ _ (Ne.symm dne) hx₃⟩, Nat.le_of_lt (Nat.lt_of_lt_of_le z1 dn), dne, hn₄⟩

/-- a made exception at e -/
structure OwnMade (h h' : Heap) (e C d : Addr) (mm : Str → Option Value) : Prop where
  keep : ∀ b o, h.get? b = some o → h'.get? b = some o
  new : h.objs.size ≤ e
  obj : ∃ t1 : Addr, h'.get? e = some { cls := .ref C, dict := some d, data := .fields #[.ref t1, .none, .none, .none, .bool false, .none] }
  dbig : h.objs.size ≤ d
  dne : d ≠ e
  ns : h'.Ns1 d mm
theorem made {params : Arguments} {body : List Stmt} {scope : Scope} {rest : List Value} {kw : List (Str × Value)} {mm : Str → Option Value} (T : XCls prog K C) (Fn : XFn prog K C fI qual params body scope) (X : K.In s.heap) (Tp : XTop s.heap) (hz : rest.length ≤ sizeLine)
    (hi : ∀ (s' : Shared) (A' : Around) (x t0 : Addr) (R' : Result → Shared → Prop), K.In s'.heap → XTop s'.heap → s'.heap.get? x = some (HandSPX.excO C t0) → K.lookup x = none → A'.depth ≤ A.depth + 1 →
      (∀ h' tk dx, InitEnd s'.heap h' x C dx mm → R' (.ok (.ret .none)) { s' with heap := h', toks := tk }) → codeAny (model prog w) A' (.call (.ref fI) ⟨.ref x :: rest, kw⟩) R' s')
    (hq : ∀ h' tk e d, OwnMade s.heap h' e C d mm → R (.ok (.ret (.ref e))) { s with heap := h', toks := tk }) :
    codeAny (model prog w) A (.call (.ref C) ⟨rest, kw⟩) R s := by
  obtain ⟨nm, q, N, bs, bm, sn, sub, ab, col, dd, k0, k1, k2, k3, k5, hC, hbm⟩ := T.cls
  obtain ⟨hp, g, dr, tk, os⟩ := s
  have k : ∀ b o, hp.get? b = some o → ((hp.push (kdv_tup rest)).push (HandSPX.excO C hp.objs.size)).get? b = some o := fun b o e => Heap.get?_push_of_some _ (Heap.get?_push_of_some _ e)
  have hget : ((hp.push (kdv_tup rest)).push (HandSPX.excO C hp.objs.size)).get? (hp.objs.size + 1) = some (HandSPX.excO C hp.objs.size) := by heap_get
  have hnx : K.lookup (hp.objs.size + 1) = none := by
    cases e : K.lookup (hp.objs.size + 1) with
    | none => rfl
    | some o =>
      have z : hp.get? (hp.objs.size + 1) = some o := X _ _ e
      exact absurd (Nat.lt_of_succ_lt (Heap.lt_size z)) (Nat.lt_irrefl _)
  refine call_ownK F.excBase_LookupError (fun Y => excTail_contains Y bm hbm) (X _ _ hC) (looks_findIn X Fn.iC) (fun self => bind_fn X self Fn.tI) hz ?_
  refine hi ⟨(hp.push (kdv_tup rest)).push (HandSPX.excO C hp.objs.size), g, dr, tk, os⟩ _ (hp.objs.size + 1) hp.objs.size _ (X.keeps k) (Tp.keeps k) hget hnx (Nat.le_refl _) fun h' tk' dx IE => ?_
  have old : ∀ b o, hp.get? b = some o → h'.get? b = some o := fun b o e => IE.keep b o (Nat.ne_of_lt (Nat.lt_succ_of_lt (Heap.lt_size e))) (k b o e)
  have z : hp.objs.size + 1 + 1 ≤ dx := by
    have q := IE.dbig
    rw [show ({ heap := (hp.push (kdv_tup rest)).push (HandSPX.excO C hp.objs.size), gens := g, drawn := dr, toks := tk, os := os } : Shared).heap.objs.size = hp.objs.size + 1 + 1 from by rw [Heap.size_push, Heap.size_push]] at q
    exact q
  exact ⟨rfl, hq h' tk' (hp.objs.size + 1) dx ⟨old, Nat.le_succ _, IE.obj, Nat.le_trans (Nat.le_trans (Nat.le_succ _) (Nat.le_succ _)) z, IE.dne, IE.ns⟩⟩
end
end XL
end PySem
namespace L2
open PySem PySem.Spec PyProof.Rows
/-! ### exceptions of own classes (over LookupError) as values: made, their fields read, isinstance -/
section
variable {X : Cx} {pins : List (Addr × Obj)} {σ : St} {H : Hp} {s : Shared}
theorem Inv.xtop (I : Inv X pins σ H s) : XL.XTop s.heap :=
  ⟨⟨_, I.mod.glob.keeps I.bk⟩, let ⟨mb, h1, h2⟩ := I.mod.blt; ⟨mb, h1.keeps I.bk, h2⟩, I.nolimit⟩
/-- two objects that are new -/
theorem Inv.laid2 {a d : Addr} {oa od : HO} {t' : Nat} {h' : Heap} (I : Inv X pins σ H s) (k : ∀ b u, s.heap.get? b = some u → h'.get? b = some u) (ha : s.heap.objs.size ≤ a) (hd : s.heap.objs.size ≤ d) (hne : d ≠ a)
    (na : ObjOk X.prog X.w (upd (upd H d od) a oa) h' a oa) (nd : ObjOk X.prog X.w (upd (upd H d od) a oa) h' d od) : Inv X pins σ (upd (upd H d od) a oa) { s with heap := h', toks := t' } := by
  have fa := I.hok.fresh ha
  have fd := I.hok.fresh hd
  have la : ∀ {b : Addr} {u : Obj}, s.heap.get? b = some u → b ≠ a := fun q => Nat.ne_of_lt (Nat.lt_of_lt_of_le (Heap.lt_size q) ha)
  have ld : ∀ {b : Addr} {u : Obj}, s.heap.get? b = some u → b ≠ d := fun q => Nat.ne_of_lt (Nat.lt_of_lt_of_le (Heap.lt_size q) hd)
  have up : ∀ {b : Addr} {u : HO}, H b = some u → upd (upd H d od) a oa b = some u := fun q => by rw [upd_ne (ne_of_none q fa), upd_ne (ne_of_none q fd)]; exact q
  refine I.un (t' := t') (h' := h') {
    keep := fun b u q _ _ _ => k b u q
    slot := fun b u q _ _ _ => ⟨u.slots, k b u q⟩
    free := fun b u q n _ => by rw [upd_ne (la q), upd_ne (ld q)]; exact n
    there := fun b u q _ => ⟨u, k b u q⟩
    tups := fun b xs q => up q
    frzs := fun b u xs q => up q
    tbls := fun b ps q => ⟨#[], by rw [up q]; simp⟩ } fun b u e => ?_
  by_cases hb : b = a
  · subst hb; rw [upd_same] at e; cases e; exact na
  · rw [upd_ne hb] at e
    by_cases hb' : b = d
    · subst hb'; rw [upd_same] at e; cases e; exact nd
    · rw [upd_ne hb'] at e
      exact (I.hok b u e).stay (fun c v _ q => k c v q) (fun c q => up q) fun c xs q => up q
end
theorem pe_gref {X : Cx} {x : Str} {C : Addr} {pos : Pos} (hg : Gl X x) (hm : X.mg x = some (.ref C)) (hd : (x == ("__debug__" : Str)) = false := by decide) : PE X (.Name x pos) (tC (.ref C)) := pe_glob hg hm rfl hd
/-- C(us, ks = ws) can be made; its fields then are gV's -/
def XMk (P : Program) (w : World) (K : PySem.W.Frag) (C : Addr) (n : Nat) (ks : List Str) (gV : List V → List V → List (Str × V)) : Prop :=
  ∀ (A : Around) (s : Shared) (R : Result → Shared → Prop) (us ws : List Value) (vs zs : List V), Vals vs us → Vals zs ws → us.length = n → ws.length = ks.length → K.In s.heap → XL.XTop s.heap → A.depth + 2 < recursionLimit →
    (∀ h' tk e d mm, XL.OwnMade s.heap h' e C d mm → (∀ f, RelO ((gV vs zs).lookup f) (mm f)) → R (.ok (.ret (.ref e))) { s with heap := h', toks := tk }) →
    codeAny (model P w) A (.call (.ref C) ⟨us, ks.zip ws⟩) R s
/-- a new exception of the class C with the fields gV -/
def tXv (C : Addr) (n m : Nat) (gV : List V → List V → List (Str × V)) (ta tk : TA) : TE := fun σ H Q => ta σ H fun vs H1 => tk σ H1 fun zs H2 => vs.length = n ∧ zs.length = m ∧
  ∀ a d, H2 a = none → H2 d = none → d ≠ a → Q (.ref a) (upd (upd H2 d (exd d (gV vs zs))) a (exo a C (some d)))
section
variable {X : Cx} {n k : Nat} {C : Addr} {ks : List Str} {x : Str} {p pos : Pos} {e : Expr} {es : List Expr} {kws : List Keyword} {t tk : TA} {gV : List V → List V → List (Str × V)}
theorem run_xv {pins : List (Addr × Obj)} {σ : St} {H : Hp} {s : Shared} {Q : VK} {us ws : List Value} {vs zs : List V} (M : XMk X.prog X.w X.K C n ks gV) (hr : Room k X.A) (I : Inv X pins σ H s) (r : Vals vs us) (rz : Vals zs ws) (l1 : vs.length = n) (l2 : zs.length = ks.length)
    (h : ∀ a d, H a = none → H d = none → d ≠ a → Q (.ref a) (upd (upd H d (exd d (gV vs zs))) a (exo a C (some d)))) :
    wpAny (model X.prog X.w) X.A (call (.ref C) us (ks.zip ws)) (EP X pins σ Q) X.xe s := by
  refine wpAny_call (M _ s _ us ws vs zs r rz (r.length.symm.trans l1) (rz.length.symm.trans l2) I.kIn I.xtop (by have := hr.dp; omega) fun h' tk' e' d mm O rel => ?_)
  obtain ⟨t1, ho⟩ := O.obj
  exact ⟨.ref e', _, I.laid2 (t' := tk') O.keep O.new O.dbig O.dne (exo_ok ho) (exd_ok O.ns rel), rfl, h e' d (I.hok.fresh O.new) (I.hok.fresh O.dbig) O.dne⟩
/-- C(e, .., k = v, ..) -/
theorem pe_xv (M : XMk X.prog X.w X.K C n ks gV) (hr : Room k X.A) (hg : Gl X x) (hm : X.mg x = some (.ref C)) (kp : PySem.W.keepIn X.K (.ref C) = true) (ha : PA X (e :: es) t) (hkw : PK X kws tk)
    (hall : (backToKw pos (keywordEach kws X.env)).all (·.1.isSome) = true := by rfl) (hks : (backToKw pos (keywordEach kws X.env)).filterMap (·.1) = ks := by rfl) (hdb : (x == ("__debug__" : Str)) = false := by decide)
    (he : starEach (e :: es) X.env = (false, eval e X.env) :: starEach es X.env := by rfl) (hpl : ((backTo pos (starEach (e :: es) X.env)).any (·.1) || (backToKw pos (keywordEach kws X.env)).any (·.1.isNone)) = false := by rfl) :
    PE X (.Call (.Name x p) (e :: es) kws pos) (tXv C n ks.length gV t tk) := by
  refine ⟨fun pins s σ H Q I h => ?_⟩
  refine wpAny_Call_Name_kw (ld_glob I hg hm ?_ hdb)
  refine PySem.W.callWith_KW (h₀ := X.base) I.ok.mod.kin kp hall (thn (ha.run pos pins s σ H _ I h) fun us s1 ⟨vs, H1, I1, r, q⟩ => ?_) hpl he
  refine thn (hkw.run pos pins s1 σ H1 _ I1 q) fun ws s2 ⟨zs, H2, I2, rz, l1, l2, q2⟩ => ⟨I2.kIn, ?_⟩
  rw [hks]
  exact run_xv M hr I2 r rz l1 l2 q2
/-- C(k = v, ..) -/
theorem pe_xv0 (M : XMk X.prog X.w X.K C 0 ks gV) (hr : Room k X.A) (hg : Gl X x) (hm : X.mg x = some (.ref C)) (kp : PySem.W.keepIn X.K (.ref C) = true) (hkw : PK X kws tk)
    (hall : (backToKw pos (keywordEach kws X.env)).all (·.1.isSome) = true := by rfl) (hks : (backToKw pos (keywordEach kws X.env)).filterMap (·.1) = ks := by rfl) (hdb : (x == ("__debug__" : Str)) = false := by decide)
    (hpl : ((backTo pos (starEach [] X.env)).any (·.1) || (backToKw pos (keywordEach kws X.env)).any (·.1.isNone)) = false := by rfl) :
    PE X (.Call (.Name x p) [] kws pos) (tXv C 0 ks.length gV tNil tk) := by
  refine ⟨fun pins s σ H Q I h => ?_⟩
  refine wpAny_Call_Name_kw (ld_glob I hg hm ?_ hdb)
  refine PySem.W.callWith_KW0 (h₀ := X.base) I.ok.mod.kin kp hall ?_ hpl
  refine thn (hkw.run pos pins s σ H _ I h) fun ws s2 ⟨zs, H2, I2, rz, l1, l2, q2⟩ => ⟨I2.kIn, ?_⟩
  rw [hks]
  exact run_xv (us := []) (vs := []) M hr I2 .nil rz rfl l2 q2
end
section
variable {P : Program} {w : World} {K : PySem.W.Frag} {C fI : Addr} {qual tx f f2 : Str}
open PySem.XL in
theorem xmk1 {Ps : Ps1} {a1 a2 : Pos} (T : XCls P K C) (Fn : XFn P K C fI qual (args1 a1 a2 f) (body1 Ps tx f) (scope1 f)) (hf : okF f = true) (nof : PySem.W.findIn K (.ref C) f = some none) (ev : EvOk qual (scope1 f) fI Ps tx)
    (hb : ∀ (s : Shared) (x : Addr) (v : Value) (kV doc pm : Value) (an : Option Addr) (cdv ct : Value) (cc : Addr), BindsTo s (PySem.W.ksFn "__init__" qual (args1 a1 a2 f) (body1 Ps tx f) (scope1 f) .none kV doc pm an cdv ct cc) ⟨[.ref x, v], []⟩ [("self", .ref x), (f, v)]) :
    XMk P w K C 1 [] (fun vs _ => [(f, vs.headD .non)]) := by
  intro A s R us ws vs zs r rz l1 l2 X Tp dp hq
  cases r with
  | nil => cases l1
  | @cons v u vs' us' ru rr =>
    cases rr with
    | cons _ _ => cases l1
    | nil =>
      show codeAny _ _ (.call (.ref C) ⟨[u], []⟩) _ _
      refine made (mm := fun y => if y = f then some u else none) T Fn X Tp (by show 1 ≤ sizeLine; rw [sizeLine_eq]; decide) (fun s' A' x t0 R' X' Tp' hx hnx hA hq' => ?_) fun h' tk e d O => hq h' tk e d _ O fun g => ?_
      · exact init1 T Fn hf nof ev X' Tp' hx hnx (by omega) (hb s' x u) hq'
      · rw [lookup_put]
        by_cases e : g = f
        · rw [if_pos e, if_pos e]; exact ru
        · rw [if_neg e, if_neg e]; exact True.intro
open PySem.XL in
theorem xmk1k {Ps : Ps1} {a1 a2 : Pos} (T : XCls P K C) (Fn : XFn P K C fI qual (args1 a1 a2 f) (body1 Ps tx f) (scope1 f)) (hf : okF f = true) (nof : PySem.W.findIn K (.ref C) f = some none) (ev : EvOk qual (scope1 f) fI Ps tx)
    (hb : ∀ (s : Shared) (x : Addr) (v : Value) (kV doc pm : Value) (an : Option Addr) (cdv ct : Value) (cc : Addr), BindsTo s (PySem.W.ksFn "__init__" qual (args1 a1 a2 f) (body1 Ps tx f) (scope1 f) .none kV doc pm an cdv ct cc) ⟨[.ref x], [(f, v)]⟩ [("self", .ref x), (f, v)]) :
    XMk P w K C 0 [f] (fun _ zs => [(f, zs.headD .non)]) := by
  intro A s R us ws vs zs r rz l1 l2 X Tp dp hq
  cases r with
  | cons _ _ => cases l1
  | nil =>
    cases rz with
    | nil => cases l2
    | @cons v u vs' us' ru rr =>
      cases rr with
      | cons _ _ => cases l2
      | nil =>
        show codeAny _ _ (.call (.ref C) ⟨[], [(f, u)]⟩) _ _
        refine made (mm := fun y => if y = f then some u else none) T Fn X Tp (by show 0 ≤ sizeLine; omega) (fun s' A' x t0 R' X' Tp' hx hnx hA hq' => ?_) fun h' tk e d O => hq h' tk e d _ O fun g => ?_
        · exact init1 T Fn hf nof ev X' Tp' hx hnx (by omega) (hb s' x u) hq'
        · rw [lookup_put]
          by_cases e : g = f
          · rw [if_pos e, if_pos e]; exact ru
          · rw [if_neg e, if_neg e]; exact True.intro
theorem rel2 {v v2 : V} {u u2 : Value} (r : RelV v u) (r2 : RelV v2 u2) (g : Str) : RelO (([(f2, v2), (f, v)] : List (Str × V)).lookup g) (if g = f2 then some u2 else if g = f then some u else none) := by
  rw [lookup_put]
  by_cases e : g = f2
  · rw [if_pos e, if_pos e]; exact r2
  · rw [if_neg e, if_neg e, lookup_put]
    by_cases e' : g = f
    · rw [if_pos e', if_pos e']; exact r
    · rw [if_neg e', if_neg e']; exact True.intro
open PySem.XL in
theorem xmk2 {Ps : Ps2} {a1 a2 a3 : Pos} (T : XCls P K C) (Fn : XFn P K C fI qual (args2 a1 a2 a3 f f2) (body2 Ps tx f f2) (scope2 f f2)) (hf : okF f = true) (hf2 : okF f2 = true) (h12 : (f == f2) = false) (nof : PySem.W.findIn K (.ref C) f = some none) (nof2 : PySem.W.findIn K (.ref C) f2 = some none) (ev : EvOk qual (scope2 f f2) fI Ps.toPs1 tx)
    (hb : ∀ (s : Shared) (x : Addr) (v v2 : Value) (kV doc pm : Value) (an : Option Addr) (cdv ct : Value) (cc : Addr), BindsTo s (PySem.W.ksFn "__init__" qual (args2 a1 a2 a3 f f2) (body2 Ps tx f f2) (scope2 f f2) .none kV doc pm an cdv ct cc) ⟨[.ref x, v, v2], []⟩ [("self", .ref x), (f, v), (f2, v2)]) :
    XMk P w K C 2 [] (fun vs _ => [(f2, vs.getD 1 .non), (f, vs.getD 0 .non)]) := by
  intro A s R us ws vs zs r rz l1 l2 X Tp dp hq
  cases r with
  | nil => cases l1
  | @cons v u vs' us' ru rr =>
    cases rr with
    | nil => cases l1
    | @cons v2 u2 vs' us' ru2 rr =>
      cases rr with
      | cons _ _ => cases l1
      | nil =>
        show codeAny _ _ (.call (.ref C) ⟨[u, u2], []⟩) _ _
        refine made (mm := fun y => if y = f2 then some u2 else if y = f then some u else none) T Fn X Tp (by show 2 ≤ sizeLine; rw [sizeLine_eq]; decide) (fun s' A' x t0 R' X' Tp' hx hnx hA hq' => ?_) fun h' tk e d O => hq h' tk e d _ O fun g => rel2 ru ru2 g
        exact init2 T Fn hf hf2 h12 nof nof2 ev X' Tp' hx hnx (by omega) (hb s' x u u2) hq'
open PySem.XL in
/-- by keywords, the second one first -/
theorem xmk2k {Ps : Ps2} {a1 a2 a3 : Pos} (T : XCls P K C) (Fn : XFn P K C fI qual (args2 a1 a2 a3 f f2) (body2 Ps tx f f2) (scope2 f f2)) (hf : okF f = true) (hf2 : okF f2 = true) (h12 : (f == f2) = false) (nof : PySem.W.findIn K (.ref C) f = some none) (nof2 : PySem.W.findIn K (.ref C) f2 = some none) (ev : EvOk qual (scope2 f f2) fI Ps.toPs1 tx)
    (hb : ∀ (s : Shared) (x : Addr) (v v2 : Value) (kV doc pm : Value) (an : Option Addr) (cdv ct : Value) (cc : Addr), BindsTo s (PySem.W.ksFn "__init__" qual (args2 a1 a2 a3 f f2) (body2 Ps tx f f2) (scope2 f f2) .none kV doc pm an cdv ct cc) ⟨[.ref x], [(f2, v2), (f, v)]⟩ [("self", .ref x), (f, v), (f2, v2)]) :
    XMk P w K C 0 [f2, f] (fun _ zs => [(f2, zs.getD 0 .non), (f, zs.getD 1 .non)]) := by
  intro A s R us ws vs zs r rz l1 l2 X Tp dp hq
  cases r with
  | cons _ _ => cases l1
  | nil =>
  cases rz with
  | nil => cases l2
  | @cons v2 u2 vs' us' ru2 rr =>
    cases rr with
    | nil => cases l2
    | @cons v u vs' us' ru rr =>
      cases rr with
      | cons _ _ => cases l2
      | nil =>
        show codeAny _ _ (.call (.ref C) ⟨[], [(f2, u2), (f, u)]⟩) _ _
        refine made (mm := fun y => if y = f2 then some u2 else if y = f then some u else none) T Fn X Tp (by show 0 ≤ sizeLine; omega) (fun s' A' x t0 R' X' Tp' hx hnx hA hq' => ?_) fun h' tk e d O => hq h' tk e d _ O fun g => rel2 ru ru2 g
        exact init2 T Fn hf hf2 h12 nof nof2 ev X' Tp' hx hnx (by omega) (hb s' x u u2) hq'
end
/-- what an own exception class must say for its instances to be read and asked -/
structure XAsk (K : PySem.W.Frag) (D : Addr) : Prop where
  hg : PySem.W.findIn K (.ref D) "__getattribute__" = some (some (.builtin "BaseException.__getattribute__"))
  hk : PySem.W.findIn K (.ref D) "__getattr__" = some none
  hs : PySem.W.subIn K (.ref D) (.type "BaseException") = some true
  hd : PySem.W.hasDictIn K D = true
  ha : PySem.W.findIn K (.ref D) "__class__" = some (some (.builtin "object.__class__"))
  hn : PySem.W.specialIn K (.builtin "object.__class__") "__get__" = some (some (.builtin "getset_descriptor.__get__"))
  ht : PySem.W.takesIn K (.builtin "object.__class__") = some true
  hm : PySem.W.mroIn K D (.type "object") = some true
/-- e.f, e an exception that is held as a value -/
def tXat (K : PySem.W.Frag) (f : Str) (te : TE) : TE := fun σ H Q => te σ H fun x H1 => ∃ (a C d : Addr) (fs : List (Str × V)) (v : V), x = .ref a ∧ H1 a = some (exo a C (some d)) ∧ H1 d = some (exd d fs) ∧ XAsk K C ∧ PySem.W.findIn K (.ref C) f = some none ∧ fs.lookup f = some v ∧ Q v H1
/-- isinstance(e, c) -/
def rXis (K : PySem.W.Frag) : List V → Hp → VK → Prop := fun xs H Q => ∃ (a C d : Addr) (fs : List (Str × V)) (c : V) (u : Value) (b : Bool), xs = [.ref a, c] ∧ ClsV c u ∧ H a = some (exo a C (some d)) ∧ H d = some (exd d fs) ∧ XAsk K C ∧ PySem.W.kitOne K (.ref C) u = some b ∧ Q (.bl b) H
section
variable {X : Cx} {pins : List (Addr × Obj)} {σ : St} {H : Hp} {s : Shared}
theorem Inv.inst {a C d : Addr} {fs : List (Str × V)} (I : Inv X pins σ H s) (ea : H a = some (exo a C (some d))) (ed : H d = some (exd d fs)) :
    ∃ (oe od : Obj) (mA : Str → Option Value), PySem.W.InstAt s.heap a oe C (some od) ∧ (∀ f, RelO (fs.lookup f) (mA f)) ∧ ∀ f, PySem.W.lookIn f od = some (mA f) := by
  obtain ⟨t1, ho⟩ := exo_at I.hok ea
  obtain ⟨mA, hns, hr⟩ := exd_at I.hok ed
  obtain ⟨od, hod, hl⟩ := lookIn_ns hns
  exact ⟨_, od, mA, ⟨ho, rfl, rfl, hod⟩, hr, hl⟩
theorem pe_xat {e : Expr} {te : TE} {pos : Pos} {f : Str} (he : PE X e te) (hb : attributeBase e f X.env (eval e X.env) = eval e X.env := by rfl) : PE X (.Attribute e f pos) (tXat X.K f te) := by
  refine ⟨fun pins s σ H Q I h => ?_⟩
  refine attr_of hb (thn (he.run pins s σ H _ I h) fun u s1 ⟨x, H1, I1, rx, a, C, d, fs, v, ex, ea, ed, T, hno, l, q⟩ => ?_)
  subst ex
  obtain rfl : u = Value.ref a := rx
  obtain ⟨oe, od, mA, J, hr, hl⟩ := I1.inst ea ed
  obtain ⟨u, hu, ru⟩ := RelO.some_of (v := v) (o := mA f) (by rw [← l]; exact hr f)
  exact HandSPX.exc_get I1.kIn J T.hg T.hk T.hs (PySem.W.findObj_own T.hd hno rfl (by rw [hl, hu])) (handed_of ru) ⟨v, H1, I1.tok _, ru, q⟩
theorem call_xis : CallR X (.builtin "isinstance") (rXis X.K) := by
  intro pins s σ H xs us Q I r h
  obtain ⟨a, C, d, fs, c, u, b, rfl, k, ea, ed, T, e, q⟩ := h
  obtain ⟨u1, u2, rfl, r1, r2⟩ := vals2 r
  have e2 := k.eq r2
  subst e2
  obtain rfl : u1 = Value.ref a := r1
  obtain ⟨oe, od, mA, J, hr, hl⟩ := I.inst ea ed
  obtain ⟨cd, hc, _⟩ := PySem.W.any_some T.hd
  exact PySem.W.kia_one (PySem.W.kitx_exc (by rw [hc]; rfl) T.hg T.hk T.hs T.ha T.hn T.ht T.hm) I.kIn J e (fun z => nomatch z) fun tk => ⟨.bl b, H, I.tok tk, rfl, q⟩
end
end L2
namespace L2
open PySem PySem.Spec PyProof.Rows
/-! ### raise C(e, ..), C an own class over LookupError -/
/-- C(e, ..) to be raised: its own dict d, new, holds the fields -/
def tXmk (C : Addr) (n : Nat) (gV : List V → List V → List (Str × V)) (ta : TA) : L2.St → Hp → XK → Prop := fun σ H Q => ta σ H fun vs H1 => vs.length = n ∧ ∀ d, H1 d = none → Q (.ref C) (some d) (upd H1 d (.xd (gV vs [])))
theorem pmk_x {X : Cx} {x : Str} {C : Addr} {n k : Nat} {e : Expr} {es : List Expr} {ta : TA} {p pos : Pos} {gV : List V → List V → List (Str × V)} (M : XMk X.prog X.w X.K C n [] gV) (hr : Room k X.A) (hg : Gl X x) (hm : X.mg x = some (.ref C)) (kp : PySem.W.keepIn X.K (.ref C) = true) (rs : Raises X (.ref C)) (ha : PA X (e :: es) ta)
    (hdb : (x == ("__debug__" : Str)) = false := by decide) (he : starEach (e :: es) X.env = (false, eval e X.env) :: starEach es X.env := by rfl) (hpl : (backTo pos (starEach es X.env)).any (·.1) = false := by rfl) :
    PMk X (.Call (.Name x p) (e :: es) [] pos) (tXmk C n gV ta) := by
  intro pins s σ H Q I h
  refine wpAny_Call_Name_kw (ld_glob I hg hm ?_ hdb)
  refine PySem.W.callWith_K (h₀ := X.base) I.ok.mod.kin kp (thn (ha.run pos pins s σ H _ I h) fun us s1 ⟨vs, H1, I1, r1, l1, q1⟩ => ⟨I1.kIn, ?_⟩) he hpl
  show wpAny _ _ (call (.ref C) us) _ _ _
  refine wpAny_call (M _ s1 _ us [] vs [] r1 .nil (r1.length.symm.trans l1) rfl I1.kIn I1.xtop (by have := hr.dp; omega) fun h' tk' e' d mm O rel => ?_)
  obtain ⟨hp, g, dr, tk, os⟩ := s1
  obtain ⟨t1, hoe⟩ := O.obj
  obtain ⟨G', g1, g2⟩ := restrict h' fun b => decide (b ≠ e')
  have gk : ∀ b, b ≠ e' → G'.get? b = h'.get? b := fun b hb => g1 b (decide_eq_true hb)
  have ge : G'.get? e' = none := g2 e' (by simp)
  have old : ∀ b o, hp.get? b = some o → G'.get? b = some o := fun b o q => (gk b (Nat.ne_of_lt (Nat.lt_of_lt_of_le (Heap.lt_size q) O.new))).trans (O.keep b o q)
  have ob : ObjOk X.prog X.w (upd H1 d (.xd (gV vs []))) G' d (.xd (gV vs [])) := ⟨_, O.ns.at (fun o q => (gk d O.dne).trans q), rel⟩
  have J : Inv X pins σ (upd H1 d (.xd (gV vs []))) ⟨G', g, dr, tk', os⟩ := I1.laid (t' := tk') old O.dbig ob
  refine ⟨e', _, _, ⟨G', g, dr, tk', os⟩, _, .ref C, some d, rfl, J, fun b o q => ?_, ge, hoe, ⟨rfl, rfl⟩, rfl, rfl, ?_, rfl, I1.bare, rs, q1 d (I1.hok.fresh O.dbig)⟩
  · by_cases hb : b = e'
    · have q' : G'.get? b = some o := q
      rw [hb, ge] at q'; cases q'
    · exact (gk b hb).symm.trans q
  · rw [upd_ne (Ne.symm O.dne)]
    exact I1.hok.fresh O.new
end L2
namespace L2
open PySem PySem.Spec PyProof.Rows
/-! ### zip of a text and a tuple -/
/-- the text x and the tuple at b, the items in new pairs -/
def ItzS (K : PySem.W.Frag) (x : Str) (b : Addr) : It :=
  ⟨fun i H => ∃ (ys : List V) (c : Nat) (y : V), SqT K H b ys ∧ x.cps[i]? = some c ∧ ys[i]? = some y ∧ i ≤ x.cps.size ∧ i ≤ ys.length,
    fun i H v H' => ∃ T c y, v = .ref T ∧ H T = none ∧ H' = upd H T (.tup [.str ⟨#[c]⟩, y]) ∧ x.cps[i]? = some c ∧ ∀ ys, SqT K H b ys → ys[i]? = some y,
    fun i H => ∃ ys : List V, SqT K H b ys ∧ i ≤ x.cps.size ∧ i ≤ ys.length ∧ (i = x.cps.size ∨ i = ys.length)⟩
theorem draws_text {prog : Program} {w : World} {A : Around} (hh : A.handled = none) (it : Addr) (x : Str) (t : Tok) (ty : String) (hty : ty = "str_ascii_iterator" ∨ ty = "str_iterator") :
    Draws prog w A it [it] x.cps.size (fun i v => ∃ c u, x.cps[i]? = some c ∧ v = .str ⟨#[c]⟩ u) (fun i h => h.IsStrIter it ty x t i) := by
  rcases hty with rfl | rfl
  · exact Draws.strAscii hh it x t
  · exact Draws.strWide hh it x t
theorem turn_zipS {P : Program} {w : World} {K : PySem.W.Frag} {elts : List Expr} {kk : Nat} {tpos : Pos} {b z TI TO i1 i2 : Addr} {x : Str} {t : Tok} {ty : String} (hty : ty = "str_ascii_iterator" ∨ ty = "str_iterator") (D : ZipSep2 z TI TO i1 i2 [i1] [i2, b]) (hb : b ≠ i2) :
    Turn P w K (.Tuple elts kk tpos) (ItzS K x b) [z, TI, TO, i1, i2] z (fun i h => IsZip h z TI TO .none ∧ IsTupOf2 h TI (.ref i1) (.ref i2) ∧ (∃ x y, IsTupOf2 h TO x y) ∧ h.IsStrIter i1 ty x t i ∧ h.IsTupleIter i2 b i) where
  mem := by simp
  obj := fun i h st c hc => by
    obtain ⟨hz, hTI, ⟨x, y, hTO⟩, ⟨o1, e1, _, d1⟩, ⟨o2, e2, _, d2⟩⟩ := st
    have e' : c = z ∨ c = TI ∨ c = TO ∨ c = i1 ∨ c = i2 := by simpa using hc
    rcases e' with q | q | q | q | q
    · rw [q]; exact ⟨_, hz, fun v q => nomatch q⟩
    · rw [q]; exact ⟨_, hTI, fun v q => nomatch q⟩
    · rw [q]; exact ⟨_, hTO, fun v q => nomatch q⟩
    · rw [q]; exact ⟨o1, e1, fun v q => by rw [d1] at q; cases q⟩
    · rw [q]; exact ⟨o2, e2, fun v q => by rw [d2] at q; cases q⟩
  keep := fun i h h' st k => by
    obtain ⟨hz, hTI, ⟨x, y, hTO⟩, ⟨o, ho, r⟩, h2⟩ := st
    exact ⟨k z (by simp) _ hz, k TI (by simp) _ hTI, ⟨x, y, k TO (by simp) _ hTO⟩, ⟨o, k i1 (by simp) o ho, r⟩, h2.at fun o q => k i2 (by simp) o q⟩
  item := by
    intro X hP hw hK hc i pins s σ H E I hf st hg
    subst hP hw hK
    obtain ⟨hz, hTI, ⟨x0, y0, hTO⟩, h1, h2⟩ := st
    obtain ⟨ys, c, y, hqy, hx, hy, l1, l2⟩ := hg
    obtain ⟨its2, rv2, p2, _⟩ := I.tuple hqy
    obtain ⟨u2, hu2, ru2⟩ := rv2.get hy
    have hzl : z < s.heap.objs.size := Heap.lt_size hz
    have hlt1 : i < x.cps.size := (Array.getElem?_eq_some_iff.mp hx).1
    have hlt2 : i < its2.toArray.size := by simpa using (List.getElem?_eq_some_iff.mp hu2).1
    have d1 := draws_text (prog := X.prog) (w := X.w) (A := X.A.in1) (I.ok.hd hc) i1 x t ty hty
    have d2 := Draws.tuple (prog := X.prog) (w := X.w) (A := X.A.in1) (I.ok.hd hc) i2 b hb its2.toArray
    refine wpAny_pyNext_zipD2_item (St1 := fun i h => h.IsStrIter i1 ty x t i) (St2 := fun i h => h.IsTupleIter i2 b i ∧ h.IsTuple b its2.toArray) D d1 d2 hz hTI hTO h1 ⟨h2, p2⟩ hlt1 hlt2 fun x1 x2 h' tk q1 q2 z' TO' h1' h2' hT hsz hk => ?_
    obtain ⟨c', u, hc', rfl⟩ := q1
    rw [hx] at hc'
    cases hc'
    have hx2 : x2 = u2 := by
      have q2' : its2[i]? = some x2 := by simpa using q2
      rw [hu2] at q2'
      exact (Option.some.inj q2').symm
    subst hx2
    refine ⟨_, rfl, wpAny_letOwnedTupleGo_zip (s := { s with heap := h', toks := tk }) z' fun h'' z'' sb => ?_⟩
    have hT2 : h''.get? s.heap.objs.size = some { cls := .type "tuple", data := .seq #[.str ⟨#[c]⟩ u, x2] } := (sb.2 _ (Nat.ne_of_gt hzl)).trans hT
    have new : ObjOk X.prog X.w (upd H s.heap.objs.size (.tup [.str ⟨#[c]⟩, y])) h'' s.heap.objs.size (.tup [.str ⟨#[c]⟩, y]) :=
      ⟨by show 2 ≤ sizeLine; decide, [.str ⟨#[c]⟩ u, x2], .cons ⟨u, rfl⟩ (.cons ru2 .nil), ⟨_, hT2, rfl, _, rfl⟩⟩
    have I1 : Inv X pins σ (upd H s.heap.objs.size (.tup [.str ⟨#[c]⟩, y])) { s with heap := h'', toks := tk } :=
      I.turnedNew (t' := tk) (ch := [z, TI, TO, i1, i2]) (fun c o hb q => (sb.2 c (fun q' => hb (by simp [q']))).trans (hk c o (fun q' => hb (by simp [q'])) (fun q' => hb (by simp [q'])) (fun q' => hb (by simp [q'])) (fun q' => hb (by simp [q'])) q)) hf (Nat.le_refl _) new
    refine ⟨.ref s.heap.objs.size, _, I1, rfl, ⟨_, c, y, rfl, I.hok.fresh (Nat.le_refl _), rfl, hx, fun l hl => by rw [I.tuple_inj hl hqy]; exact hy⟩, ⟨z'', ?_, ⟨.str ⟨#[c]⟩ u, x2, ?_⟩, ?_, ?_⟩, fun c hcm => ?_⟩
    · exact (sb.2 _ D.TIz).trans (hk _ _ D.TIz D.TITO D.TIi1 D.TIi2 hTI)
    · exact (sb.2 _ D.TOz).trans TO'
    · obtain ⟨o, ho, r⟩ := h1'
      exact ⟨o, (sb.2 _ D.zi1.symm).trans ho, r⟩
    · exact h2'.1.at fun o q => (sb.2 _ D.zi2.symm).trans q
    · have hlt : c < s.heap.objs.size := by
        have e' : c = z ∨ c = TI ∨ c = TO ∨ c = i1 ∨ c = i2 := by simpa using hcm
        rcases e' with q | q | q | q | q
        · rw [q]; exact hzl
        · rw [q]; exact Heap.lt_size hTI
        · rw [q]; exact Heap.lt_size hTO
        · rw [q]; obtain ⟨_, e1, _⟩ := h1; exact Heap.lt_size e1
        · rw [q]; obtain ⟨_, e2, _⟩ := h2; exact Heap.lt_size e2
      rw [upd_ne (Nat.ne_of_lt hlt)]
      exact (hf c hcm).1
  done := by
    intro X hP hw hK hc i pins s σ H E I hf st hg
    subst hP hw hK
    obtain ⟨hz, hTI, ⟨x0, y0, hTO⟩, h1, h2⟩ := st
    obtain ⟨ys, hqy, l1, l2, hend⟩ := hg
    obtain ⟨its2, rv2, p2, _⟩ := I.tuple hqy
    have ll := rv2.length
    have l2' : i ≤ its2.toArray.size := by simp; omega
    have he : i = x.cps.size ∨ i = its2.toArray.size := by
      rcases hend with q | q
      · exact .inl q
      · exact .inr (by simp; omega)
    have d1 := draws_text (prog := X.prog) (w := X.w) (A := X.A.in1) (I.ok.hd hc) i1 x t ty hty
    have d2 := Draws.tuple (prog := X.prog) (w := X.w) (A := X.A.in1) (I.ok.hd hc) i2 b hb its2.toArray
    exact wpAny_pyNext_zipD2_end (St1 := fun i h => h.IsStrIter i1 ty x t i) (St2 := fun i h => h.IsTupleIter i2 b i ∧ h.IsTuple b its2.toArray) D d1 d2 hz hTI hTO h1 ⟨h2, p2⟩ l1 l2' he fun h' tk hk => ⟨rfl, I.turnedL (t' := tk) (ch := [z, TI, TO, i1, i2]) (fun c o hb q =>
      hk c o (fun q' => hb (by simp [q'])) (fun q' => hb (by simp [q'])) (fun q' => hb (by simp [q'])) (fun q' => hb (by simp [q'])) q) hf⟩
  self := fun A i s Q E st h => wpAny_pyIter_zip st.1 h
def iZipS (K : PySem.W.Frag) (ta : TA) : TI := fun σ H R => ta σ H fun vs H1 => ∃ (x : Str) (b : Addr) (ys : List V), vs = [.str x, .ref b] ∧ SqT K H1 b ys ∧ R (ItzS K x b) H1
theorem pi_zipS {X : Cx} {e e2 : Expr} {ta : TA} {p pos tpos : Pos} {elts : List Expr} {kk : Nat} (hg : Gl X "zip") (hm : X.mg "zip" = none) (ha : PA X [e, e2] ta)
    (hs : starEach [e, e2] X.env = (false, eval e X.env) :: starEach [e2] X.env := by rfl) (hpl : (backTo pos (starEach [e2] X.env)).any (·.1) = false := by rfl) :
    PI X (.Tuple elts kk tpos) (.Call (.Name "zip" p) [e, e2] [] pos) (iZipS X.K ta) := by
  refine ⟨fun pins s σ H R I h => ?_⟩
  refine Call_ (ld_blt I hg hm PyProof.Rows.boot_zip (PyProof.Rows.callWith_type1 (thn (ha.run pos pins s σ H _ I h) fun us s1 ⟨vs, H1, I1, r1, q1⟩ => ?_) hs hpl))
  obtain ⟨x, b, ys, ex, hqy, q⟩ := q1
  subst ex
  obtain ⟨u1, u2, rfl, r, r'⟩ := vals2 r1
  obtain ⟨t, rfl⟩ := r
  cases r'
  have fresh5 : ∀ c, c ∈ [s1.heap.objs.size + 4, s1.heap.objs.size + 2, s1.heap.objs.size + 3, s1.heap.objs.size, s1.heap.objs.size + 1] → FpOk X pins H1 c := fun c hcm => by
    have e' : c = s1.heap.objs.size + 4 ∨ c = s1.heap.objs.size + 2 ∨ c = s1.heap.objs.size + 3 ∨ c = s1.heap.objs.size ∨ c = s1.heap.objs.size + 1 := by simpa using hcm
    have hle : s1.heap.objs.size ≤ c := by omega
    exact I1.fpOk hle (I1.hok.fresh hle)
  obtain ⟨its2, rv2, p2, _⟩ := I1.tuple hqy
  obtain ⟨o2, ho2, _⟩ := id p2
  have hblt := Heap.lt_size ho2
  refine zip_begins2 (begins_text x t) (begins_tuple b its2.toArray) trivial (show s1.heap.IsTuple b its2.toArray from p2) fun h' hz hTI hTO h1 h2 hsz hk => wpAny_pyIter_zip hz ?_
  have I2 : Inv X pins σ H1 { s1 with heap := h' } := I1.kept (t' := s1.toks) hk
  have sep := zip_sep2 (N := s1.heap.objs.size) (fp1 := []) (fp2 := [b]) (fun _ q => nomatch q) (fun c q => by
    have e : c = b := by simpa using q
    rw [e]; exact hblt)
  have hty : strIterType x = "str_ascii_iterator" ∨ strIterType x = "str_iterator" := by
    unfold strIterType
    split
    · exact .inl rfl
    · exact .inr rfl
  exact ⟨s1.heap.objs.size + 4, [s1.heap.objs.size + 4, s1.heap.objs.size + 2, s1.heap.objs.size + 3, s1.heap.objs.size, s1.heap.objs.size + 1], _, _, H1, rfl, I2, turn_zipS (x := x) (t := t) hty sep (Nat.ne_of_lt (Nat.lt_succ_of_lt hblt)), ⟨hz, hTI, ⟨_, _, hTO⟩, ⟨_, h1, rfl, rfl⟩, ⟨_, h2, rfl, rfl⟩⟩, fresh5, q⟩
/-- a loop over zip of a text and a tuple of one length -/
theorem for_zipS {K : PySem.W.Frag} {b : Addr} {x : Str} {ys : List V} {g : TG} {tb : TS} {D : Ends} {σ : L2.St} {H : Hp} (hl : x.cps.size = ys.length) (Pv : Nat → L2.St → Hp → Prop) (h0 : Pv 0 σ H) (hq : ∀ i σ H, Pv i σ H → SqT K H b ys)
    (hs : ∀ (i c : Nat) (y : V) (T : Addr) (σ : L2.St) (H : Hp), x.cps[i]? = some c → ys[i]? = some y → Pv i σ H → H T = none → g (.ref T) σ (upd H T (.tup [.str ⟨#[c]⟩, y])) fun σ2 H2 => tb { D with nx := Pv (i + 1), ct := Pv (i + 1), bk := D.nx } σ2 H2) (hd : ∀ σ H, Pv ys.length σ H → D.nx σ H) :
    ∃ W : Nat → Nat → L2.St → Hp → Prop, (∃ m, W 0 m σ H) ∧ ∀ i m σ H, W i m σ H →
      ((ItzS K x b).stop i H ∧ D.nx σ H) ∨ ((ItzS K x b).go i H ∧ ∃ N : L2.St → Hp → Prop, (∀ σ' H', N σ' H' → ∃ m', m' < m ∧ W (i + 1) m' σ' H') ∧ ∀ v H', (ItzS K x b).yld i H v H' → g v σ H' fun σ2 H2 => tb { D with nx := N, ct := N, bk := D.nx } σ2 H2) := by
  refine ⟨fun i m σ H => m = ys.length - i ∧ i ≤ ys.length ∧ Pv i σ H, ⟨ys.length, rfl, Nat.zero_le _, h0⟩, ?_⟩
  rintro i m σ H ⟨rfl, hi, p⟩
  have qy := hq i σ H p
  by_cases hlt : i < ys.length
  · have hy : ys[i]? = some ys[i] := List.getElem?_eq_getElem hlt
    have hx : x.cps[i]? = some (x.cps[i]'(by omega)) := Array.getElem?_eq_getElem _
    refine .inr ⟨⟨ys, _, _, qy, hx, hy, by omega, hi⟩, Pv (i + 1), fun σ' H' p' => ⟨ys.length - (i + 1), by omega, rfl, hlt, p'⟩, fun v H' y => ?_⟩
    obtain ⟨T, c, y', rfl, hT, rfl, f1, f2⟩ := y
    exact hs i c y' T σ H f1 (f2 ys qy) p hT
  · have e : i = ys.length := by omega
    subst e
    exact .inl ⟨⟨ys, qy, by omega, Nat.le_refl _, .inr rfl⟩, hd σ H p⟩
end L2
namespace L2
namespace TS
open PySem PySem.Spec PyProof.Rows
/-! ### the set of the texts of a tuple: how many they are -/
/-- how many different ones are among the first i -/
def dist (xs : List Str) : Nat → Nat
  | 0 => 0
  | i + 1 => if (xs.take i).any (· == xs.getD i Str.empty) = true then dist xs i else dist xs i + 1
theorem dist_succ (xs : List Str) (i : Nat) : (if (xs.take i).any (· == xs.getD i Str.empty) = true then dist xs i else dist xs i + 1) = dist xs (i + 1) := rfl
theorem dist_le (xs : List Str) : ∀ i, dist xs i ≤ i
  | 0 => Nat.le_refl _
  | i + 1 => by
    unfold dist
    have := dist_le xs i
    split <;> omega
theorem take_one {α : Type} : ∀ {l : List α} {i : Nat} {x : α}, l[i]? = some x → l.take (i + 1) = l.take i ++ [x]
  | [], i, x, h => by simp at h
  | a :: l, 0, x, h => by
    have e : a = x := Option.some.inj h
    subst e
    rfl
  | a :: l, i + 1, x, h => by
    have ih := take_one (l := l) (i := i) (x := x) h
    show a :: l.take (i + 1) = a :: l.take i ++ [x]
    rw [ih]
    rfl
section
variable {prog : Program} {w : World} {A : Around} {R : Result → Shared → Prop} {I : Addr} {fp wr : List Addr} {G : Array GenState → Array GenState → Prop} {n : Nat} {P : Nat → Value → Prop} {St : Nat → Shared → Prop}
theorem loop_strs (W : WalksS prog w A.in1 I fp wr G n P St) (S : Addr) (hSf : S ∉ fp) (xs : List Str) (hsz : xs.length = n) (hn1 : n < 1000)
    (hval : ∀ i v, P i v → ∃ t, v = .str (xs.getD i Str.empty) t) :
    ∀ (k i : Nat) (s : Shared), n - i = k → i ≤ n → St i s →
      s.heap.SetOf (PySem.strKind prog w) S (fun k' => (xs.take i).any (· == k')) (dist xs i) →
      (∀ s', Moved (S :: wr) G s s' → s'.heap.SetOf (PySem.strKind prog w) S (fun k' => (xs.take n).any (· == k')) (dist xs n) → R (.ok (.ret .none)) s') →
      codeAny (model prog w) A (.builtin "set.update.loop" ⟨[.ref S, .ref I], []⟩) R s := by
  have hSw : S ∉ wr := fun h => hSf (W.sub _ h)
  have hsub : ∀ b ∈ wr, b ∈ S :: wr := fun b hb => List.mem_cons_of_mem _ hb
  intro k
  induction k with
  | zero =>
    intro i s hk hi hst hS hR
    have hin : i = n := by omega
    subst hin
    refine codeAny_builtin PyProof.Rows.F.entry_set_update_loop ?_
    rw [Around.under_plainId PyProof.Rows.F.plain_set_update_loop _]
    show wpAny _ A.in1 (pyNext (.ref I) >>= _) _ _ s
    refine wpAny_bind (W.done s _ _ hst fun s' hm => ?_)
    show wpAny _ A.in1 (ret Value.none) _ _ s'
    exact wpAny_pure (hR s' (hm.mono hsub) (by
      obtain ⟨o, es, ep, t, ho, rest⟩ := hS
      exact ⟨o, es, ep, t, hm.heap S _ hSw ho, rest⟩))
  | succ k ih =>
    intro i s hk hi hst hS hR
    have hlt : i < n := by omega
    have hdi := dist_le xs i
    refine codeAny_builtin PyProof.Rows.F.entry_set_update_loop ?_
    rw [Around.under_plainId PyProof.Rows.F.plain_set_update_loop _]
    show wpAny _ A.in1 (pyNext (.ref I) >>= _) _ _ s
    refine wpAny_bind (W.item i s _ _ hlt hst fun v s' hP hst' hm => ?_)
    obtain ⟨t, rfl⟩ := hval i v hP
    have hS' : s'.heap.SetOf (PySem.strKind prog w) S (fun k' => (xs.take i).any (· == k')) (dist xs i) := by
      obtain ⟨o, es, ep, tb, ho, rest⟩ := hS
      exact ⟨o, es, ep, tb, hm.heap S _ hSw ho, rest⟩
    show wpAny _ A.in1 (holding [Value.str (xs.getD i Str.empty) t] (setAdd S (.str (xs.getD i Str.empty) t)) >>= _) _ _ s'
    refine wpAny_bind (wpAny_holding ?_)
    unfold setAdd
    refine wpAny_holding ?_
    refine wpAny_bind ((PySem.strKind prog w).pyHash (k := xs.getD i Str.empty) (strKind_is _ _ _ _) ?_)
    refine wpAny_setAddHashed_of (knd := PySem.strKind prog w) (s := { s' with toks := s'.toks + 1 }) (strKind_is _ _ _ _) rfl hS' (by unfold scanBound; omega) fun h' hsb hS2 => ?_
    have hSi : h'.SetOf (PySem.strKind prog w) S (fun k' => (xs.take (i + 1)).any (· == k')) (dist xs (i + 1)) := by
      have hix : xs[i]? = some (xs.getD i Str.empty) := by
        rw [List.getD_eq_getElem?_getD, List.getElem?_eq_getElem (by omega)]
        rfl
      refine PyProof.Rows.SetOf_congr hS2 (fun k' => ?_) (dist_succ xs i)
      rw [take_one hix, List.any_append]
      congr 1
      by_cases e : k' = xs.getD i Str.empty
      · rw [e]; simp
      · have hb : (xs.getD i Str.empty == k') = false := by simpa [beq_iff_eq] using (fun h' : xs.getD i Str.empty = k' => e h'.symm)
        simp only [List.any_cons, List.any_nil, hb, Bool.or_false]
        exact decide_eq_false e
    refine wpAny_pure ⟨plainId_quiet PyProof.Rows.F.plain_set_update_loop _, ih (i + 1) _ (by omega) hlt (W.frame _ s' _ _ hst' (Nat.le_succ _) fun b hb o e => ?_) hSi fun s'' hm'' hS'' => ?_⟩
    · rw [hsb.2 b (fun h : b = S => hSf (by rw [← h]; exact hb))]; exact e
    · refine hR s'' (Moved.trans W.gtrans ((hm.mono hsub).then_heap (Nat.le_succ _) fun b o hb e => ?_) hm'') hS''
      rw [hsb.2 b (fun h : b = S => hb (by rw [h]; exact List.mem_cons_self))]; exact e
end
section
variable {prog : Program} {w : World} {A : Around} {E : Value → Shared → Prop} {s : Shared}
theorem call_set_strs {l : Addr} {items : Array Value} {xs : List Str} {Q : Value → Shared → Prop}
    (hh : A.handled = none) (hl : s.heap.IsTuple l items) (hi : PyProof.Rows.StrsAre items.toList xs) (hn1 : xs.length < 1000)
    (h : ∀ (h' : Heap) (tk : Nat), h'.SetOf (PySem.strKind prog w) s.heap.objs.size (fun k' => (xs.take items.size).any (· == k')) (dist xs items.size) →
      (∀ b o, b < s.heap.objs.size → s.heap.get? b = some o → h'.get? b = some o) → Q (.ref s.heap.objs.size) { s with heap := h', toks := tk }) :
    wpAny (model prog w) A (call (.type "set") [.ref l]) Q E s := by
  obtain ⟨c, tl, hmro⟩ := PySem.F.called_set.mro
  have hmade := PySem.F.called_set.made
  have hsub := PySem.F.called_set.sub
  refine wpAny_call (codeAny_of_tree ?_)
  show wpAny _ _ (callAny (.type "set") _) _ _ _
  refine wpAny_pure ⟨Code.quiet_builtin _ (by decide +kernel), codeAny_builtin PySem.F.entry_type_call ?_⟩
  rw [Around.under_plain (weight_type_call_type "set" [.ref l] []) rfl]
  have h1 := PySem.F.called_set.notType
  have h2 := PySem.F.called_set.canCreate
  have hct := PySem.F.typeCall_set_1 (.ref l)
  repeat (any_goals (first | assumption | wp_step))

  refine codeAny_mono (code_set_new_1 (.ref l) (E := E) (Q₁ := fun obj s₁ => ∃ led : Bool, obj = .ref s.heap.objs.size ∧ s₁ = { s with heap := s.heap.push { cls := .type "set", dict := none, data := .set #[] 0 (.fresh 0 0 led) } }) fun led => ⟨led, rfl, rfl⟩) fun r s₁ hr => ?_
  cases r with
  | error e => exact hr
  | ok fl =>
    cases fl with
    | ret obj =>
      obtain ⟨led, rfl, rfl⟩ := hr
      have hS : (s.heap.push { cls := .type "set", dict := none, data := .set #[] 0 (.fresh 0 0 led) }).get? s.heap.objs.size = some { cls := .type "set", dict := none, data := .set #[] 0 (.fresh 0 0 led) } := Heap.get?_push_size _ rfl
      have hT : Shared.TypeIs { s with heap := s.heap.push { cls := .type "set", dict := none, data := .set #[] 0 (.fresh 0 0 led) } } (.ref s.heap.objs.size) "set" := ⟨_, hS, rfl⟩
      have hli := PySem.F.called_set.init.lookup
      have hbi := PySem.F.called_set.init.bind (.ref s.heap.objs.size)
      repeat (any_goals (first | assumption | wp_step))

      refine codeAny_mono (codeAny_call_builtin (R := wants (fun r s₂ => r = .none ∧ ∃ h' tk, s₂ = { s with heap := h', toks := tk } ∧
          h'.SetOf (PySem.strKind prog w) s.heap.objs.size (fun k' => (xs.take items.size).any (· == k')) (dist xs items.size) ∧
          (∀ b o, b < s.heap.objs.size → s.heap.get? b = some o → h'.get? b = some o)) E) PySem.F.called_set.init.plain PySem.F.entry_set_init (check_set_init_1 hT ?_)) fun r₂ s₂ hr₂ => ?_
      · obtain ⟨ol, hol, hcl, nl, hdl⟩ := hl
        obtain ⟨ocls, odict, odata, oslots⟩ := ol
        simp only at hcl hdl
        subst hcl; subst hdl
        have hol' : (s.heap.push { cls := .type "set", dict := none, data := .set #[] 0 (.fresh 0 0 led) }).get? l = some { cls := .type "tuple", dict := odict, data := .seq items nl, slots := oslots } := Heap.get?_push_of_some _ hol
        have hsls := PySem.F.sub_tuple_set
        have hslf := PySem.F.sub_tuple_frozenset
        have hne : (Value.type "tuple" == Value.type "dict") = false := by decide
        have hl1 : (s.heap.push { cls := .type "set", dict := none, data := .set #[] 0 (.fresh 0 0 led) }).IsTuple l items := ⟨_, hol', rfl, nl, rfl⟩
        unfold Builtin.«set.__init__» noKeywords Builtin.Frozenset.updateFrom
        generalize hPI : pyIter = PI
        wp_walk
        subst hPI

        refine wpAny_pyIter_tuple hl1 ?_
        refine wpAny_bind (wpAny_runValue ?_)
        have hlS : l < s.heap.objs.size := Heap.lt_size hol
        have hh3 : A.in1.in1.in1.handled = none := by simp [hh]
        have hneI : l ≠ (s.heap.push { cls := .type "set", dict := none, data := .set #[] 0 (.fresh 0 0 led) }).objs.size := by
          rw [Heap.size_push]; exact Nat.ne_of_lt (Nat.lt_succ_of_lt hlS)
        have hSf : s.heap.objs.size ∉ [(s.heap.push { cls := .type "set", dict := none, data := .set #[] 0 (.fresh 0 0 led) }).objs.size, l] := by
          rw [Heap.size_push]; simp only [List.mem_cons, List.mem_singleton, List.not_mem_nil, or_false, not_or]
          exact ⟨Nat.ne_of_lt (Nat.lt_succ_self _), Nat.ne_of_gt hlS⟩
        have hsz : xs.length = items.size := by rw [← StrsAre.len_eq hi, Array.length_toList]
        have hval : ∀ (i : Nat) (v : Value), items[i]? = some v → ∃ t, v = .str (xs.getD i Str.empty) t := fun i v hv => SS.strs_at hi i v (by rw [Array.getElem?_toList]; exact hv)
        refine loop_strs ((Walks.tuple hh3 _ l hneI items).toS) s.heap.objs.size
          hSf xs hsz (by rw [← hsz]; exact hn1) hval (items.size - 0) 0 _ (by omega) (Nat.zero_le _)
          ⟨⟨_, Heap.get?_push_size _ rfl, rfl, rfl⟩, (hl1.push _)⟩ ?hS0 ?hR
        case hS0 =>
          have hget : ((s.heap.push { cls := .type "set", dict := none, data := .set #[] 0 (.fresh 0 0 led) }).push { cls := .type "tuple_iterator", data := .fields #[.ref l, .int 0 0] }).get? s.heap.objs.size
              = some { cls := .type "set", dict := none, data := .set #[] 0 (.fresh 0 0 led) } := Heap.get?_push_of_some _ hS
          exact PyProof.Rows.SetOf_congr ((PyProof.Rows.setObjOf_fresh (knd := PySem.strKind prog w) led).setOf hget (by unfold scanBound; omega)) (fun _ => rfl) rfl
        case hR =>
          intro s' hm hS'
          obtain ⟨h', g', d', tk', os'⟩ := s'
          have eg : g' = s.gens := hm.gens
          have ed : d' = s.drawn := hm.drawn
          have eo : os' = s.os := hm.os
          subst eg; subst ed; subst eo
          show wpAny _ _ _ _ _ _
          refine wpAny_pure ?_
          show wpAny _ _ (ret Value.none) _ _ _
          refine wpAny_pure ⟨rfl, h', tk', rfl, hS', fun b o hb e => ?_⟩
          have hb1 : b ≠ s.heap.objs.size := Nat.ne_of_lt hb
          have hb2 : b ≠ (s.heap.push { cls := .type "set", dict := none, data := .set #[] 0 (.fresh 0 0 led) }).objs.size := by
            rw [Heap.size_push]; exact Nat.ne_of_lt (Nat.lt_succ_of_lt hb)
          exact hm.heap b o (by simp only [List.mem_cons, List.mem_singleton, List.not_mem_nil, or_false, not_or]; exact ⟨hb1, hb2⟩) (Heap.get?_push_of_some _ (Heap.get?_push_of_some _ e))

      · cases r₂ with
        | error e => exact hr₂
        | ok fl₂ =>
          cases fl₂ with
          | ret r =>
            obtain ⟨rfl, h', tk, rfl, hS', hk'⟩ := hr₂
            repeat (any_goals (first | assumption | wp_step))
            exact h _ _ hS' hk'
          | _ => exact hr₂.elim
    | _ => exact hr.elim

end
/-- all are different exactly if none is left out -/
theorem dist_full (xs : List Str) : ∀ i, i ≤ xs.length → (dist xs i = i ↔ (xs.take i).Nodup)
  | 0, _ => by simp [dist]
  | i + 1, h => by
    have ih := dist_full xs i (by omega)
    have le := dist_le xs i
    have hix : xs[i]? = some (xs.getD i Str.empty) := by
      rw [List.getD_eq_getElem?_getD, List.getElem?_eq_getElem (by omega)]
      rfl
    rw [take_one hix, List.nodup_append]
    unfold dist
    by_cases e : (xs.take i).any (· == xs.getD i Str.empty) = true
    · rw [if_pos e]
      constructor
      · intro q; omega
      · rintro ⟨_, _, q⟩
        obtain ⟨y, hy, ey⟩ := List.any_eq_true.mp e
        exact absurd (beq_iff_eq.mp ey) (q y hy _ (by simp))
    · rw [if_neg e]
      constructor
      · intro q
        refine ⟨ih.mp (by omega), by simp, fun y hy z hz => ?_⟩
        have hz' : z = xs.getD i Str.empty := by simpa using hz
        rw [hz']
        intro ey
        exact e (List.any_eq_true.mpr ⟨y, hy, by simp [ey]⟩)
      · rintro ⟨q, _, _⟩
        rw [ih.mpr q]
end TS
open PySem in
/-- len(set(t)), t a tuple of texts -/
def tLenSetS (K : PySem.W.Frag) (ta : TE) : TE := fun σ H Q => ta σ H fun x H1 => ∃ (l : Addr) (xs : List Str), x = .ref l ∧ SqT K H1 l (xs.map V.str) ∧ xs.length < 1000 ∧ Q (.int (TS.dist xs xs.length : Nat)) H1
open PySem PySem.Spec PyProof.Rows in
theorem pe_lenSetS {X : Cx} {a : Expr} {ta : TE} {p p2 q pos : Pos} (hg : Gl X "len") (hm : X.mg "len" = none) (hg2 : Gl X "set") (hm2 : X.mg "set" = none) (ha : PE X a ta) (hc : X.calm = true := by rfl)
    (na : starEach [a] X.env = (false, eval a X.env) :: starEach [] X.env := by rfl) : PE X (.Call (.Name "len" p) [.Call (.Name "set" p2) [a] [] q] [] pos) (tLenSetS X.K ta) := by
  refine ⟨fun pins s σ H Q I h => ?_⟩
  refine Call_ (ld_blt I hg hm PySem.boot_len ?_)
  refine PyProof.Rows.callWith_builtin1 (PyProof.Rows.args_cons ?_ rfl) rfl rfl
  refine Call_ (ld_blt I hg2 hm2 PyProof.Rows.boot_set ?_)
  refine PyProof.Rows.callWith_type1 (PyProof.Rows.args_cons (thn (ha.run pins s σ H _ I h) fun v s1 ⟨x, H1, I1, r1, q1⟩ => PyProof.Rows.args_nil ?_) na) na rfl
  obtain ⟨l, xs, rfl, hq, h1, q1⟩ := q1
  cases r1
  obtain ⟨its, r, pl, hz⟩ := I1.tuple hq
  have hl : its.toArray.size = xs.length := by rw [List.size_toArray, ← r.length, List.length_map]
  refine TS.call_set_strs (I1.ok.hd hc) pl (by simpa using strsAre_of r) h1 fun h' tk hS hk => ?_
  refine PyProof.Rows.args_nil ?_
  rw [hl] at hS
  obtain ⟨o, es, ep, t, ho, hex, hd, _, _, _, hf, hn⟩ := hS
  have I2 : Inv X pins σ H1 { s1 with heap := h', toks := tk } := I1.kept fun b o e => hk b o (Heap.lt_size e) e
  have hdl := TS.dist_le xs xs.length
  exact call_len_set ho hex hd hf (by rw [hn] <;> omega) ⟨.int (TS.dist xs xs.length : Nat), H1, I2.tok _, ⟨_, by rw [hn]⟩, q1⟩
end L2
namespace L2
open PySem PySem.Spec PyProof.Rows
/-! ### a table of the written part, its keys texts -/
/-- the entries, key by key -/
def Ents (P : Params) : List DictEntry → List (Str × V) → Prop
  | [], [] => True
  | e :: r, (k, v) :: t => (∃ tk, e.key = .str k tk ∧ e.hash = PyData.keyHash P k) ∧ RelV v e.val ∧ Ents P r t
  | _, _ => False
/-- at a: the table tab -/
def WTab (K : PySem.W.Frag) (w : World) (a : Addr) (tab : List (Str × V)) : Prop :=
  ∃ es n, K.lookup a = some ⟨.type "dict", none, .dict es n, #[]⟩ ∧ Ents w.params es.toList tab ∧ (a == sysModules) = false
theorem Ents.lit {P : Params} : ∀ {es : List DictEntry} {tab : List (Str × V)}, Ents P es tab → PySem.W.KeysLit P es
  | [], [], _ => trivial
  | e :: r, (k, v) :: t, ⟨⟨tk, h1, h2⟩, _, h3⟩ => ⟨⟨k, tk, h1, h2⟩, h3.lit⟩
theorem Ents.noRef {P : Params} : ∀ {es : List DictEntry} {tab : List (Str × V)}, Ents P es tab → es.any (·.refKey) = false
  | [], [], _ => rfl
  | e :: r, (k, v) :: t, ⟨⟨tk, h1, _⟩, _, h3⟩ => by
    rw [List.any_cons, h3.noRef, Bool.or_false]
    unfold DictEntry.refKey
    rw [h1]
theorem Ents.find {P : Params} (z : Str) : ∀ {es : List DictEntry} {tab : List (Str × V)}, Ents P es tab → RelO (tab.lookup z) ((es.find? (·.key.isStr z)).map (·.val))
  | [], [], _ => trivial
  | e :: r, (k, v) :: t, ⟨⟨tk, h1, _⟩, h2, h3⟩ => by
    rw [List.find?_cons]
    by_cases q : z = k
    · have e1 : e.key.isStr z = true := by rw [h1, q]; exact (by show (k == k) = true; simp)
      have e2 : ((k, v) :: t).lookup z = some v := by rw [q]; simp [List.lookup]
      rw [e1, e2]
      exact h2
    · have e1 : e.key.isStr z = false := by
        rw [h1]
        show (k == z) = false
        simpa using fun h : k = z => q h.symm
      have e2 : ((k, v) :: t).lookup z = t.lookup z := by
        have : (z == k) = false := by simpa using q
        simp [List.lookup, this]
      rw [e1, e2]
      exact h3.find z
theorem WTab.ns {K : PySem.W.Frag} {w : World} {a : Addr} {tab : List (Str × V)} (T : WTab K w a tab) (z : Str) : ∃ r, PySem.W.nsIn K a z = some r ∧ RelO (tab.lookup z) r := by
  obtain ⟨es, n, hl, he, _⟩ := T
  have f := he.find z
  unfold PySem.W.nsIn
  rw [hl]
  show ∃ r, (match es.toList.find? (·.key.isStr z) with | some e => some (some e.val) | none => if es.toList.any (·.refKey) then none else some none) = some r ∧ _
  cases q : es.toList.find? (·.key.isStr z) with
  | some e =>
    rw [q] at f
    exact ⟨_, rfl, f⟩
  | none =>
    rw [q] at f
    exact ⟨none, by rw [he.noRef]; rfl, f⟩
/-- t[k], the key is there -/
def rIxW (K : PySem.W.Frag) (w : World) : R2 := fun x y H Q => ∃ p z tab v, x = .ref p ∧ y = .str z ∧ WTab K w p tab ∧ tab.lookup z = some v ∧ Q v H
def rNotInW (K : PySem.W.Frag) (w : World) : R2 := fun x y H Q => ∃ p z tab, x = .str z ∧ y = .ref p ∧ WTab K w p tab ∧ Q (.bl (!(tab.lookup z).isSome)) H
def rInW (K : PySem.W.Frag) (w : World) : R2 := fun x y H Q => ∃ p z tab, x = .str z ∧ y = .ref p ∧ WTab K w p tab ∧ Q (.bl (tab.lookup z).isSome) H
theorem RelO.isSome {a : Option V} {b : Option Value} (h : RelO a b) : b.isSome = a.isSome := by
  cases a <;> cases b <;> first | rfl | exact h.elim
section
variable {X : Cx}
theorem ix_wtab : IxR X (rIxW X.K X.w) := by
  intro value slice pins s σ H x y v u Q I rx ry h hs
  obtain ⟨p, z, tab, r, rfl, rfl, T, hlk, q⟩ := h
  obtain ⟨o, e, rel⟩ := T.ns z
  obtain ⟨es, n, hl, he, _⟩ := T
  rw [hlk] at rel
  cases o with
  | none => exact rel.elim
  | some u0 => exact ix_kdict value slice pins s σ H _ _ v u Q I rx ry ⟨p, z, r, rfl, rfl, ⟨es, n, u0, hl, he.lit, e, rel⟩, q⟩ hs
theorem op_notIn_wtab : OpR X (compareOp .NotIn) (rNotInW X.K X.w) := by
  intro pins s σ H x y v u Q I rx ry h
  obtain ⟨p, z, tab, rfl, rfl, T, q⟩ := h
  obtain ⟨o, e, rel⟩ := T.ns z
  obtain ⟨es, n, hl, he, lo⟩ := T
  obtain ⟨t, rfl⟩ := rx
  obtain rfl : u = Value.ref p := ry
  have hm := PySem.W.mapOf_K (prog := X.prog) (w := X.w) I.kIn hl he.lit
  refine wpAny_notIn_of (strKind_is X.prog X.w z t) lo hm ?_
  rw [PySem.W.find_K hl e, rel.isSome]
  exact ⟨.bl _, H, I.tok _, rfl, q⟩
theorem op_in_wtab : OpR X (compareOp .In) (rInW X.K X.w) := by
  intro pins s σ H x y v u Q I rx ry h
  obtain ⟨p, z, tab, rfl, rfl, T, q⟩ := h
  obtain ⟨o, e, rel⟩ := T.ns z
  obtain ⟨es, n, hl, he, lo⟩ := T
  obtain ⟨t, rfl⟩ := rx
  obtain rfl : u = Value.ref p := ry
  have hm := PySem.W.mapOf_K (prog := X.prog) (w := X.w) I.kIn hl he.lit
  refine wpAny_in_of (strKind_is X.prog X.w z t) lo hm ?_
  rw [PySem.W.find_K hl e, rel.isSome]
  exact ⟨.bl _, H, I.tok _, rfl, q⟩
end
/-! ### a method by its name, with its promise -/
def Mcal (P : Program) (w : World) (K : PySem.W.Frag) (mg : Str → Option Value) (base : Heap) (CX : CXT) (k : Nat) (C : Addr) (m : Str) (ps : List Str) (sp : Sp) : Prop :=
  ∃ (f : Addr) (fd : FuncData), Meth K C m f ∧ Binds K fd ps [] ∧ FnOk P w K mg base CX k f fd ps sp
theorem pe_mcal {X : Cx} {CX : CXT} {k : Nat} {C : Addr} {m : Str} {ps : List Str} {sp : Sp} {E : XK} {apos pos : Pos} {o e : Expr} {es : List Expr} {ta : TE} {t : TA} (ho : PE X o ta) (c : Cls X.K C) (M : Mcal X.prog X.w X.K X.mg X.base CX k C m ps sp) (hr : Room k X.A) (hx : Passes CX X E) (ha : PA X (e :: es) t)
    {pl : Sem Bool} (hc : eval (.Call (.Attribute o m apos) (e :: es) [] pos) X.env = (do
      let ov ← eval o X.env
      standAt apos.atName
      let (f, first) ← holding [ov] (getMethod ov m pl)
      callWith pos f first (backTo pos (starEach (e :: es) X.env)) (backToKw pos (keywordEach [] X.env))) := by rfl)
    (he : starEach (e :: es) X.env = (false, eval e X.env) :: starEach es X.env := by rfl) (hpl : (backTo pos (starEach es X.env)).any (·.1) = false := by rfl) :
    PE X (.Call (.Attribute o m apos) (e :: es) [] pos) (tMeth C m sp [] E ta t) := by
  obtain ⟨f, fd, h1, h2, h3⟩ := M
  exact pe_meth ho c h1 h3 hr h2 .nil hx ha he hpl hc
theorem pe_mcal0 {X : Cx} {CX : CXT} {k : Nat} {C : Addr} {m : Str} {ps : List Str} {sp : Sp} {E : XK} {apos pos : Pos} {o : Expr} {ta : TE} (ho : PE X o ta) (c : Cls X.K C) (M : Mcal X.prog X.w X.K X.mg X.base CX k C m ps sp) (hr : Room k X.A) (hx : Passes CX X E)
    {pl : Sem Bool} (hc : eval (.Call (.Attribute o m apos) [] [] pos) X.env = (do
      let ov ← eval o X.env
      standAt apos.atName
      let (f, first) ← holding [ov] (getMethod ov m pl)
      callWith pos f first (backTo pos (starEach [] X.env)) (backToKw pos (keywordEach [] X.env))) := by rfl) :
    PE X (.Call (.Attribute o m apos) [] [] pos) (tMeth C m sp [] E ta tNil) := by
  obtain ⟨f, fd, h1, h2, h3⟩ := M
  exact pe_meth0 ho c h1 h3 hr h2 .nil hx hc
end L2
namespace L2
open PySem PySem.Spec PyProof.Rows
/-! ### d.keys() as a value, and sorted of it -/
/-- the view d.keys() at p -/
def keysO (p d : Addr) : HO := .ext fun h => PySem.W.KdlKeysView h p d
theorem keysO_ok {P : Program} {w : World} {H : Hp} {h : Heap} {p d : Addr} (e : h.get? p = some { cls := .type "dict_keys", data := .fields #[.ref d] }) : ObjOk P w H h p (keysO p d) :=
  ⟨⟨_, e, rfl, rfl⟩, ⟨_, e⟩, fun h1 h2 x k => let ⟨o, ho, r⟩ := x; ⟨o, k o ho, r⟩⟩
section
variable {X : Cx}
def rKeysV : V → List V → Hp → VK → Prop := fun x xs H Q => ∃ (a : Addr) (kvs : List (Key × V)), x = .ref a ∧ xs = [] ∧ Rd H a (.dK kvs) ∧ ∀ p, H p = none → Q (.ref p) (upd H p (keysO p a))
theorem mt_keysV : MtR X "dict.keys" rKeysV := by
  intro pins s σ H x xs v us Q I rx rxs h
  obtain ⟨a, kvs, rfl, rfl, ha, q⟩ := h
  cases rx
  cases rxs
  obtain ⟨z, lo, vs, rel, dd⟩ := dk_rd I.hok ha
  have hf : H s.heap.objs.size = none := I.hok.fresh (Nat.le_refl _)
  refine call_meetsIn PySem.F.slot_dict_keys dd.typeIs PySem.F.entry_dict_keys (PySem.F.args_dict_keys_1 _) (PySem.W.kdl_meets_keys (mixKind X.prog X.w) a lo) ⟨⟨vs, dd⟩, ?_⟩
  exact ⟨.ref s.heap.objs.size, upd H s.heap.objs.size (keysO s.heap.objs.size a), I.laid (t' := s.toks) (fun b u e => Heap.get?_push_of_some _ e) (Nat.le_refl _) (keysO_ok (Heap.get?_push_size _ rfl)), rfl, q _ hf⟩
/-- sorted(d.keys()), fewer than 64 keys, all texts -/
def rSortKV : List V → Hp → VK → Prop := fun xs H Q => ∃ (p a : Addr) (kvs : List (Key × V)) (ks : List Str), xs = [.ref p] ∧ H p = some (keysO p a) ∧ Rd H a (.dK kvs) ∧ kvs.map (·.1) = ks.map Sum.inr ∧ ks.length < 64 ∧
    ∀ ys q, ys.Perm ks → sortedS ys = true → H q = none → Q (.ref q) (upd H q (.lst (ys.map V.str)))
theorem call_sortedKV (hcalm : X.calm = true) : CallR X (.builtin "sorted") rSortKV := by
  intro pins s σ H xs us Q I r q
  obtain ⟨p, a, kvs, ks, rfl, hp, hd, hks, h64, q⟩ := q
  obtain ⟨u, rfl, rx⟩ := vals1 r
  cases rx
  have hview : PySem.W.KdlKeysView s.heap p a := (I.hok p _ hp).1
  obtain ⟨z, lo, vs, rel, dd⟩ := dk_rd I.hok hd
  obtain ⟨ep, hat⟩ := dd.dictAt
  have hkeys : vs.map (·.1) = ks.map Sum.inr := rel.keys.symm.trans hks
  have hl : vs.length = ks.length := by simpa using congrArg List.length hkeys
  refine Calls.call_function_entry PyProof.Rows.kind_sorted PyProof.Rows.plain_sorted PyProof.Rows.entry_sorted (PyProof.Rows.args_sorted1 _) ?_
  unfold Builtin.«sorted»
  refine wpAny_bind (m := checkCount "sorted" 1 1 _) (wpAny_pure ?_)
  refine wpAny_bind (PySem.W.kdu_collect (A := X.A.in1) (PySem.W.kdl_keys (knd := mixKind X.prog X.w) (r := p) (d := a) (kvs := vs) (ep := ep)) (I.ok.hd hcalm) ⟨hview, hat⟩ (by rw [hl, sizeLine_eq]; omega) fun h' tk acc hk hacc => ?_)
  have hal : acc.toList.length = ks.length := by rw [Array.length_toList, hacc.1, hl]
  have hS : StrsAre acc.toList ks := strs_at hal fun j v e => by
    obtain ⟨k, x, e1, e2⟩ := hacc.2 j v (by rw [← Array.getElem?_toList]; exact e)
    have e3 : (vs.map (·.1))[j]? = some k := by rw [List.getElem?_map, e1]; rfl
    rw [hkeys, List.getElem?_map] at e3
    cases e4 : ks[j]? with
    | none => rw [e4] at e3; cases e3
    | some y =>
      rw [e4] at e3
      obtain rfl : Sum.inr y = k := Option.some.inj e3
      obtain ⟨t, ev⟩ := Value.isStrOf_shape (x := y) (v := v) e2
      exact ⟨y, t, rfl, ev⟩
  have I1 : Inv X pins σ H { s with heap := h', toks := tk } := I.kept hk
  refine wpAny_bind (wpAny_newList ?_ (by rw [hal, sizeLine_eq]; omega))
  have hoL : (h'.push (seqObj "list" acc.toList.toArray 0)).get? h'.objs.size = some (seqObj "list" acc.toList.toArray 0) := Heap.get?_push_size _ rfl
  show wpAny _ _ _ _ _ { s with heap := h'.push (seqObj "list" acc.toList.toArray 0), toks := tk }
  refine wpAny_bind (wpAny_holding (wpAny_call_entry PyProof.Rows.slot_list_sort ⟨_, hoL, rfl⟩ PyProof.Rows.entry_list_sort
    (list_sort_treeK strKind_oneLt (s := { s with heap := h'.push (seqObj "list" acc.toList.toArray 0), toks := tk }) hoL hS.keysOf (fun v₁ v₂ rest e => keyKind_strs (by rw [← e]; exact hS)) (by rw [hal]; exact h64) fun st' hp' hs => ⟨_, rfl, ?_⟩)
    (PyProof.Rows.args_list_sort _)))
  obtain ⟨ys, g1, g2, g3⟩ := sorted_out_str hS hp' hs
  obtain ⟨e', he'⟩ := PyProof.Rows.sortedHeap_at (vs := acc.toList) (out := (arrOf st').map (·.2)) hoL
  have hlen : (ys.map V.str).length ≤ sizeLine := by
    rw [List.length_map, g2.length_eq, sizeLine_eq]
    omega
  refine wpAny_pure ⟨_, rfl, .ref h'.objs.size, upd H h'.objs.size (.lst (ys.map V.str)), I1.laid (t' := tk) (fun b u e => ?_) (Nat.le_refl _)
    (show ObjOk X.prog X.w _ _ _ (.lst (ys.map V.str)) from ⟨hlen, ((arrOf st').map (·.2)).toList, e', vals_of_strs g1, by rw [Array.toArray_toList]; exact he'⟩), rfl, q ys _ g2 g3 (I1.hok.fresh (Nat.le_refl _))⟩
  have hb : b < h'.objs.size := Heap.lt_size e
  rw [PyProof.Rows.sortedHeap_old (Nat.ne_of_lt hb) (by rw [size_push']; exact Nat.lt_succ_of_lt hb)]
  exact Heap.get?_push_of_some _ e
end
/-- a dict comprehension over what is walked -/
theorem dc_it {J : It} {n : Nat} {G : Hp → Prop} {Y : Nat → Hp → V → Hp → Prop} (w : Walk J n G Y) {g : TG} {tt : TT} {tk tv : TE} {vs : List Nat} {σ : L2.St} {H1 : Hp} {D : Addr} {Qd : Hp → Prop} (Pv : Nat → Hp → Prop) (h0 : Pv 0 (upd H1 D (.dK []))) (hG : ∀ i H, i ≤ n → Pv i H → G H)
    (hs : ∀ i x H H', i < n → Pv i H → Y i H x H' → g x (wipe σ vs) H' fun σ2 H2 => wipe σ2 vs = wipe σ vs ∧ tt σ2 H2 fun b H3 =>
      if b = true then tk σ2 H3 fun y H4 => tv σ2 H4 fun z H5 => ∃ kvs k, y = kV k ∧ H5 D = some (.dK kvs) ∧ kvs.length < sizeLine ∧ Pv (i + 1) (upd H5 D (.dK (putK kvs k z))) else Pv (i + 1) H3) (hd : ∀ H, Pv n H → Qd H) :
    ∃ W : Nat → Nat → Hp → Prop, (∃ m, W 0 m (upd H1 D (.dK []))) ∧ ∀ i m H, W i m H →
      (J.stop i H ∧ Qd H) ∨ (J.go i H ∧ ∃ Nx : Hp → Prop, (∀ H', Nx H' → ∃ m', m' < m ∧ W (i + 1) m' H') ∧ ∀ x H', J.yld i H x H' → g x (wipe σ vs) H' fun σ2 H2 => wipe σ2 vs = wipe σ vs ∧ tt σ2 H2 fun b H3 =>
        if b = true then tk σ2 H3 fun y H4 => tv σ2 H4 fun z H5 => ∃ kvs k, y = kV k ∧ H5 D = some (.dK kvs) ∧ kvs.length < sizeLine ∧ Nx (upd H5 D (.dK (putK kvs k z))) else Nx H3) := by
  refine ⟨fun i m H => m = n - i ∧ i ≤ n ∧ Pv i H, ⟨n, by simp, Nat.zero_le _, h0⟩, ?_⟩
  rintro i m H ⟨rfl, hi, p⟩
  have q := hG i H hi p
  by_cases hlt : i < n
  · exact .inr ⟨w.goes i H hlt q, Pv (i + 1), fun H' p' => ⟨n - (i + 1), by omega, rfl, hlt, p'⟩, fun x H' y => hs i x H H' hlt p (w.yields i H x H' hlt q y)⟩
  · have e : i = n := by omega
    subst e
    exact .inl ⟨w.stops H q, hd H p⟩
end L2
namespace Op
open PySem L2
abbrev PP : Program := PySem.Challenge.pw_openruns_k18_program_text
def top (i : Nat) : Stmt := PySem.Challenge.pw_openruns_k18_program_text.main.body.getD i (.Pass ⟨0, 0, 0, 0⟩)
abbrev s__wall : Stmt := top 0
abbrev s_InvalidProgram___init__ : Stmt := inClass (top 4) 0
abbrev s_InvalidArgument___init__ : Stmt := inClass (top 5) 0
abbrev s_is_integer : Stmt := top 15
abbrev s_is_word : Stmt := top 16
abbrev s_are_words : Stmt := top 17
abbrev s_inner_lists : Stmt := top 18
abbrev s_with_lists : Stmt := top 19
abbrev s_copy_row : Stmt := top 20
abbrev s_copy_rows : Stmt := top 21
abbrev s_checked_asks : Stmt := top 22
abbrev s_is_box : Stmt := top 23
abbrev s_checked_signals : Stmt := top 24
abbrev s_checked_inputs : Stmt := top 25
abbrev s_RowCheck___init__ : Stmt := inClass (top 26) 0
abbrev s_RowCheck_check : Stmt := inClass (top 26) 1
abbrev s_RowCheck_check_sizes : Stmt := inClass (top 26) 2
abbrev s_RowCheck_check_list : Stmt := inClass (top 26) 3
abbrev s_RowCheck_fits : Stmt := inClass (top 26) 4
abbrev s_RowCheck_id_fits : Stmt := inClass (top 26) 5
abbrev s_RowCheck_part_fits : Stmt := inClass (top 26) 6
abbrev s_RowCheck_collect : Stmt := inClass (top 26) 7
abbrev s_is_branches : Stmt := top 27
abbrev s_Program___init__ : Stmt := inClass (top 29) 0
abbrev s_Program_add_rows : Stmt := inClass (top 29) 1
abbrev s_Program___len__ : Stmt := inClass (top 29) 2
abbrev s_Program___eq__ : Stmt := inClass (top 29) 3
abbrev s_Program_rows : Stmt := inClass (top 29) 4
abbrev s_Program_asks : Stmt := inClass (top 29) 5
abbrev s_Program_signals : Stmt := inClass (top 29) 6
abbrev s_Program_inputs : Stmt := inClass (top 29) 7
abbrev s_Program_names : Stmt := inClass (top 29) 8
abbrev s_Program_paths : Stmt := inClass (top 29) 9
abbrev s_Program_row_at : Stmt := inClass (top 29) 10
abbrev s_Program_with_rows : Stmt := inClass (top 29) 11
abbrev s_check_program : Stmt := top 30
abbrev s_block_lines : Stmt := top 32
abbrev s_row_lines : Stmt := top 33
abbrev s_program_text : Stmt := top 34
abbrev s__law_pool : Stmt := top 36
abbrev s__law_draw : Stmt := top 37
abbrev s__law_item : Stmt := top 38
abbrev s__law_names : Stmt := top 39
abbrev s__law_parts : Stmt := top 40
abbrev s__law_pair : Stmt := top 41
abbrev s__law_race : Stmt := top 42
abbrev s__law_plain : Stmt := top 43
abbrev s__law_some : Stmt := top 44
abbrev s__law_block : Stmt := top 45
abbrev s__law_spec : Stmt := top 46
abbrev s__law_made : Stmt := top 47
abbrev s__law_lists : Stmt := top 48
abbrev s__law_with : Stmt := top 49
abbrev s__law_lines : Stmt := top 50
abbrev s__law_head : Stmt := top 51
abbrev s__law_text : Stmt := top 52
abbrev s__law_wide : Stmt := top 53
abbrev s__law_turned : Stmt := top 54
abbrev s_law : Stmt := top 55
end Op
namespace L2
open PySem PySem.Spec PyProof.Rows
/-! ### a def by its name, with its promise -/
def Cal (P : Program) (w : World) (K : PySem.W.Frag) (mg : Str → Option Value) (base : Heap) (CX : CXT) (k : Nat) (x : Str) (ps : List Str) (sp : Sp) : Prop :=
  ∃ (f : Addr) (fd : FuncData), mg x = some (.ref f) ∧ PySem.W.keepIn K (.ref f) = true ∧ Binds K fd ps [] ∧ FnOk P w K mg base CX k f fd ps sp
theorem pe_cal {X : Cx} {CX : CXT} {k : Nat} {x : Str} {ps : List Str} {sp : Sp} {E : XK} {p pos : Pos} {e : Expr} {es : List Expr} {t : TA} (c : Cal X.prog X.w X.K X.mg X.base CX k x ps sp) (hr : Room k X.A) (hg : Gl X x) (hx : Passes CX X E) (ha : PA X (e :: es) t)
    (hdb : (x == ("__debug__" : Str)) = false := by decide) (he : starEach (e :: es) X.env = (false, eval e X.env) :: starEach es X.env := by rfl) (hpl : (backTo pos (starEach es X.env)).any (·.1) = false := by rfl) :
    PE X (.Call (.Name x p) (e :: es) [] pos) (tCall sp [] E t) := by
  obtain ⟨f, fd, h1, h2, h3, h4⟩ := c
  exact pe_call h4 hr hg h1 h2 h3 .nil hx ha hdb he hpl
/-! ### data -/
theorem SqL.mono {K : PySem.W.Frag} {H H' : Hp} {a : Addr} {xs : List V} (h : SqL K H a xs) (s : Same H H') : SqL K H' a xs := Evl.ex_l s h
theorem SqT.mono {K : PySem.W.Frag} {H H' : Hp} {a : Addr} {xs : List V} (h : SqT K H a xs) (s : Same H H') : SqT K H' a xs := Evl.ex_t s h
mutual
theorem Dp.mono {K : PySem.W.Frag} {H H' : Hp} (s : Same H H') : ∀ {v : V} {d : PyData}, Dp K H v d → Dp K H' v d
  | _, _, .non => .non
  | _, _, .bl b => .bl b
  | _, _, .int i => .int i
  | _, _, .str x => .str x
  | _, _, .lst h a => .lst (h.mono s) (DpAll.mono s a)
  | _, _, .tup h a => .tup (h.mono s) (DpAll.mono s a)
theorem DpAll.mono {K : PySem.W.Frag} {H H' : Hp} (s : Same H H') : ∀ {vs : List V} {ds : List PyData}, DpAll K H vs ds → DpAll K H' vs ds
  | _, _, .nil => .nil
  | _, _, .cons h a => .cons (Dp.mono s h) (DpAll.mono s a)
end
theorem DpAll.len {K : PySem.W.Frag} {H : Hp} : ∀ {vs : List V} {ds : List PyData}, DpAll K H vs ds → vs.length = ds.length
  | _, _, .nil => rfl
  | _, _, .cons _ a => congrArg Nat.succ a.len
theorem DpAll.get {K : PySem.W.Frag} {H : Hp} : ∀ {vs : List V} {ds : List PyData} {i : Nat} {v : V}, DpAll K H vs ds → vs[i]? = some v → ∃ d, ds[i]? = some d ∧ Dp K H v d
  | _, _, i, _, .nil, h => by simp at h
  | _, _, 0, v, .cons (d := d) h a, e => by
    have e' := Option.some.inj e
    subst e'
    exact ⟨d, rfl, h⟩
  | _, _, i + 1, v, .cons h a, e => a.get (i := i) e
theorem DpAll.drop {K : PySem.W.Frag} {H : Hp} : ∀ {vs : List V} {ds : List PyData} (n : Nat), DpAll K H vs ds → DpAll K H (vs.drop n) (ds.drop n)
  | _, _, 0, h => h
  | _, _, _ + 1, .nil => .nil
  | _, _, n + 1, .cons _ a => DpAll.drop n a
/-- the name of a datum's class -/
def tyN : PyData → String
  | .none => "NoneType"
  | .bool _ => "bool"
  | .int _ => "int"
  | .str _ => "str"
  | .list _ => "list"
  | .tuple _ => "tuple"
  | .dict _ => "dict"
theorem ty_dp {K : PySem.W.Frag} {H : Hp} {v : V} {d : PyData} (h : Dp K H v d) : TyX K H v (.type (tyN d)) := by
  cases h with
  | non => exact .base .non
  | bl b => exact .base (.bl b)
  | int i => exact .base (.int i)
  | str x => exact .base (.str x)
  | lst hs _ => 
    rcases hs with (hs | ⟨o, hs⟩) | hs
    · exact .base (.lst hs)
    · exact .base (.frz hs)
    · obtain ⟨o, its, n, h1, h2, _⟩ := hs
      exact .kList h1 h2
  | tup hs _ => 
    rcases hs with (hs | ⟨o, hs⟩) | hs
    · exact .base (.tup hs)
    · exact .fTuple hs
    · obtain ⟨o, its, n, h1, h2, _⟩ := hs
      exact .kTuple h1 h2
end L2
namespace Op
open PySem L2 PyProof.Rows
theorem ifT {c : Bool} {A B : Prop} (hc : c = true) (h : A) : if c = true then A else B := by
  rw [if_pos hc]
  exact h
theorem ifF {c : Bool} {A B : Prop} (hc : c = false) (h : B) : if c = true then A else B := by
  rw [hc, if_neg Bool.false_ne_true]
  exact h
/-! ### the mirror: words -/
def letters : Str := "abcdefghijklmnopqrstuvwxyz"
def isWordS (x : Str) : Bool := decide (1 ≤ x.length ∧ x.length ≤ 8) && x.cps.toList.all fun c => decide (c ∈ letters.cps.toList)
def isWord : PyData → Bool
  | .str x => isWordS x
  | _ => false
def isStr : PyData → Bool
  | .str _ => true
  | _ => false
def isList : PyData → Bool
  | .list _ => true
  | _ => false
def isTup : PyData → Bool
  | .tuple _ => true
  | _ => false
def isInt : PyData → Bool
  | .int _ => true
  | _ => false
def strOf : PyData → Str
  | .str x => x
  | _ => ""
def areWords (most : Int) : PyData → Bool
  | .tuple ds => decide (1 ≤ ds.length ∧ (ds.length : Int) ≤ most) && (ds.all isWord && decide ((ds.map strOf).Nodup))
  | _ => false
def isBranches : PyData → Bool
  | .tuple ds => decide (2 ≤ ds.length ∧ ds.length ≤ 3) && ds.all isList
  | _ => false
section
variable {K : PySem.W.Frag} {H : Hp}
theorem kit_str (d : PyData) : PySem.W.kitOne K (.type (tyN d)) (.type "str") = some (isStr d) := by
  cases d with
  | none => exact kit_ty (show kitB "NoneType" "str" = some false by decide +kernel)
  | bool _ => exact kit_ty (show kitB "bool" "str" = some false by decide +kernel)
  | int _ => exact kit_ty (show kitB "int" "str" = some false by decide +kernel)
  | str _ => exact kit_ty (show kitB "str" "str" = some true by decide +kernel)
  | list _ => exact kit_ty (show kitB "list" "str" = some false by decide +kernel)
  | tuple _ => exact kit_ty (show kitB "tuple" "str" = some false by decide +kernel)
  | dict _ => exact kit_ty (show kitB "dict" "str" = some false by decide +kernel)
theorem kit_list (d : PyData) : PySem.W.kitOne K (.type (tyN d)) (.type "list") = some (isList d) := by
  cases d with
  | none => exact kit_ty (show kitB "NoneType" "list" = some false by decide +kernel)
  | bool _ => exact kit_ty (show kitB "bool" "list" = some false by decide +kernel)
  | int _ => exact kit_ty (show kitB "int" "list" = some false by decide +kernel)
  | str _ => exact kit_ty (show kitB "str" "list" = some false by decide +kernel)
  | list _ => exact kit_ty (show kitB "list" "list" = some true by decide +kernel)
  | tuple _ => exact kit_ty (show kitB "tuple" "list" = some false by decide +kernel)
  | dict _ => exact kit_ty (show kitB "dict" "list" = some false by decide +kernel)
theorem kit_tuple (d : PyData) : PySem.W.kitOne K (.type (tyN d)) (.type "tuple") = some (isTup d) := by
  cases d with
  | none => exact kit_ty (show kitB "NoneType" "tuple" = some false by decide +kernel)
  | bool _ => exact kit_ty (show kitB "bool" "tuple" = some false by decide +kernel)
  | int _ => exact kit_ty (show kitB "int" "tuple" = some false by decide +kernel)
  | str _ => exact kit_ty (show kitB "str" "tuple" = some false by decide +kernel)
  | list _ => exact kit_ty (show kitB "list" "tuple" = some false by decide +kernel)
  | tuple _ => exact kit_ty (show kitB "tuple" "tuple" = some true by decide +kernel)
  | dict _ => exact kit_ty (show kitB "dict" "tuple" = some false by decide +kernel)
theorem kit_int (d : PyData) : PySem.W.kitOne K (.type (tyN d)) (.type "int") = some (match d with | .int _ => true | .bool _ => true | _ => false) := by
  cases d with
  | none => exact kit_ty (show kitB "NoneType" "int" = some false by decide +kernel)
  | bool _ => exact kit_ty (show kitB "bool" "int" = some true by decide +kernel)
  | int _ => exact kit_ty (show kitB "int" "int" = some true by decide +kernel)
  | str _ => exact kit_ty (show kitB "str" "int" = some false by decide +kernel)
  | list _ => exact kit_ty (show kitB "list" "int" = some false by decide +kernel)
  | tuple _ => exact kit_ty (show kitB "tuple" "int" = some false by decide +kernel)
  | dict _ => exact kit_ty (show kitB "dict" "int" = some false by decide +kernel)
theorem kit_bool (d : PyData) : PySem.W.kitOne K (.type (tyN d)) (.type "bool") = some (match d with | .bool _ => true | _ => false) := by
  cases d with
  | none => exact kit_ty (show kitB "NoneType" "bool" = some false by decide +kernel)
  | bool _ => exact kit_ty (show kitB "bool" "bool" = some true by decide +kernel)
  | int _ => exact kit_ty (show kitB "int" "bool" = some false by decide +kernel)
  | str _ => exact kit_ty (show kitB "str" "bool" = some false by decide +kernel)
  | list _ => exact kit_ty (show kitB "list" "bool" = some false by decide +kernel)
  | tuple _ => exact kit_ty (show kitB "tuple" "bool" = some false by decide +kernel)
  | dict _ => exact kit_ty (show kitB "dict" "bool" = some false by decide +kernel)
theorem kit_dict (d : PyData) : PySem.W.kitOne K (.type (tyN d)) (.type "dict") = some (match d with | .dict _ => true | _ => false) := by
  cases d with
  | none => exact kit_ty (show kitB "NoneType" "dict" = some false by decide +kernel)
  | bool _ => exact kit_ty (show kitB "bool" "dict" = some false by decide +kernel)
  | int _ => exact kit_ty (show kitB "int" "dict" = some false by decide +kernel)
  | str _ => exact kit_ty (show kitB "str" "dict" = some false by decide +kernel)
  | list _ => exact kit_ty (show kitB "list" "dict" = some false by decide +kernel)
  | tuple _ => exact kit_ty (show kitB "tuple" "dict" = some false by decide +kernel)
  | dict _ => exact kit_ty (show kitB "dict" "dict" = some true by decide +kernel)
end
/-- the names of the module and of the machine that are read -/
structure Txt (mg : Str → Option Value) : Prop where
  b_len : mg "len" = none
  b_int : mg "int" = none
  b_bool : mg "bool" = none
  b_str : mg "str" = none
  b_list : mg "list" = none
  b_tuple : mg "tuple" = none
  b_dict : mg "dict" = none
  b_set : mg "set" = none
  b_range : mg "range" = none
  b_zip : mg "zip" = none
  b_enumerate : mg "enumerate" = none
  b_sorted : mg "sorted" = none
  b_isinstance : mg "isinstance" = none
  g_LETTERS : ∃ t, mg "LETTERS" = some (.str letters t)
def spWord (K : PySem.W.Frag) : Sp := fun vs H Q _ => ∃ (v : V) (d : PyData), vs = [v] ∧ Dp K H v d ∧ (∀ x, d = .str x → x.length ≤ 100000) ∧ Q (.bl (isWord d)) H
section
variable {P : Program} {w : World} {K : PySem.W.Frag} {mg : Str → Option Value} {base : Heap} {H : Hp}
theorem chain_le {σ : L2.St} {H : Hp} {Q : VK} {ta tb : TE} {lo hi n : Int} (tl : TE) (h1 : ∀ Q, Q (.int lo) H → ta σ H Q) (h : ∀ Q, Q (.int n) H → tl σ H Q) (h2 : ∀ Q, Q (.int hi) H → tb σ H Q) (q : Q (.bl (decide (lo ≤ n ∧ n ≤ hi))) H) :
    tChain (rI0 fun i j => .bl (decide (i ≤ j))) (rI0 fun i j => .bl (decide (i ≤ j))) ta tl tb σ H Q := by
  refine h1 _ (h _ ⟨_, _, rfl, rfl, _, rfl, ?_⟩)
  by_cases c : lo ≤ n
  · refine ifT (decide_eq_true c) (h2 _ ⟨_, _, rfl, rfl, ?_⟩)
    have e : decide (n ≤ hi) = decide (lo ≤ n ∧ n ≤ hi) := by simp [c]
    show Q (.bl (decide (n ≤ hi))) H
    rw [e]
    exact q
  · refine ifF (decide_eq_false c) ?_
    have e : false = decide (lo ≤ n ∧ n ≤ hi) := by simp [c]
    rw [e]
    exact q
theorem sc_is_word : FnScope ["value", "letter"] ["value"] (defScope s_is_word) := ⟨rfl, rfl, rfl, by decide +kernel, rfl, by decide +kernel, by decide +kernel⟩
theorem ok_is_word {f : Addr} {fd : FuncData} (F : Fun K "is_word" "is_word" s_is_word f fd) (T : Txt mg) : FnOk P w K mg base CX0 1 f fd ["value"] (spWord K) := by
  refine F.ok sc_is_word (fun vs H Q E h => ?_) (fun cdv A outer s H vs Q E hr h => ?_)
  · obtain ⟨v, d, rfl, _⟩ := h
    rfl
  · obtain ⟨v, d, rfl, hd, hl, k⟩ := h
    obtain ⟨tk, hL⟩ := T.g_LETTERS
    refine ⟨_, (pss_cons (ps_if (PW.pt (pw_or (pt_not (pt_val (pe_callB call_isi (by rfl) T.b_isinstance (by decide +kernel) (pa_cons (pv 0) (pa_cons (pe_bltn (v := .ty "str") (by rfl) T.b_str (by decide +kernel) rfl) pa_nil))))) (pw_or1 (pt_not (pt_chain op_le op_le pe_int (pe_callB call_len_str (by rfl) T.b_len (by decide +kernel) (pa_cons (pv 0) pa_nil)) pe_int))))) (pss_one (ps_ret pe_bl)) pss_nil)
      (pss_cons (ps_for PassesOwn.never rfl (pi_str (pv 0)) (pg_name (i := 1) sc_is_word.nd rfl (.inl rfl)) (pss_one (ps_if (pt_cmpR op_notIn_sign (pv 1) (pe_glob (v := .str letters) rfl hL ⟨_, rfl⟩) (by rfl)) (pss_one (ps_ret pe_bl)) pss_nil)))
      (pss_one (ps_ret pe_bl)))), ?_⟩
    refine ⟨_, rfl, v, _, _, _, _, rfl, .ty _, ty_dp hd, kit_str d, _, rfl, ?_⟩
    cases hd with
    | str x =>
      refine ifF rfl ?_
      refine chain_le _ (fun Q q => q) (fun Q q => ⟨_, rfl, x, rfl, Evl.sz_of (hl x rfl), q⟩) (fun Q q => q) ⟨_, rfl, ?_⟩
      by_cases c : (1 : Int) ≤ (x.length : Int) ∧ (x.length : Int) ≤ 8
      · rw [decide_eq_true c]
        refine ifF rfl ?_
        have eL : decide (1 ≤ x.length ∧ x.length ≤ 8) = true := decide_eq_true (by omega)
        refine ⟨_, rfl, x, rfl, for_it walk_str (fun i σ H' => H' = H ∧ (∃ y : Option V, σ = [some (.str x), y]) ∧ (x.cps.toList.take i).all (fun c => decide (c ∈ letters.cps.toList)) = true) ⟨rfl, ⟨none, rfl⟩, rfl⟩ (fun _ _ _ _ _ => trivial) ?_ ?_⟩
        · rintro i v σ H1 H2 hi ⟨rfl, ⟨y, rfl⟩, hp⟩ ⟨rfl, c, hc, rfl⟩
          have hc' : x.cps.toList[i]? = some c := by rw [Array.getElem?_toList]; exact hc
          refine ⟨_, rfl, c, letters, rfl, rfl, _, rfl, ?_⟩
          by_cases m : c ∈ letters.cps.toList
          · rw [decide_eq_true m]
            refine ifF rfl ⟨rfl, ⟨_, rfl⟩, ?_⟩
            rw [TS.take_one hc', List.all_append, hp, List.all_cons, List.all_nil, decide_eq_true m]
            rfl
          · rw [decide_eq_false m]
            refine ifT rfl ?_
            have e : isWord (.str x) = false := by
              show (decide (1 ≤ x.length ∧ x.length ≤ 8) && _) = false
              rw [eL, Bool.true_and]
              refine Bool.eq_false_iff.mpr fun q => ?_
              have := List.all_eq_true.mp q c (List.mem_of_getElem? hc')
              exact m (of_decide_eq_true this)
            rw [e] at k
            exact k
        · rintro σ H1 ⟨rfl, ⟨y, rfl⟩, hp⟩
          have e : isWord (.str x) = true := by
            show (decide (1 ≤ x.length ∧ x.length ≤ 8) && _) = true
            rw [eL, Bool.true_and]
            rw [List.take_of_length_le (by rw [Array.length_toList]; exact Nat.le_refl _)] at hp
            exact hp
          rw [e] at k
          exact k
      · rw [decide_eq_false c]
        refine ifT rfl ?_
        have e : isWord (.str x) = false := by
          show (decide (1 ≤ x.length ∧ x.length ≤ 8) && _) = false
          rw [decide_eq_false (by omega)]
          rfl
        rw [e] at k
        exact k
    | _ => exact ifT rfl k
/-! data that are of a size that is counted -/
mutual
def small : PyData → Bool
  | .str x => decide (x.length ≤ 100000)
  | .list xs => decide (xs.length ≤ 100000) && smalls xs
  | .tuple xs => decide (xs.length ≤ 100000) && smalls xs
  | _ => true
def smalls : List PyData → Bool
  | [] => true
  | x :: r => small x && smalls r
end
theorem smalls_get : ∀ {ds : List PyData} {i : Nat} {d : PyData}, smalls ds = true → ds[i]? = some d → small d = true
  | [], i, d, _, h => by simp at h
  | x :: r, 0, d, h, e => by
    have e' := Option.some.inj e
    subst e'
    exact (Bool.and_eq_true_iff.mp h).1
  | x :: r, i + 1, d, h, e => smalls_get (ds := r) (i := i) (Bool.and_eq_true_iff.mp h).2 e
theorem small_str {x : Str} (h : small (.str x) = true) : x.length ≤ 100000 := of_decide_eq_true h
theorem strs_of : ∀ {ds : List PyData} {xs : List V}, ds.all isWord = true → DpAll K H xs ds → ∃ zs : List Str, ds = zs.map PyData.str ∧ xs = zs.map V.str := by
  intro ds
  induction ds with
  | nil =>
    intro xs _ h
    cases h
    exact ⟨[], rfl, rfl⟩
  | cons d r ih =>
    intro xs h hp
    cases hp with
    | cons hd ha =>
      obtain ⟨h1, h2⟩ := Bool.and_eq_true_iff.mp h
      obtain ⟨zs, e1, e2⟩ := ih h2 ha
      cases hd with
      | str x => exact ⟨x :: zs, by rw [e1]; rfl, by rw [e2]; rfl⟩
      | _ => cases h1
def spAreWords (K : PySem.W.Frag) : Sp := fun vs H Q _ => ∃ (v : V) (d : PyData) (m : Int), vs = [v, .int m] ∧ Dp K H v d ∧ small d = true ∧ m < 100 ∧ Q (.bl (areWords m d)) H
theorem sc_are_words : FnScope ["value", "most", "item"] ["value", "most"] (defScope s_are_words) := ⟨rfl, rfl, rfl, by decide +kernel, rfl, by decide +kernel, by decide +kernel⟩
theorem ok_are_words {f : Addr} {fd : FuncData} (F : Fun K "are_words" "are_words" s_are_words f fd) (T : Txt mg) (c_is_word : Cal P w K mg base CX0 1 "is_word" ["value"] (spWord K)) : FnOk P w K mg base CX0 2 f fd ["value", "most"] (spAreWords K) := by
  refine F.ok sc_are_words (fun vs H Q E h => ?_) (fun cdv A outer s H vs Q E hr h => ?_)
  · obtain ⟨v, d, m, rfl, _⟩ := h
    rfl
  · obtain ⟨v, d, m, rfl, hd, hs, hm, k⟩ := h
    refine ⟨_, (pss_cons (ps_if (PW.pt (pw_or (pt_not (pt_val (pe_callB call_isi (by rfl) T.b_isinstance (by decide +kernel) (pa_cons (pv 0) (pa_cons (pe_bltn (v := .ty "tuple") (by rfl) T.b_tuple (by decide +kernel) rfl) pa_nil))))) (pw_or1 (pt_not (pt_chain op_le op_le pe_int (pe_callB call_len_seq (by rfl) T.b_len (by decide +kernel) (pa_cons (pv 0) pa_nil)) (pv 1)))))) (pss_one (ps_ret pe_bl)) pss_nil)
      (pss_cons (ps_for PassesOwn.never rfl (pi_tup (pv 0)) (pg_name (i := 2) sc_are_words.nd rfl (.inl rfl)) (pss_one (ps_if (pt_not (pt_val (pe_cal c_is_word (hr.mono (by omega)) rfl pass0 (pa_cons (pv 2) pa_nil)))) (pss_one (ps_ret pe_bl)) pss_nil)))
      (pss_one (ps_ret (pe_cmpR op_eq (pe_lenSetS (by rfl) T.b_len (by rfl) T.b_set (pv 0)) (pe_callB call_len_seq (by rfl) T.b_len (by decide +kernel) (pa_cons (pv 0) pa_nil)) (nomark _)))))), ?_⟩
    refine ⟨_, rfl, v, _, _, _, _, rfl, .ty _, ty_dp hd, kit_tuple d, _, rfl, ?_⟩
    cases hd with
    | @tup a xs ds hq ha =>
      refine ifF rfl ?_
      have hlen := ha.len
      refine chain_le _ (fun Q q => q) (fun Q q => ⟨_, rfl, a, xs, rfl, .inr hq, q⟩) (fun Q q => ⟨_, rfl, q⟩) ⟨_, rfl, ?_⟩
      by_cases c : (1 : Int) ≤ (xs.length : Int) ∧ (xs.length : Int) ≤ m
      · rw [decide_eq_true c]
        refine ifF rfl ?_
        have eL : decide (1 ≤ ds.length ∧ (ds.length : Int) ≤ m) = true := decide_eq_true (by omega)
        refine ⟨_, rfl, a, rfl, ⟨_, hq⟩, for_it walk_tup (fun i σ H' => H' = H ∧ (∃ y : Option V, σ = [some (.ref a), some (.int m), y]) ∧ (ds.take i).all isWord = true) ⟨rfl, ⟨none, rfl⟩, rfl⟩ (fun _ _ _ _ p => by rw [p.1]; exact hq) ?_ ?_⟩
        · rintro i x σ H1 H2 hi ⟨rfl, ⟨y, rfl⟩, hp⟩ ⟨rfl, hx⟩
          obtain ⟨d, hd1, hd2⟩ := ha.get hx
          have hsd := smalls_get (Bool.and_eq_true_iff.mp hs).2 hd1
          refine ⟨_, rfl, x, d, rfl, hd2, fun z e => small_str (by rw [← e]; exact hsd), _, rfl, ?_⟩
          by_cases mw : isWord d = true
          · rw [mw]
            refine ifF rfl ⟨rfl, ⟨_, rfl⟩, ?_⟩
            rw [TS.take_one hd1, List.all_append, hp]
            simp [mw]
          · rw [Bool.eq_false_iff.mpr mw]
            refine ifT rfl ?_
            have e : areWords m (.tuple ds) = false := by
              show (decide (1 ≤ ds.length ∧ (ds.length : Int) ≤ m) && (ds.all isWord && _)) = false
              rw [eL, Bool.true_and]
              refine Bool.eq_false_iff.mpr fun q => ?_
              exact mw (List.all_eq_true.mp (Bool.and_eq_true_iff.mp q).1 d (List.mem_of_getElem? hd1))
            rw [e] at k
            exact k
        · rintro σ H1 ⟨rfl, ⟨y, rfl⟩, hp⟩
          rw [List.take_of_length_le (by omega)] at hp
          obtain ⟨zs, rfl, rfl⟩ := strs_of hp ha
          rw [List.length_map] at hlen c
          refine ⟨_, rfl, a, zs, rfl, hq, by omega, _, rfl, a, _, rfl, .inr hq, rfl, ?_⟩
          have e : areWords m (.tuple (zs.map PyData.str)) = decide (V.int (TS.dist zs zs.length : Nat) = V.int ((zs.map V.str).length : Nat)) := by
            show (decide _ && ((zs.map PyData.str).all isWord && decide (((zs.map PyData.str).map strOf).Nodup))) = _
            rw [eL, hp, Bool.true_and, Bool.true_and, List.map_map]
            have e1 : zs.map (strOf ∘ PyData.str) = zs := by
              have : (strOf ∘ PyData.str) = id := by funext z; rfl
              rw [this, List.map_id]
            rw [e1, List.length_map]
            have f := TS.dist_full zs zs.length (Nat.le_refl _)
            rw [List.take_length] at f
            by_cases nd : zs.Nodup
            · rw [decide_eq_true nd, f.mpr nd]; simp
            · rw [decide_eq_false nd]
              refine (decide_eq_false fun q => nd (f.mp ?_)).symm
              have := V.int.inj q
              omega
          rw [e] at k
          exact k
      · rw [decide_eq_false c]
        refine ifT rfl ?_
        have e : areWords m (.tuple ds) = false := by
          show (decide (1 ≤ ds.length ∧ (ds.length : Int) ≤ m) && _) = false
          rw [decide_eq_false (by omega)]
          rfl
        rw [e] at k
        exact k
    | _ => exact ifT rfl k
def spBr (K : PySem.W.Frag) : Sp := fun vs H Q _ => ∃ (v : V) (d : PyData), vs = [v] ∧ Dp K H v d ∧ Q (.bl (isBranches d)) H
theorem sc_is_branches : FnScope ["value", "rows"] ["value"] (defScope s_is_branches) := ⟨rfl, rfl, rfl, by decide +kernel, rfl, by decide +kernel, by decide +kernel⟩
theorem ok_is_branches {f : Addr} {fd : FuncData} (F : Fun K "is_branches" "is_branches" s_is_branches f fd) (T : Txt mg) : FnOk P w K mg base CX0 1 f fd ["value"] (spBr K) := by
  refine F.ok sc_is_branches (fun vs H Q E h => ?_) (fun cdv A outer s H vs Q E hr h => ?_)
  · obtain ⟨v, d, rfl, _⟩ := h
    rfl
  · obtain ⟨v, d, rfl, hd, k⟩ := h
    refine ⟨_, (pss_cons (ps_if (PW.pt (pw_or (pt_not (pt_val (pe_callB call_isi (by rfl) T.b_isinstance (by decide +kernel) (pa_cons (pv 0) (pa_cons (pe_bltn (v := .ty "tuple") (by rfl) T.b_tuple (by decide +kernel) rfl) pa_nil))))) (pw_or1 (pt_not (pt_chain op_le op_le pe_int (pe_callB call_len_seq (by rfl) T.b_len (by decide +kernel) (pa_cons (pv 0) pa_nil)) pe_int))))) (pss_one (ps_ret pe_bl)) pss_nil)
      (pss_cons (ps_for PassesOwn.never rfl (pi_tup (pv 0)) (pg_name (i := 1) sc_is_branches.nd rfl (.inl rfl)) (pss_one (ps_if (pt_not (pt_val (pe_callB call_isi (by rfl) T.b_isinstance (by decide +kernel) (pa_cons (pv 1) (pa_cons (pe_bltn (v := .ty "list") (by rfl) T.b_list (by decide +kernel) rfl) pa_nil))))) (pss_one (ps_ret pe_bl)) pss_nil)))
      (pss_one (ps_ret pe_bl)))), ?_⟩
    refine ⟨_, rfl, v, _, _, _, _, rfl, .ty _, ty_dp hd, kit_tuple d, _, rfl, ?_⟩
    cases hd with
    | @tup a xs ds hq ha =>
      refine ifF rfl ?_
      have hlen := ha.len
      refine chain_le _ (fun Q q => q) (fun Q q => ⟨_, rfl, a, xs, rfl, .inr hq, q⟩) (fun Q q => q) ⟨_, rfl, ?_⟩
      by_cases c : (2 : Int) ≤ (xs.length : Int) ∧ (xs.length : Int) ≤ 3
      · rw [decide_eq_true c]
        refine ifF rfl ?_
        have eL : decide (2 ≤ ds.length ∧ ds.length ≤ 3) = true := decide_eq_true (by omega)
        refine ⟨_, rfl, a, rfl, ⟨_, hq⟩, for_it walk_tup (fun i σ H' => H' = H ∧ (∃ y : Option V, σ = [some (.ref a), y]) ∧ (ds.take i).all isList = true) ⟨rfl, ⟨none, rfl⟩, rfl⟩ (fun _ _ _ _ p => by rw [p.1]; exact hq) ?_ ?_⟩
        · rintro i x σ H1 H2 hi ⟨rfl, ⟨y, rfl⟩, hp⟩ ⟨rfl, hx⟩
          obtain ⟨d, hd1, hd2⟩ := ha.get hx
          refine ⟨_, rfl, x, _, _, _, _, rfl, .ty _, ty_dp hd2, kit_list d, _, rfl, ?_⟩
          by_cases mw : isList d = true
          · rw [mw]
            refine ifF rfl ⟨rfl, ⟨_, rfl⟩, ?_⟩
            rw [TS.take_one hd1, List.all_append, hp]
            simp [mw]
          · rw [Bool.eq_false_iff.mpr mw]
            refine ifT rfl ?_
            have e : isBranches (.tuple ds) = false := by
              show (decide (2 ≤ ds.length ∧ ds.length ≤ 3) && ds.all isList) = false
              rw [eL, Bool.true_and]
              refine Bool.eq_false_iff.mpr fun q => ?_
              exact mw (List.all_eq_true.mp q d (List.mem_of_getElem? hd1))
            rw [e] at k
            exact k
        · rintro σ H1 ⟨rfl, ⟨y, rfl⟩, hp⟩
          rw [List.take_of_length_le (by omega)] at hp
          have e : isBranches (.tuple ds) = true := by
            show (decide (2 ≤ ds.length ∧ ds.length ≤ 3) && ds.all isList) = true
            rw [eL, hp]
            rfl
          rw [e] at k
          exact k
      · rw [decide_eq_false c]
        refine ifT rfl ?_
        have e : isBranches (.tuple ds) = false := by
          show (decide (2 ≤ ds.length ∧ ds.length ≤ 3) && _) = false
          rw [decide_eq_false (by omega)]
          rfl
        rw [e] at k
        exact k
    | _ => exact ifT rfl k
end
end Op
namespace Op
open PySem L2 PyProof.Rows
/-! ### the mirror: one row -/
structure Chk where
  total : Int
  labels : List Str
  slots : List Str
  gates : List Str
  edits : List Str
/-- what a check knows: asks, signals, whether edit rows may be -/
structure Env0 where
  asks : List Str
  sigs : List Str
  we : Bool
def partFits (E : Env0) (code : Str) (d : PyData) : Bool :=
  if code = "a" then isWord d && decide (strOf d ∈ E.asks)
  else if code = "g" then isWord d && decide (strOf d ∈ E.sigs)
  else if code = "s" then isWord d && !decide (strOf d = "in")
  else if code = "m" ∨ code = "v" then areWords 3 d
  else if code = "b" then isList d
  else if code = "t" then isBranches d
  else isWord d
def idFits (c : Chk) (kind : Str) (parts : List PyData) : Bool :=
  if kind = "edit" then !decide (strOf (parts.headD .none) ∈ c.edits) && !decide (strOf (parts.headD .none) ∈ c.gates)
  else if kind = "gate" ∨ kind = "past" then !decide (strOf (parts.headD .none) ∈ c.edits)
  else true
def shapes : List (Str × Str) := [("ask", "al"), ("timer", "l"), ("await", "ls"), ("first", "ms"), ("drop", "l"), ("take", "gs"), ("note", "sv"), ("put", "sw"), ("if", "rwbb"), ("loop", "b"), ("leave", ""), ("part", "b"), ("both", "t"), ("gate", "ibb"), ("past", "ib"), ("edit", "ibb"), ("end", "r"), ("anew", "r")]
def putW (xs : List Str) (x : Str) : List Str := if x ∈ xs then xs else xs ++ [x]
/-! ### the object -/
structure RcA where
  C : Addr
  a : Addr
  dx : Addr
  ka : Addr
  ks : Addr
  l : Addr
  s : Addr
  g : Addr
  e : Addr
def dkT (xs : List Str) : List (Key × V) := xs.map fun x => (.inr x, .bl true)
theorem valV_dkT (x : Str) : ∀ xs : List Str, (valV (dkT xs) (.inr x)).isSome = decide (x ∈ xs)
  | [] => rfl
  | y :: r => by
    show (valV ((Sum.inr y, V.bl true) :: dkT r) (.inr x)).isSome = _
    by_cases e : y = x
    · rw [valV_pos (by rw [e])]; simp [e]
    · rw [valV_neg (fun q => e (Sum.inr.inj q)), valV_dkT x r]
      simp [Ne.symm e]
theorem dkT_put (xs : List Str) (x : Str) : putK (dkT xs) (.inr x) (.bl true) = dkT (putW xs x) := by
  unfold putW
  by_cases e : x ∈ xs
  · rw [if_pos e]
    unfold putK
    have h : ((dkT xs).any fun kv => decide (kv.1 = Sum.inr x)) = true := by rw [valV_any, valV_dkT]; exact decide_eq_true e
    rw [if_pos h]
    unfold dkT
    rw [List.map_map]
    refine List.map_congr_left fun y _ => ?_
    show (if (Sum.inr y : Key) = Sum.inr x then ((Sum.inr y : Key), V.bl true) else (Sum.inr y, V.bl true)) = _
    split <;> rfl
  · rw [if_neg e, putK_new _ (by
      have h := valV_dkT x xs
      rw [decide_eq_false e] at h
      cases q : valV (dkT xs) (.inr x) with
      | none => rfl
      | some v => rw [q] at h; cases h)]
    unfold dkT
    rw [List.map_append]
    rfl
theorem dkT_len (xs : List Str) : (dkT xs).length = xs.length := List.length_map _
def rcF (A : RcA) (E : Env0) (c : Chk) : List (Str × V) := [("known_asks", .ref A.ka), ("known_signals", .ref A.ks), ("with_edits", .bl E.we), ("total", .int c.total), ("label_words", .ref A.l), ("slot_words", .ref A.s), ("gate_words", .ref A.g), ("edit_words", .ref A.e)]
def Known (H : Hp) (p : Addr) (xs : List Str) : Prop := ∃ kvs, H p = some (.dK kvs) ∧ ∀ x, (valV kvs (.inr x)).isSome = decide (x ∈ xs)
structure RC (H : Hp) (A : RcA) (E : Env0) (c : Chk) : Prop where
  ob : H A.a = some (.ins A.C A.dx (rcF A E c))
  ka : Known H A.ka E.asks
  ks : Known H A.ks E.sigs
  dl : H A.l = some (.dK (dkT c.labels))
  ds : H A.s = some (.dK (dkT c.slots))
  dg : H A.g = some (.dK (dkT c.gates))
  de : H A.e = some (.dK (dkT c.edits))
  nd : [A.ka, A.l, A.s, A.g, A.e].Nodup
  nk : [A.ks, A.l, A.s, A.g, A.e].Nodup
/-- what the class must have -/
structure RcC (K : PySem.W.Frag) (C : Addr) : Prop where
  cls : Cls K C
  n1 : NoAttr K C "known_asks"
  n2 : NoAttr K C "known_signals"
  n3 : NoAttr K C "with_edits"
  n4 : NoAttr K C "total"
  n5 : NoAttr K C "label_words"
  n6 : NoAttr K C "slot_words"
  n7 : NoAttr K C "gate_words"
  n8 : NoAttr K C "edit_words"
mutual
def wt : PyData → Nat
  | .str x => 1 + x.length
  | .list xs => 1 + wts xs
  | .tuple xs => 1 + wts xs
  | _ => 1
def wts : List PyData → Nat
  | [] => 0
  | x :: r => wt x + wts r
end
theorem wt_pos (d : PyData) : 1 ≤ wt d := by cases d <;> unfold wt <;> omega
theorem wts_len : ∀ ds : List PyData, ds.length ≤ wts ds
  | [] => Nat.le_refl _
  | d :: r => by
    have := wts_len r
    have := wt_pos d
    show r.length + 1 ≤ wt d + wts r
    omega
theorem wts_mem {d : PyData} : ∀ {ds : List PyData}, d ∈ ds → wt d ≤ wts ds
  | x :: r, h => by
    show _ ≤ wt x + wts r
    rcases List.mem_cons.mp h with rfl | h
    · omega
    · have := wts_mem h
      omega
mutual
theorem small_of : ∀ d : PyData, wt d ≤ 100000 → small d = true
  | .str x, h => by
    unfold wt at h
    exact decide_eq_true (by omega)
  | .list xs, h => by
    unfold wt at h
    have := wts_len xs
    unfold small
    rw [decide_eq_true (by omega : xs.length ≤ 100000), smalls_of xs (by omega)]
    rfl
  | .tuple xs, h => by
    unfold wt at h
    have := wts_len xs
    unfold small
    rw [decide_eq_true (by omega : xs.length ≤ 100000), smalls_of xs (by omega)]
    rfl
  | .none, _ => by unfold small; rfl
  | .bool _, _ => by unfold small; rfl
  | .int _, _ => by unfold small; rfl
  | .dict _, _ => by unfold small; rfl
theorem smalls_of : ∀ ds : List PyData, wts ds ≤ 100000 → smalls ds = true
  | [], _ => by unfold smalls; rfl
  | d :: r, h => by
    unfold wts at h
    unfold smalls
    rw [small_of d (by omega), smalls_of r (by omega)]
    rfl
end
section
variable {P : Program} {w : World} {K : PySem.W.Frag} {mg : Str → Option Value} {base : Heap}
def spPF (K : PySem.W.Frag) : Sp := fun vs H Q _ => ∃ (A : RcA) (E : Env0) (c : Chk) (x : Str) (v : V) (d : PyData), vs = [.ref A.a, .str x, v] ∧ RC H A E c ∧ RcC K A.C ∧ Dp K H v d ∧ wt d ≤ 100000 ∧ Q (.bl (partFits E x d)) H
theorem dec_strV {x y : Str} : decide (V.str x = V.str y) = decide (x = y) := by
  rw [Bool.eq_iff_iff]
  simp
theorem mono_str {v : V} {d : PyData} {K} {H : Hp} (h : Dp K H v d) (hw : isWord d = true) : v = .str (strOf d) := by
  cases h with
  | str x => rfl
  | _ => cases hw
theorem dget_known {H : Hp} {p : Addr} {kvs : List (Key × V)} {x : Str} (h : H p = some (.dK kvs)) : DGet H p (.str x) (valV kvs (.inr x)) := DGet.k (k := .inr x) h
theorem sc_RowCheck_part_fits : FnScope ["self", "code", "part"] ["self", "code", "part"] (defScope s_RowCheck_part_fits) := ⟨rfl, rfl, rfl, by decide +kernel, rfl, by decide +kernel, by decide +kernel⟩
theorem ok_part_fits {f : Addr} {fd : FuncData} (F : Fun K "part_fits" "RowCheck.part_fits" s_RowCheck_part_fits f fd) (T : Txt mg) (c_is_word : Cal P w K mg base CX0 1 "is_word" ["value"] (spWord K)) (c_are_words : Cal P w K mg base CX0 2 "are_words" ["value", "most"] (spAreWords K)) (c_is_branches : Cal P w K mg base CX0 1 "is_branches" ["value"] (spBr K)) :
    FnOk P w K mg base CX0 3 f fd ["self", "code", "part"] (spPF K) := by
  refine F.ok sc_RowCheck_part_fits (fun vs H Q E h => ?_) (fun cdv A outer s H vs Q E hr h => ?_)
  · obtain ⟨A, E, c, x, v, d, rfl, _⟩ := h
    rfl
  · obtain ⟨R, E0, c, x, v, d, rfl, O, rc, hd, hw, k⟩ := h
    have hu := hu_of hr
    have hs := small_of d hw
    have hsx : ∀ x, d = .str x → x.length ≤ 100000 := fun z e => small_str (by rw [← e]; exact hs)
    obtain ⟨ka, hka, pka⟩ := O.ka
    obtain ⟨ks, hks, pks⟩ := O.ks
    unfold partFits at k
    refine ⟨_, (pss_cons (ps_if (pt_cmpR op_eq (pv 1) pe_str (nomark _)) (pss_one (ps_ret (pe_and (pe_cal c_is_word (hr.mono (by omega)) rfl pass0 (pa_cons (pv 2) pa_nil)) (pe_one (pe_cmp (pc_din hu (pv 2) (pe_fld (pv 0) rfl))))))) pss_nil)
      (pss_cons (ps_if (pt_cmpR op_eq (pv 1) pe_str (nomark _)) (pss_one (ps_ret (pe_and (pe_cal c_is_word (hr.mono (by omega)) rfl pass0 (pa_cons (pv 2) pa_nil)) (pe_one (pe_cmp (pc_din hu (pv 2) (pe_fld (pv 0) rfl))))))) pss_nil)
      (pss_cons (ps_if (pt_cmpR op_eq (pv 1) pe_str (nomark _)) (pss_one (ps_ret (pe_and (pe_cal c_is_word (hr.mono (by omega)) rfl pass0 (pa_cons (pv 2) pa_nil)) (pe_one (pe_cmpR op_ne (pv 2) pe_str (nomark _)))))) pss_nil)
      (pss_cons (ps_if (PW.pt (pw_or (pt_cmpR op_eq (pv 1) pe_str (nomark _)) (pw_or1 (pt_cmpR op_eq (pv 1) pe_str (nomark _))))) (pss_one (ps_ret (pe_cal c_are_words (hr.mono (by omega)) rfl pass0 (pa_cons (pv 2) (pa_cons pe_int pa_nil))))) pss_nil)
      (pss_cons (ps_if (pt_cmpR op_eq (pv 1) pe_str (nomark _)) (pss_one (ps_ret (pe_callB call_isi (by rfl) T.b_isinstance (by decide +kernel) (pa_cons (pv 2) (pa_cons (pe_bltn (v := .ty "list") (by rfl) T.b_list (by decide +kernel) rfl) pa_nil))))) pss_nil)
      (pss_cons (ps_if (pt_cmpR op_eq (pv 1) pe_str (nomark _)) (pss_one (ps_ret (pe_cal c_is_branches (hr.mono (by omega)) rfl pass0 (pa_cons (pv 2) pa_nil)))) pss_nil)
      (pss_one (ps_ret (pe_cal c_is_word (hr.mono (by omega)) rfl pass0 (pa_cons (pv 2) pa_nil)))))))))), ?_⟩
    refine ⟨_, rfl, rfl, _, rfl, ?_⟩
    rw [dec_strV]
    by_cases e1 : x = "a"
    · rw [if_pos e1] at k
      refine ifT (decide_eq_true e1) ⟨_, rfl, v, d, rfl, hd, hsx, _, rfl, ?_⟩
      by_cases q : isWord d = true
      · rw [q] at k
        refine ifT q ?_
        obtain rfl := mono_str hd q
        refine ⟨_, rfl, _, rfl, _, _, _, _, _, rfl, O.ob, rc.cls, rc.n1, rfl, _, _, rfl, dget_known hka, ?_⟩
        rw [pka]
        exact k
      · rw [Bool.eq_false_iff.mpr q] at k
        exact ifF (Bool.eq_false_iff.mpr q) k
    · rw [if_neg e1] at k
      refine ifF (decide_eq_false e1) ⟨_, rfl, rfl, _, rfl, ?_⟩
      rw [dec_strV]
      by_cases e2 : x = "g"
      · rw [if_pos e2] at k
        refine ifT (decide_eq_true e2) ⟨_, rfl, v, d, rfl, hd, hsx, _, rfl, ?_⟩
        by_cases q : isWord d = true
        · rw [q] at k
          refine ifT q ?_
          obtain rfl := mono_str hd q
          refine ⟨_, rfl, _, rfl, _, _, _, _, _, rfl, O.ob, rc.cls, rc.n2, rfl, _, _, rfl, dget_known hks, ?_⟩
          rw [pks]
          exact k
        · rw [Bool.eq_false_iff.mpr q] at k
          exact ifF (Bool.eq_false_iff.mpr q) k
      · rw [if_neg e2] at k
        refine ifF (decide_eq_false e2) ⟨_, rfl, rfl, _, rfl, ?_⟩
        rw [dec_strV]
        by_cases e3 : x = "s"
        · rw [if_pos e3] at k
          refine ifT (decide_eq_true e3) ⟨_, rfl, v, d, rfl, hd, hsx, _, rfl, ?_⟩
          by_cases q : isWord d = true
          · rw [q] at k
            refine ifT q ?_
            obtain rfl := mono_str hd q
            refine ⟨_, rfl, rfl, ?_⟩
            rw [dec_strV]
            exact k
          · rw [Bool.eq_false_iff.mpr q] at k
            exact ifF (Bool.eq_false_iff.mpr q) k
        · rw [if_neg e3] at k
          refine ifF (decide_eq_false e3) ⟨_, rfl, rfl, _, rfl, ?_⟩
          rw [dec_strV]
          by_cases e4 : x = "m" ∨ x = "v"
          · rw [if_pos e4] at k
            by_cases e5 : x = "m"
            · refine ifT (decide_eq_true e5) ?_
              refine ifT rfl ⟨_, rfl, v, d, 3, rfl, hd, hs, by decide, k⟩
            · refine ifF (decide_eq_false e5) ⟨_, rfl, rfl, _, rfl, ?_⟩
              rw [dec_strV]
              refine ifT (decide_eq_true (e4.resolve_left e5)) ⟨_, rfl, v, d, 3, rfl, hd, hs, by decide, k⟩
          · rw [if_neg e4] at k
            refine ifF (decide_eq_false fun h => e4 (.inl h)) ⟨_, rfl, rfl, _, rfl, ?_⟩
            rw [dec_strV]
            refine ifF (decide_eq_false fun h => e4 (.inr h)) ⟨_, rfl, rfl, _, rfl, ?_⟩
            rw [dec_strV]
            by_cases e6 : x = "b"
            · rw [if_pos e6] at k
              exact ifT (decide_eq_true e6) ⟨_, rfl, v, _, _, _, _, rfl, .ty _, ty_dp hd, kit_list d, k⟩
            · rw [if_neg e6] at k
              refine ifF (decide_eq_false e6) ⟨_, rfl, rfl, _, rfl, ?_⟩
              rw [dec_strV]
              by_cases e7 : x = "t"
              · rw [if_pos e7] at k
                exact ifT (decide_eq_true e7) ⟨_, rfl, v, d, rfl, hd, k⟩
              · rw [if_neg e7] at k
                exact ifF (decide_eq_false e7) ⟨_, rfl, v, d, rfl, hd, hsx, k⟩
end
end Op
namespace L2
open PySem PySem.Spec PyProof.Rows
/-! ### frames -/
def seqO : HO → Bool
  | .lst _ => true
  | .tup _ => true
  | .frz _ _ => true
  | _ => false
/-- lists and tuples stay -/
def Kp (H H' : Hp) : Prop := ∀ b o, H b = some o → seqO o = true → H' b = some o
/-- all but those of L stay -/
def Fr (L : List Addr) (H H' : Hp) : Prop := ∀ b o, H b = some o → b ∉ L → H' b = some o
theorem Same.kp {H H' : Hp} (s : Same H H') : Kp H H' := fun b o h _ => s b o h
theorem Same.fr {L : List Addr} {H H' : Hp} (s : Same H H') : Fr L H H' := fun b o h _ => s b o h
theorem Fr.refl {L : List Addr} {H : Hp} : Fr L H H := fun _ _ h _ => h
theorem Fr.trans {L : List Addr} {H H' H'' : Hp} (a : Fr L H H') (b : Fr L H' H'') : Fr L H H'' := fun c o h n => b c o (a c o h n) n
theorem Fr.upd {L : List Addr} {H H' : Hp} {a : Addr} {o : HO} (f : Fr L H H') (h : a ∈ L) : Fr L H (upd H' a o) := fun b u e n => by
  have q : b ≠ a := fun q => n (by rw [q]; exact h)
  rw [L2.upd_ne q]
  exact f b u e n
theorem Same.new {H : Hp} {a : Addr} {o : HO} (h : H a = none) : Same H (upd H a o) := fun b u e => by rw [upd_ne (ne_of_none e h)]; exact e
theorem Kp.trans {H H' H'' : Hp} (a : Kp H H') (b : Kp H' H'') : Kp H H'' := fun c o h n => b c o (a c o h n) n
theorem SqL.kp {K : PySem.W.Frag} {H H' : Hp} {a : Addr} {xs : List V} (h : SqL K H a xs) (s : Kp H H') : SqL K H' a xs := by
  rcases h with (h | ⟨o, h⟩) | h
  · exact .inl (.inl (s _ _ h rfl))
  · exact .inl (.inr ⟨o, s _ _ h rfl⟩)
  · exact .inr h
theorem SqT.kp {K : PySem.W.Frag} {H H' : Hp} {a : Addr} {xs : List V} (h : SqT K H a xs) (s : Kp H H') : SqT K H' a xs := by
  rcases h with (h | ⟨o, h⟩) | h
  · exact .inl (.inl (s _ _ h rfl))
  · exact .inl (.inr ⟨o, s _ _ h rfl⟩)
  · exact .inr h
mutual
theorem Dp.kp {K : PySem.W.Frag} {H H' : Hp} (s : Kp H H') : ∀ {v : V} {d : PyData}, Dp K H v d → Dp K H' v d
  | _, _, .non => .non
  | _, _, .bl b => .bl b
  | _, _, .int i => .int i
  | _, _, .str x => .str x
  | _, _, .lst h a => .lst (h.kp s) (DpAll.kp s a)
  | _, _, .tup h a => .tup (h.kp s) (DpAll.kp s a)
theorem DpAll.kp {K : PySem.W.Frag} {H H' : Hp} (s : Kp H H') : ∀ {vs : List V} {ds : List PyData}, DpAll K H vs ds → DpAll K H' vs ds
  | _, _, .nil => .nil
  | _, _, .cons h a => .cons (Dp.kp s h) (DpAll.kp s a)
end
theorem DpAll.get' {K : PySem.W.Frag} {H : Hp} : ∀ {vs : List V} {ds : List PyData} {i : Nat} {d : PyData}, DpAll K H vs ds → ds[i]? = some d → ∃ v, vs[i]? = some v ∧ Dp K H v d
  | _, _, i, _, .nil, h => by simp at h
  | _, _, 0, d, .cons (v := v) h a, e => by
    have e' := Option.some.inj e
    subst e'
    exact ⟨v, rfl, h⟩
  | _, _, i + 1, v, .cons h a, e => a.get' (i := i) e
end L2
namespace Op
open PySem L2 PyProof.Rows
def RcA.L (A : RcA) : List Addr := [A.a, A.l, A.s, A.g, A.e]
section
variable {H H' : Hp} {A : RcA} {E : Env0} {c : Chk}
theorem RC.kp (O : RC H A E c) (f : Fr A.L H H') : Kp H H' := fun b o h n => f b o h fun m => by
  have : b = A.a ∨ b = A.l ∨ b = A.s ∨ b = A.g ∨ b = A.e := by simpa [RcA.L] using m
  rcases this with rfl | rfl | rfl | rfl | rfl
  · rw [O.ob] at h; cases h; cases n
  · rw [O.dl] at h; cases h; cases n
  · rw [O.ds] at h; cases h; cases n
  · rw [O.dg] at h; cases h; cases n
  · rw [O.de] at h; cases h; cases n
theorem Known.mono {p : Addr} {xs : List Str} (h : Known H p xs) (s : ∀ o, H p = some o → H' p = some o) : Known H' p xs := let ⟨kvs, h1, h2⟩ := h; ⟨kvs, s _ h1, h2⟩
theorem RC.mono (O : RC H A E c) (s : Same H H') : RC H' A E c := ⟨s _ _ O.ob, O.ka.mono (s _), O.ks.mono (s _), s _ _ O.dl, s _ _ O.ds, s _ _ O.dg, s _ _ O.de, O.nd, O.nk⟩
theorem Known.ne_ins {p a C dx : Addr} {fs : List (Str × V)} {xs : List Str} (h : Known H p xs) (e : H a = some (.ins C dx fs)) : p ≠ a := fun q => by
  obtain ⟨kvs, h1, _⟩ := h
  rw [q, e] at h1
  cases h1
theorem RC.nes (O : RC H A E c) : A.a ≠ A.l ∧ A.a ≠ A.s ∧ A.a ≠ A.g ∧ A.a ≠ A.e ∧ A.a ≠ A.ka ∧ A.a ≠ A.ks :=
  ⟨ne_of O.ob O.dl nofun, ne_of O.ob O.ds nofun, ne_of O.ob O.dg nofun, ne_of O.ob O.de nofun, (O.ka.ne_ins O.ob).symm, (O.ks.ne_ins O.ob).symm⟩
theorem RC.nds (O : RC H A E c) : (A.ka ≠ A.l ∧ A.ka ≠ A.s ∧ A.ka ≠ A.g ∧ A.ka ≠ A.e) ∧ (A.ks ≠ A.l ∧ A.ks ≠ A.s ∧ A.ks ≠ A.g ∧ A.ks ≠ A.e) ∧ A.l ≠ A.s ∧ A.l ≠ A.g ∧ A.l ≠ A.e ∧ A.s ≠ A.g ∧ A.s ≠ A.e ∧ A.g ≠ A.e := by
  have h1 := O.nd
  have h2 := O.nk
  simp [List.nodup_cons] at h1 h2
  obtain ⟨⟨a1, a2, a3, a4⟩, ⟨b1, b2, b3⟩, ⟨c1, c2⟩, d1⟩ := h1
  obtain ⟨⟨e1, e2, e3, e4⟩, _⟩ := h2
  exact ⟨⟨a1, a2, a3, a4⟩, ⟨e1, e2, e3, e4⟩, b1, b2, b3, c1, c2, d1⟩
theorem RC.put_l (O : RC H A E c) (x : Str) : RC (upd H A.l (.dK (dkT (putW c.labels x)))) A E { c with labels := putW c.labels x } := by
  obtain ⟨a1, a2, a3, a4, a5, a6⟩ := O.nes
  obtain ⟨⟨k1, k2, k3, k4⟩, ⟨s1, s2, s3, s4⟩, b1, b2, b3, b4, b5, b6⟩ := O.nds
  exact ⟨by rw [upd_ne a1]; exact O.ob, O.ka.mono fun o h => by rw [upd_ne k1]; exact h, O.ks.mono fun o h => by rw [upd_ne s1]; exact h, upd_same, by rw [upd_ne b1.symm]; exact O.ds, by rw [upd_ne b2.symm]; exact O.dg, by rw [upd_ne b3.symm]; exact O.de, O.nd, O.nk⟩
theorem RC.put_s (O : RC H A E c) (x : Str) : RC (upd H A.s (.dK (dkT (putW c.slots x)))) A E { c with slots := putW c.slots x } := by
  obtain ⟨a1, a2, a3, a4, a5, a6⟩ := O.nes
  obtain ⟨⟨k1, k2, k3, k4⟩, ⟨s1, s2, s3, s4⟩, b1, b2, b3, b4, b5, b6⟩ := O.nds
  exact ⟨by rw [upd_ne a2]; exact O.ob, O.ka.mono fun o h => by rw [upd_ne k2]; exact h, O.ks.mono fun o h => by rw [upd_ne s2]; exact h, by rw [upd_ne b1]; exact O.dl, upd_same, by rw [upd_ne b4.symm]; exact O.dg, by rw [upd_ne b5.symm]; exact O.de, O.nd, O.nk⟩
theorem RC.put_g (O : RC H A E c) (x : Str) : RC (upd H A.g (.dK (dkT (putW c.gates x)))) A E { c with gates := putW c.gates x } := by
  obtain ⟨a1, a2, a3, a4, a5, a6⟩ := O.nes
  obtain ⟨⟨k1, k2, k3, k4⟩, ⟨s1, s2, s3, s4⟩, b1, b2, b3, b4, b5, b6⟩ := O.nds
  exact ⟨by rw [upd_ne a3]; exact O.ob, O.ka.mono fun o h => by rw [upd_ne k3]; exact h, O.ks.mono fun o h => by rw [upd_ne s3]; exact h, by rw [upd_ne b2]; exact O.dl, by rw [upd_ne b4]; exact O.ds, upd_same, by rw [upd_ne b6.symm]; exact O.de, O.nd, O.nk⟩
theorem RC.put_e (O : RC H A E c) (x : Str) : RC (upd H A.e (.dK (dkT (putW c.edits x)))) A E { c with edits := putW c.edits x } := by
  obtain ⟨a1, a2, a3, a4, a5, a6⟩ := O.nes
  obtain ⟨⟨k1, k2, k3, k4⟩, ⟨s1, s2, s3, s4⟩, b1, b2, b3, b4, b5, b6⟩ := O.nds
  exact ⟨by rw [upd_ne a4]; exact O.ob, O.ka.mono fun o h => by rw [upd_ne k4]; exact h, O.ks.mono fun o h => by rw [upd_ne s4]; exact h, by rw [upd_ne b3]; exact O.dl, by rw [upd_ne b5]; exact O.ds, by rw [upd_ne b6]; exact O.dg, upd_same, O.nd, O.nk⟩
theorem RC.tot (O : RC H A E c) (n : Int) : RC (upd H A.a (.ins A.C A.dx (rcF A E { c with total := n }))) A E { c with total := n } := by
  obtain ⟨a1, a2, a3, a4, a5, a6⟩ := O.nes
  exact ⟨upd_same, O.ka.mono fun o h => by rw [upd_ne a5.symm]; exact h, O.ks.mono fun o h => by rw [upd_ne a6.symm]; exact h, by rw [upd_ne a1.symm]; exact O.dl, by rw [upd_ne a2.symm]; exact O.ds, by rw [upd_ne a3.symm]; exact O.dg, by rw [upd_ne a4.symm]; exact O.de, O.nd, O.nk⟩
theorem dput_w {p : Addr} {xs : List Str} {x : Str} (h : H p = some (.dK (dkT xs))) (hl : xs.length < sizeLine) : DPut H p (.str x) (.bl true) (upd H p (.dK (dkT (putW xs x)))) := by
  rw [← dkT_put]
  exact DPut.k (k := .inr x) h (by rw [dkT_len]; exact hl)
theorem putW_len (xs : List Str) (x : Str) : (putW xs x).length ≤ xs.length + 1 := by
  unfold putW
  split
  · omega
  · simp
end
section
variable {P : Program} {w : World} {K : PySem.W.Frag} {mg : Str → Option Value} {base : Heap}
def spID (K : PySem.W.Frag) : Sp := fun vs H Q _ => ∃ (A : RcA) (E : Env0) (c : Chk) (t : Addr) (kind : Str) (parts : List PyData), vs = [.ref A.a, .ref t] ∧ RC H A E c ∧ RcC K A.C ∧ Dp K H (.ref t) (.tuple (.str kind :: parts)) ∧
  (kind = "edit" ∨ kind = "gate" ∨ kind = "past" → ∃ x r, parts = .str x :: r) ∧ ∀ H', Same H H' → Q (.bl (idFits c kind parts)) H'
theorem sz_lit {n : Nat} (h : n ≤ 100000) : n ≤ sizeLine := Evl.sz_of h
theorem inV2 (x a b : Str) : inV (.str x) [.str a, .str b] = decide (x = a ∨ x = b) := by
  show (eqV (.str a) (.str x) || (eqV (.str b) (.str x) || false)) = _
  have e : ∀ y : Str, eqV (.str y) (.str x) = decide (x = y) := fun y => by
    show (y == x) = _
    by_cases q : x = y
    · rw [decide_eq_true q, q]; simp
    · rw [decide_eq_false q]; simpa using Ne.symm q
  rw [e, e, Bool.or_false, Bool.eq_iff_iff]
  simp
theorem atI_zero {α : Type} (x : α) (r : List α) : atI (x :: r) 0 = some x := by
  unfold atI ixN
  rw [if_pos (Int.le_refl _), if_pos (by simp only [List.length_cons]; omega)]
  rfl
theorem atI_one {α : Type} (x y : α) (r : List α) : atI (x :: y :: r) 1 = some y := by
  unfold atI ixN
  rw [if_pos (by decide), if_pos (by simp only [List.length_cons]; omega)]
  rfl
theorem sc_RowCheck_id_fits : FnScope ["self", "row"] ["self", "row"] (defScope s_RowCheck_id_fits) := ⟨rfl, rfl, rfl, by decide +kernel, rfl, by decide +kernel, by decide +kernel⟩
theorem ok_id_fits {f : Addr} {fd : FuncData} (F : Fun K "id_fits" "RowCheck.id_fits" s_RowCheck_id_fits f fd) : FnOk P w K mg base CX0 1 f fd ["self", "row"] (spID K) := by
  refine F.ok sc_RowCheck_id_fits (fun vs H Q E h => ?_) (fun cdv A outer s H vs Q E hr h => ?_)
  · obtain ⟨A, E, c, t, kind, parts, rfl, _⟩ := h
    rfl
  · obtain ⟨R, E0, c, t, kind, parts, rfl, O, rc, hd, hp, k⟩ := h
    have hu := hu_of hr
    cases hd with
    | @tup _ xs _ hq ha =>
    cases ha with
    | @cons v0 _ vr _ h0 hr0 =>
    cases h0 with
    | str kind =>
    unfold idFits at k
    refine ⟨_, (pss_cons (ps_if (pt_cmpR op_eq (pe_ix ix_tup (pv 1) pe_int (fun _ _ => rfl)) pe_str (nomark _)) (pss_one (ps_ret (pe_and (pe_cmp (pc_dnotin hu (pe_ix ix_tup (pv 1) pe_int (fun _ _ => rfl)) (pe_fld (pv 0) rfl))) (pe_one (pe_cmp (pc_dnotin hu (pe_ix ix_tup (pv 1) pe_int (fun _ _ => rfl)) (pe_fld (pv 0) rfl))))))) pss_nil)
      (pss_cons (ps_if (pt_cmpR op_in_seq (pe_ix ix_tup (pv 1) pe_int (fun _ _ => rfl)) (pe_tup (pa_cons pe_str (pa_cons pe_str pa_nil))) (by rfl)) (pss_one (ps_ret (pe_cmp (pc_dnotin hu (pe_ix ix_tup (pv 1) pe_int (fun _ _ => rfl)) (pe_fld (pv 0) rfl))))) pss_nil)
      (pss_one (ps_ret pe_bl)))), ?_⟩
    refine ⟨_, rfl, t, _, 0, _, rfl, rfl, hq, atI_zero _ _, rfl, _, rfl, ?_⟩
    rw [dec_strV]
    by_cases e1 : kind = "edit"
    · obtain ⟨x, r, rfl⟩ := hp (.inl e1)
      cases hr0 with
      | @cons v1 _ vr _ h1 _ =>
      cases h1 with
      | str x =>
      rw [if_pos e1] at k
      refine ifT (decide_eq_true e1) ?_
      refine ⟨_, rfl, t, _, 1, _, rfl, rfl, hq, atI_one _ _ _, _, rfl, _, _, _, _, _, rfl, O.ob, rc.cls, rc.n8, rfl, _, _, rfl, dget_known O.de, _, rfl, ?_⟩
      rw [valV_dkT]
      by_cases q : x ∈ c.edits
      · rw [decide_eq_true q]
        refine ifF rfl ?_
        have := k H (Same.refl H)
        rw [show (PyData.str x :: r).headD PyData.none = .str x from rfl] at this
        rw [show strOf (.str x) = x from rfl, decide_eq_true q] at this
        exact this
      · rw [decide_eq_false q]
        refine ifT rfl ?_
        refine ⟨_, rfl, t, _, 1, _, rfl, rfl, hq, atI_one _ _ _, _, rfl, _, _, _, _, _, rfl, O.ob, rc.cls, rc.n7, rfl, _, _, rfl, dget_known O.dg, ?_⟩
        rw [valV_dkT]
        have := k H (Same.refl H)
        rw [show (PyData.str x :: r).headD PyData.none = .str x from rfl] at this
        rw [show strOf (.str x) = x from rfl, decide_eq_false q] at this
        exact this
    · rw [if_neg e1] at k
      refine ifF (decide_eq_false e1) ?_
      refine ⟨_, rfl, t, _, 0, _, rfl, rfl, hq, atI_zero _ _, sz_lit (by decide), fun p hp0 => ⟨p, _, rfl, .inr (.inl (.inl upd_same)), rfl, rfl, _, rfl, ?_⟩⟩
      rw [inV2]
      have sm : Same H (upd H p (.tup [.str "gate", .str "past"])) := Same.new hp0
      by_cases e2 : kind = "gate" ∨ kind = "past"
      · rw [if_pos e2] at k
        refine ifT (decide_eq_true e2) ?_
        obtain ⟨x, r, rfl⟩ := hp (.inr e2)
        cases hr0 with
        | @cons v1 _ vr _ h1 _ =>
        cases h1 with
        | str x =>
        refine ⟨_, rfl, t, _, 1, _, rfl, rfl, hq.mono sm, atI_one _ _ _, _, rfl, _, _, _, _, _, rfl, sm _ _ O.ob, rc.cls, rc.n8, rfl, _, _, rfl, dget_known (sm _ _ O.de), ?_⟩
        rw [valV_dkT]
        exact k _ sm
      · rw [if_neg e2] at k
        refine ifF (decide_eq_false e2) ?_
        exact k _ sm
end
end Op
namespace Op
open PySem L2 PyProof.Rows
def colPart (kind : Str) (c : Chk) (code : Str) (d : PyData) : Chk :=
  if code = "l" then { c with labels := putW c.labels (strOf d) }
  else if code = "m" then { c with labels := (match d with | .tuple ds => (ds.map strOf).foldl putW c.labels | _ => c.labels) }
  else if (code = "s" ∨ code = "r") ∧ ¬ strOf d = "in" then { c with slots := putW c.slots (strOf d) }
  else if code = "i" ∧ kind = "edit" then { c with edits := putW c.edits (strOf d) }
  else if code = "i" then { c with gates := putW c.gates (strOf d) }
  else c
def collect (c : Chk) (kind sh : Str) (parts : List PyData) : Chk := (sh.cps.toList.zip parts).foldl (fun c p => colPart kind c ⟨#[p.1]⟩ p.2) c
def colN (c : Chk) (kind sh : Str) (parts : List PyData) (i : Nat) : Chk := ((sh.cps.toList.zip parts).take i).foldl (fun c p => colPart kind c ⟨#[p.1]⟩ p.2) c
theorem colN_zero (c : Chk) (kind sh : Str) (parts : List PyData) : colN c kind sh parts 0 = c := rfl
theorem colN_all {c : Chk} {kind sh : Str} {parts : List PyData} (h : sh.cps.size = parts.length) : colN c kind sh parts parts.length = collect c kind sh parts := by
  unfold colN collect
  rw [List.take_of_length_le (by rw [List.length_zip, Array.length_toList]; omega)]
theorem colN_succ {c : Chk} {kind sh : Str} {parts : List PyData} {i ch : Nat} {d : PyData} (h1 : sh.cps[i]? = some ch) (h2 : parts[i]? = some d) : colN c kind sh parts (i + 1) = colPart kind (colN c kind sh parts i) ⟨#[ch]⟩ d := by
  unfold colN
  have h : (sh.cps.toList.zip parts)[i]? = some (ch, d) := by
    rw [List.getElem?_zip_eq_some]
    exact ⟨by rw [Array.getElem?_toList]; exact h1, h2⟩
  rw [TS.take_one h, List.foldl_append]
  rfl
/-- sizes of what was collected -/
def Cap (c : Chk) (n : Nat) : Prop := c.labels.length ≤ n ∧ c.slots.length ≤ n ∧ c.gates.length ≤ n ∧ c.edits.length ≤ n
theorem Cap.mono {c : Chk} {m n : Nat} (h : Cap c m) (e : m ≤ n) : Cap c n := ⟨by have := h.1; omega, by have := h.2.1; omega, by have := h.2.2.1; omega, by have := h.2.2.2; omega⟩
theorem foldW_len : ∀ (ys xs : List Str), (ys.foldl putW xs).length ≤ xs.length + ys.length
  | [], xs => Nat.le_refl _
  | y :: r, xs => by
    have := foldW_len r (putW xs y)
    have := putW_len xs y
    show (r.foldl putW (putW xs y)).length ≤ _
    rw [List.length_cons]
    omega
section
variable {E : Env0} {d : PyData}
theorem pf_word {x : Str} (h : partFits E x d = true) (n : ¬ (x = "m" ∨ x = "v") ∧ ¬ x = "b" ∧ ¬ x = "t") : isWord d = true := by
  unfold partFits at h
  rw [if_neg n.1, if_neg n.2.1, if_neg n.2.2] at h
  split at h
  · exact (Bool.and_eq_true_iff.mp h).1
  · split at h
    · exact (Bool.and_eq_true_iff.mp h).1
    · split at h
      · exact (Bool.and_eq_true_iff.mp h).1
      · exact h
theorem pf_m (h : partFits E "m" d = true) : areWords 3 d = true := h
theorem aw_tup {m : Int} (h : areWords m d = true) : ∃ zs : List Str, d = .tuple (zs.map PyData.str) ∧ (zs.length : Int) ≤ m ∧ (∀ z ∈ zs, isWordS z = true) ∧ zs.Nodup ∧ 1 ≤ zs.length := by
  cases d with
  | tuple ds =>
    obtain ⟨h1, h2⟩ := Bool.and_eq_true_iff.mp h
    obtain ⟨h3, h4⟩ := Bool.and_eq_true_iff.mp h2
    have h1 := of_decide_eq_true h1
    have h4 := of_decide_eq_true h4
    have key : ∀ ds : List PyData, ds.all isWord = true → ∃ zs : List Str, ds = zs.map PyData.str ∧ ∀ z ∈ zs, isWordS z = true := by
      intro ds
      induction ds with
      | nil => exact fun _ => ⟨[], rfl, fun _ h => by cases h⟩
      | cons d r ih =>
        intro h
        obtain ⟨a, b⟩ := Bool.and_eq_true_iff.mp h
        obtain ⟨zs, e, p⟩ := ih b
        cases d with
        | str x => exact ⟨x :: zs, by rw [e]; rfl, fun z hz => by
            rcases List.mem_cons.mp hz with rfl | hz
            · exact a
            · exact p z hz⟩
        | _ => cases a
    obtain ⟨zs, rfl, p⟩ := key ds h3
    have e1 : (zs.map PyData.str).map strOf = zs := by
      rw [List.map_map]
      have : (strOf ∘ PyData.str) = id := by funext z; rfl
      rw [this, List.map_id]
    rw [e1] at h4
    rw [List.length_map] at h1
    exact ⟨zs, rfl, h1.2, p, h4, h1.1⟩
  | _ => cases h
end
theorem map_strOf (zs : List Str) : (zs.map PyData.str).map strOf = zs := by
  rw [List.map_map]
  have : (strOf ∘ PyData.str) = id := by funext z; rfl
  rw [this, List.map_id]
/-- the names of the module that the check reads -/
structure TxtC (P : Program) (w : World) (K : PySem.W.Frag) (mg : Str → Option Value) (pS CI : Addr) : Prop extends Txt mg where
  g_SHAPES : mg "SHAPES" = some (.ref pS)
  w_SHAPES : WTab K w pS (shapes.map fun p => (p.1, .str p.2))
  g_MOST_ROWS : ∃ t, mg "MOST_ROWS" = some (.int 60 t)
  g_MOST_LABELS : ∃ t, mg "MOST_LABELS" = some (.int 6 t)
  g_MOST_SLOTS : ∃ t, mg "MOST_SLOTS" = some (.int 4 t)
  g_MOST_GATES : ∃ t, mg "MOST_GATES" = some (.int 8 t)
  g_MOST_EDITS : ∃ t, mg "MOST_EDITS" = some (.int 4 t)
  g_DEEPEST : ∃ t, mg "DEEPEST" = some (.int 5 t)
  g_InvalidProgram : mg "InvalidProgram" = some (.ref CI)
  k_InvalidProgram : PySem.W.keepIn K (.ref CI) = true
  mk_InvalidProgram : XMk P w K CI 2 [] (fun vs _ => [("path", vs.getD 1 .non), ("part", vs.getD 0 .non)])
  r_InvalidProgram : ∀ (M : Model) (h : Heap), K.In h → PySem.W.Looks M h (isSubtype (.ref CI) (.type "BaseException")) true ∧ PySem.W.Looks M h (typeOf (.ref CI)) (.type "type")
theorem shapes_look (x : Str) : (shapes.map fun p => (p.1, V.str p.2)).lookup x = (shapes.lookup x).map V.str := by
  generalize shapes = l
  induction l with
  | nil => rfl
  | cons p r ih =>
    obtain ⟨a, b⟩ := p
    simp only [List.map_cons, List.lookup_cons]
    cases x == a with
    | true => rfl
    | false => exact ih
theorem lt_sz {n : Nat} (h : n < 100000) : n < sizeLine := Nat.lt_of_lt_of_le h (sz_lit (Nat.le_refl _))
theorem cut1 (v : V) (r : List V) : cutV (v :: r) (some 1) none = r := by
  unfold cutV
  rw [HT.sIx_none, show (1 : Int) = ((1 : Nat) : Int) from rfl, HT.sIx_nat, List.length_cons, show min 1 (r.length + 1) = 1 by omega]
  show r.take (r.length + 1 - 1) = r
  rw [List.take_of_length_le (by omega)]
theorem cut1n (v : V) (r : List V) : ¬ (HT.sIx (v :: r).length 0 (some 1) = 0 ∧ HT.sIx (v :: r).length (v :: r).length none = (v :: r).length) := by
  rw [show (1 : Int) = ((1 : Nat) : Int) from rfl, HT.sIx_nat, List.length_cons]
  omega
section
variable {P : Program} {w : World} {K : PySem.W.Frag} {mg : Str → Option Value} {base : Heap} {pS CI : Addr}
def Fitted (E : Env0) (sh : Str) (parts : List PyData) : Prop := sh.cps.size = parts.length ∧ ∀ (i ch : Nat) (d : PyData), sh.cps[i]? = some ch → parts[i]? = some d → partFits E ⟨#[ch]⟩ d = true
def spCol (K : PySem.W.Frag) : Sp := fun vs H Q _ => ∃ (A : RcA) (E : Env0) (c : Chk) (t : Addr) (kind sh : Str) (parts : List PyData), vs = [.ref A.a, .ref t] ∧ RC H A E c ∧ RcC K A.C ∧ Dp K H (.ref t) (.tuple (.str kind :: parts)) ∧
  shapes.lookup kind = some sh ∧ Fitted E sh parts ∧ parts.length ≤ 100 ∧ Cap c 90000 ∧ ∀ H', Fr A.L H H' → RC H' A E (collect c kind sh parts) → Q .non H'
theorem sc_RowCheck_collect : FnScope ["self", "row", "code", "part", "label"] ["self", "row"] (defScope s_RowCheck_collect) := ⟨rfl, rfl, rfl, by decide +kernel, rfl, by decide +kernel, by decide +kernel⟩
theorem ok_collect {f : Addr} {fd : FuncData} (F : Fun K "collect" "RowCheck.collect" s_RowCheck_collect f fd) (T : TxtC P w K mg pS CI) : FnOk P w K mg base CX0 1 f fd ["self", "row"] (spCol K) := by
  refine F.ok sc_RowCheck_collect (fun vs H Q E h => ?_) (fun cdv A outer s H vs Q E hr h => ?_)
  · obtain ⟨A, E, c, t, kind, sh, parts, rfl, _⟩ := h
    rfl
  · obtain ⟨R, E0, c, t, kind, sh, parts, rfl, O, rc, hd, hsh, ⟨hlen, hfit⟩, hpl, hcap, k⟩ := h
    have hu := hu_of hr
    cases hd with
    | @tup _ xs _ hq ha =>
    cases ha with
    | @cons v0 vr d0 dr h0 hr0 =>
    cases h0 with
    | str kind =>
    have hvl := hr0.len
    refine ⟨_, (pss_one (ps_for PassesOwn.never rfl (pi_zipS (by rfl) T.b_zip (pa_cons (pe_ix ix_wtab (pe_gref rfl T.g_SHAPES) (pe_ix ix_tup (pv 1) pe_int (fun _ _ => rfl)) (fun _ _ => rfl)) (pa_cons (pe_slice sl_tupA (pv 1) (po_some pe_int) po_none) pa_nil))) (pg_tup rfl (pgs_cons (pg_name (i := 2) sc_RowCheck_collect.nd rfl (.inl rfl)) (pgs_cons (pg_name (i := 3) sc_RowCheck_collect.nd rfl (.inl rfl)) pgs_nil))) (pss_one (ps_if (pt_cmpR op_eq (pv 2) pe_str (nomark _)) (pss_one (ps_dput hu (pe_fld (pv 0) rfl) (pv 3) pe_bl rfl)) (pss_one (ps_if (pt_cmpR op_eq (pv 2) pe_str (nomark _)) (pss_one (ps_for PassesOwn.never rfl (pi_tup (pv 3)) (pg_name (i := 4) sc_RowCheck_collect.nd rfl (.inl rfl)) (pss_one (ps_dput hu (pe_fld (pv 0) rfl) (pv 4) pe_bl rfl)))) (pss_one (ps_if (PW.pt (pw_and (pt_cmpR op_in_seq (pv 2) (pe_tup (pa_cons pe_str (pa_cons pe_str pa_nil))) (by rfl)) (pw_and1 (pt_cmpR op_ne (pv 3) pe_str (nomark _))))) (pss_one (ps_dput hu (pe_fld (pv 0) rfl) (pv 3) pe_bl rfl)) (pss_one (ps_if (PW.pt (pw_and (pt_cmpR op_eq (pv 2) pe_str (nomark _)) (pw_and1 (pt_cmpR op_eq (pe_ix ix_tup (pv 1) pe_int (fun _ _ => rfl)) pe_str (nomark _))))) (pss_one (ps_dput hu (pe_fld (pv 0) rfl) (pv 3) pe_bl rfl)) (pss_one (ps_if (pt_cmpR op_eq (pv 2) pe_str (nomark _)) (pss_one (ps_dput hu (pe_fld (pv 0) rfl) (pv 3) pe_bl rfl)) pss_nil)))))))))))), ?_⟩
    refine ⟨_, rfl, t, _, 0, _, rfl, rfl, hq, atI_zero _ _, pS, kind, _, .str sh, rfl, rfl, T.w_SHAPES, by rw [shapes_look, hsh]; rfl, ?_⟩
    refine ⟨_, rfl, 1, rfl, t, _, rfl, hq, fun z => absurd z (cut1n _ _), fun _ p hp => ?_⟩
    rw [cut1]
    have sm : Same H (upd H p (.tup vr)) := Same.new hp
    refine ⟨sh, p, vr, rfl, .inl (.inl upd_same), ?_⟩
    refine for_zipS (by omega) (fun i σ H' => (∃ y2 y3 y4 : Option V, σ = [some (.ref R.a), some (.ref t), y2, y3, y4]) ∧ RC H' R E0 (colN c kind sh parts i) ∧ Fr R.L (upd H p (.tup vr)) H' ∧ Cap (colN c kind sh parts i) (90000 + 3 * i)) ⟨⟨_, _, _, rfl⟩, O.mono sm, Fr.refl, hcap⟩ (fun i σ H' q => SqT.kp (.inl (.inl upd_same)) ((O.mono sm).kp q.2.2.1)) ?_ ?_
    · rintro i ch y T0 σ H' h1 h2 ⟨⟨y2, y3, y4, rfl⟩, O1, fr1, cap1⟩ hT0
      obtain ⟨d, h3, hdy⟩ := hr0.get h2
      have hf := hfit i ch d h1 h3
      have hi : i < 100 := by
        have := (List.getElem?_eq_some_iff.mp h3).1
        omega
      have hdy1 : Dp K H' y d := hdy.kp (sm.kp.trans ((O.mono sm).kp fr1))
      refine ⟨T0, _, rfl, .inl (.inl upd_same), rfl, ?_⟩
      have sm1 : Same H' (upd H' T0 (.tup [.str ⟨#[ch]⟩, y])) := Same.new hT0
      have O2 := O1.mono sm1
      have fr2 : Fr R.L (upd H p (.tup vr)) (upd H' T0 (.tup [.str ⟨#[ch]⟩, y])) := fr1.trans sm1.fr
      have hdy2 : Dp K (upd H' T0 (.tup [.str ⟨#[ch]⟩, y])) y d := hdy1.kp sm1.kp
      rw [colN_succ h1 h3]
      revert O2 fr2 hdy2
      generalize upd H' T0 (.tup [.str ⟨#[ch]⟩, y]) = H2
      generalize colN c kind sh parts i = c1 at *
      intro O2 fr2 hdy2
      generalize (⟨#[ch]⟩ : Str) = x at *
      refine ⟨_, _, rfl, _, _, rfl, rfl, _, rfl, rfl, _, rfl, ?_⟩
      rw [dec_strV]
      have word : ¬ (x = "m" ∨ x = "v") ∧ ¬ x = "b" ∧ ¬ x = "t" → y = .str (strOf d) := fun n => mono_str hdy2 (pf_word hf n)
      have cl : c1.labels.length < sizeLine := Nat.lt_of_le_of_lt cap1.1 (lt_sz (by omega))
      have cs : c1.slots.length < sizeLine := Nat.lt_of_le_of_lt cap1.2.1 (lt_sz (by omega))
      have cg : c1.gates.length < sizeLine := Nat.lt_of_le_of_lt cap1.2.2.1 (lt_sz (by omega))
      have ce : c1.edits.length < sizeLine := Nat.lt_of_le_of_lt cap1.2.2.2 (lt_sz (by omega))
      have cap2 : Cap c1 (90000 + 3 * (i + 1)) := cap1.mono (by omega)
      unfold colPart
      by_cases e1 : x = "l"
      · obtain rfl := word (by rw [e1]; decide +kernel)
        rw [if_pos e1]
        refine ifT (decide_eq_true e1) ?_
        refine ⟨_, rfl, _, _, _, _, _, rfl, O2.ob, rc.cls, rc.n5, rfl, _, rfl, _, _, rfl, dput_w O2.dl cl, ⟨_, _, _, rfl⟩, O2.put_l _, fr2.upd (by simp [RcA.L]), ?_, cap2.2⟩
        have := putW_len c1.labels (strOf d)
        have := cap1.1
        show (putW c1.labels (strOf d)).length ≤ _
        omega
      · rw [if_neg e1]
        refine ifF (decide_eq_false e1) ⟨_, rfl, rfl, _, rfl, ?_⟩
        rw [dec_strV]
        by_cases e2 : x = "m"
        · rw [if_pos e2]
          refine ifT (decide_eq_true e2) ?_
          obtain ⟨zs, rfl, hz3, _⟩ := aw_tup (pf_m (by rw [← e2]; exact hf))
          cases hdy2 with
          | @tup q ws _ hws haw =>
          obtain ⟨zs', ez, rfl⟩ := strs_of (by
            have := pf_m (d := .tuple (zs.map PyData.str)) (by rw [← e2]; exact hf)
            exact (Bool.and_eq_true_iff.mp (Bool.and_eq_true_iff.mp this).2).1) haw
          obtain rfl : zs = zs' := by
            have := congrArg (List.map strOf) ez
            rw [map_strOf, map_strOf] at this
            exact this
          refine ⟨_, rfl, q, rfl, ⟨_, hws⟩, for_it walk_tup (fun j σ H3 => (∃ y4 : Option V, σ = [some (.ref R.a), some (.ref t), some (.str x), some (.ref q), y4]) ∧ RC H3 R E0 { c1 with labels := (zs.take j).foldl putW c1.labels } ∧ Fr R.L H2 H3) ⟨⟨_, rfl⟩, O2, Fr.refl⟩ (fun j σ H3 _ p => hws.kp (O2.kp p.2.2)) ?_ ?_⟩
          · rintro j v σ H3 H4 hj ⟨⟨y4', rfl⟩, O3, fr3⟩ ⟨rfl, hv⟩
            have hj' : j < zs.length := by rw [List.length_map] at hj; exact hj
            have hz : zs[j]? = some zs[j] := List.getElem?_eq_getElem hj'
            obtain rfl : v = .str zs[j] := by
              rw [List.getElem?_map, hz] at hv
              exact (Option.some.inj hv).symm
            have hl3 : ((zs.take j).foldl putW c1.labels).length < sizeLine := by
              have h1 := foldW_len (zs.take j) c1.labels
              have h2 : (zs.take j).length ≤ 3 := by rw [List.length_take]; omega
              have := cap1.1
              exact Nat.lt_of_le_of_lt h1 (lt_sz (by omega))
            refine ⟨_, rfl, _, _, _, _, _, rfl, O3.ob, rc.cls, rc.n5, rfl, _, rfl, _, _, rfl, dput_w O3.dl hl3, ⟨_, rfl⟩, ?_, fr3.upd (by simp [RcA.L])⟩
            have e := O3.put_l zs[j]
            rw [TS.take_one hz, List.foldl_append]
            exact e
          · rintro σ H3 ⟨⟨y4', rfl⟩, O3, fr3⟩
            rw [List.length_map, List.take_length] at O3
            refine ⟨⟨_, _, _, rfl⟩, ?_, fr2.trans fr3, ?_, cap2.2⟩
            · show RC H3 R E0 { c1 with labels := ((zs.map PyData.str).map strOf).foldl putW c1.labels }
              rw [map_strOf]
              exact O3
            · show (((zs.map PyData.str).map strOf).foldl putW c1.labels).length ≤ _
              rw [map_strOf]
              have := foldW_len zs c1.labels
              have := cap1.1
              omega
        · rw [if_neg e2]
          refine ifF (decide_eq_false e2) ?_
          refine ⟨_, rfl, sz_lit (by decide), fun p1 hp1 => ⟨p1, _, rfl, .inr (.inl (.inl upd_same)), rfl, rfl, _, rfl, ?_⟩⟩
          rw [inV2]
          have sm3 : Same H2 (upd H2 p1 (.tup [.str "s", .str "r"])) := Same.new hp1
          have O3 := O2.mono sm3
          have fr3 := fr2.trans (sm3.fr (L := R.L))
          have hq3 : SqT K (upd H2 p1 (.tup [.str "s", .str "r"])) t (.str kind :: vr) := hq.kp (sm.kp.trans ((O.mono sm).kp fr3))
          revert O3 fr3 hq3
          generalize upd H2 p1 (.tup [.str "s", .str "r"]) = H3
          intro O3 fr3 hq3
          by_cases e3 : x = "s" ∨ x = "r"
          · refine ifT (decide_eq_true e3) ?_
            obtain rfl := word (by rcases e3 with e | e <;> (rw [e]; decide +kernel))
            refine ⟨_, rfl, rfl, _, rfl, ?_⟩
            rw [dec_strV]
            by_cases e4 : strOf d = "in"
            · rw [if_neg (fun h => h.2 e4), if_neg (by rcases e3 with e | e <;> (rw [e]; intro h; exact absurd h.1 (by decide +kernel))), if_neg (by rcases e3 with e | e <;> (rw [e]; decide +kernel))]
              refine ifF (by rw [decide_eq_true e4]; rfl) ?_
              refine ⟨_, rfl, rfl, _, rfl, ?_⟩
              rw [dec_strV]
              refine ifF (decide_eq_false (by rcases e3 with e | e <;> (rw [e]; decide +kernel))) ?_
              refine ifF rfl ⟨_, rfl, rfl, _, rfl, ?_⟩
              rw [dec_strV]
              exact ifF (decide_eq_false (by rcases e3 with e | e <;> (rw [e]; decide +kernel))) ⟨⟨_, _, _, rfl⟩, O3, fr3, cap2⟩
            · rw [if_pos ⟨e3, e4⟩]
              refine ifT (by rw [decide_eq_false e4]; rfl) ?_
              refine ⟨_, rfl, _, _, _, _, _, rfl, O3.ob, rc.cls, rc.n6, rfl, _, rfl, _, _, rfl, dput_w O3.ds cs, ⟨_, _, _, rfl⟩, O3.put_s _, fr3.upd (by simp [RcA.L]), cap2.1, ?_, cap2.2.2⟩
              have := putW_len c1.slots (strOf d)
              have := cap1.2.1
              show (putW c1.slots (strOf d)).length ≤ _
              omega
          · rw [if_neg (fun h => e3 h.1)]
            refine ifF (decide_eq_false e3) (ifF rfl ⟨_, rfl, rfl, _, rfl, ?_⟩)
            rw [dec_strV]
            by_cases e5 : x = "i"
            · obtain rfl := word (by rw [e5]; decide +kernel)
              refine ifT (decide_eq_true e5) ⟨_, rfl, t, _, 0, _, rfl, rfl, hq3, atI_zero _ _, rfl, _, rfl, ?_⟩
              rw [dec_strV]
              by_cases e6 : kind = "edit"
              · rw [if_pos ⟨e5, e6⟩]
                refine ifT (decide_eq_true e6) ?_
                refine ⟨_, rfl, _, _, _, _, _, rfl, O3.ob, rc.cls, rc.n8, rfl, _, rfl, _, _, rfl, dput_w O3.de ce, ⟨_, _, _, rfl⟩, O3.put_e _, fr3.upd (by simp [RcA.L]), cap2.1, cap2.2.1, cap2.2.2.1, ?_⟩
                have := putW_len c1.edits (strOf d)
                have := cap1.2.2.2
                show (putW c1.edits (strOf d)).length ≤ _
                omega
              · rw [if_neg (fun h => e6 h.2), if_pos e5]
                refine ifF (decide_eq_false e6) ⟨_, rfl, rfl, _, rfl, ?_⟩
                rw [dec_strV]
                refine ifT (decide_eq_true e5) ?_
                refine ⟨_, rfl, _, _, _, _, _, rfl, O3.ob, rc.cls, rc.n7, rfl, _, rfl, _, _, rfl, dput_w O3.dg cg, ⟨_, _, _, rfl⟩, O3.put_g _, fr3.upd (by simp [RcA.L]), cap2.1, cap2.2.1, ?_, cap2.2.2.2⟩
                have := putW_len c1.gates (strOf d)
                have := cap1.2.2.1
                show (putW c1.gates (strOf d)).length ≤ _
                omega
            · rw [if_neg (fun h => e5 h.1), if_neg e5]
              refine ifF (decide_eq_false e5) (ifF rfl ⟨_, rfl, rfl, _, rfl, ?_⟩)
              rw [dec_strV]
              exact ifF (decide_eq_false e5) ⟨⟨_, _, _, rfl⟩, O3, fr3, cap2⟩
    · rintro σ H' ⟨_, O1, fr1, _⟩
      rw [hvl, colN_all hlen] at O1
      exact k _ (sm.fr.trans fr1) O1
end
end Op
namespace Op
open PySem L2 PyProof.Rows
theorem wt_tuple (xs : List PyData) : wt (.tuple xs) = 1 + wts xs := by rw [wt]
theorem wt_list (xs : List PyData) : wt (.list xs) = 1 + wts xs := by rw [wt]
theorem wts_cons (x : PyData) (r : List PyData) : wts (x :: r) = wt x + wts r := by rw [wts]
theorem wts_nil : wts [] = 0 := by rw [wts]
def fitAll (E : Env0) (sh : Str) (parts : List PyData) : Bool := (sh.cps.toList.zip parts).all fun p => partFits E ⟨#[p.1]⟩ p.2
/-- does a text have the sign -/
def hasC (c : Nat) (sh : Str) : Bool := decide (c ∈ sh.cps.toList)
def fitRow (E : Env0) (c : Chk) (kind : Str) (parts : List PyData) (depth : Int) (lp : Bool) (sh : Str) : Bool :=
  if kind = "edit" ∧ E.we = false then false
  else if kind = "leave" ∧ lp = false then false
  else if ¬ parts.length = sh.length then false
  else if (hasC 98 sh || hasC 116 sh) = true ∧ 5 ≤ depth then false
  else if fitAll E sh parts = true then idFits c kind parts else false
def fits (E : Env0) (c : Chk) (d : PyData) (depth : Int) (lp : Bool) : Bool :=
  match d with
  | .tuple (.str kind :: parts) => match shapes.lookup kind with
    | none => false
    | some sh => fitRow E c kind parts depth lp sh
  | _ => false
theorem fitAll_iff {E : Env0} {sh : Str} {parts : List PyData} (hl : sh.cps.size = parts.length) : fitAll E sh parts = true ↔ Fitted E sh parts := by
  unfold fitAll Fitted
  rw [List.all_eq_true]
  constructor
  · intro h
    refine ⟨hl, fun i ch d h1 h2 => h (ch, d) ?_⟩
    refine List.mem_of_getElem? (i := i) ?_
    rw [List.getElem?_zip_eq_some]
    exact ⟨by rw [Array.getElem?_toList]; exact h1, h2⟩
  · rintro ⟨_, h⟩ ⟨ch, d⟩ hm
    obtain ⟨i, hi⟩ := List.getElem?_of_mem hm
    rw [List.getElem?_zip_eq_some] at hi
    exact h i ch d (by rw [← Array.getElem?_toList]; exact hi.1) hi.2
theorem ids_word {E : Env0} {kind sh : Str} {parts : List PyData} (hs : shapes.lookup kind = some sh) (h : Fitted E sh parts) (hk : kind = "edit" ∨ kind = "gate" ∨ kind = "past") : ∃ x r, parts = .str x :: r := by
  have key : ∀ sh : Str, sh.cps[0]? = some 105 → Fitted E sh parts → ∃ x r, parts = .str x :: r := by
    intro sh h0 ⟨hl, hf⟩
    cases parts with
    | nil =>
      have := (Array.getElem?_eq_some_iff.mp h0).1
      rw [hl] at this
      cases this
    | cons d r =>
      have := pf_word (hf 0 105 d h0 rfl) (by decide +kernel)
      cases d with
      | str x => exact ⟨x, r, rfl⟩
      | _ => cases this
  rcases hk with rfl | rfl | rfl
  · obtain rfl : sh = "ibb" := (Option.some.inj (hs.symm.trans (by decide +kernel : shapes.lookup ("edit" : Str) = some "ibb")))
    exact key _ (by decide +kernel) h
  · obtain rfl : sh = "ibb" := (Option.some.inj (hs.symm.trans (by decide +kernel : shapes.lookup ("gate" : Str) = some "ibb")))
    exact key _ (by decide +kernel) h
  · obtain rfl : sh = "ib" := (Option.some.inj (hs.symm.trans (by decide +kernel : shapes.lookup ("past" : Str) = some "ib")))
    exact key _ (by decide +kernel) h
theorem andNo {p : Prop} [Decidable p] {A N : Prop} (h : p → N → A) (n : N) : if decide p = true then A else N := by
  by_cases q : p
  · rw [decide_eq_true q]; exact h q n
  · rw [decide_eq_false q]; exact n
theorem orNo {p : Prop} [Decidable p] {A B N : Prop} (ha : p → N → A) (hb : ¬ p → N → B) (n : N) : if decide p = true then A else B := by
  by_cases q : p
  · rw [decide_eq_true q]; exact ha q n
  · rw [decide_eq_false q]; exact hb q n
section
variable {P : Program} {w : World} {K : PySem.W.Frag} {mg : Str → Option Value} {base : Heap} {pS CI C : Addr}
def spFits (K : PySem.W.Frag) (C : Addr) : Sp := fun vs H Q _ => ∃ (A : RcA) (E : Env0) (c : Chk) (v : V) (d : PyData) (depth : Int) (lp : Bool), vs = [.ref A.a, v, .int depth, .bl lp] ∧ A.C = C ∧ RC H A E c ∧ Dp K H v d ∧ wt d ≤ 100000 ∧
  ∀ H', Same H H' → Q (.bl (fits E c d depth lp)) H'
theorem shapes_len : ∀ {kind sh : Str}, shapes.lookup kind = some sh → sh.length ≤ 4 := by
  have key : ∀ (l : List (Str × Str)) (kind sh : Str), l.all (fun p => decide (p.2.length ≤ 4)) = true → l.lookup kind = some sh → sh.length ≤ 4 := by
    intro l
    induction l with
    | nil => intro kind sh _ h; cases h
    | cons p r ih =>
      intro kind sh ha h
      obtain ⟨a, b⟩ := p
      obtain ⟨h1, h2⟩ := Bool.and_eq_true_iff.mp ha
      rw [List.lookup_cons] at h
      cases q : kind == a with
      | true =>
        rw [q] at h
        obtain rfl := Option.some.inj h
        exact of_decide_eq_true h1
      | false =>
        rw [q] at h
        exact ih kind sh h2 h
  intro kind sh h
  exact key shapes kind sh (by decide +kernel) h
theorem sc_RowCheck_fits : FnScope ["self", "row", "depth", "in_loop", "kind", "shape", "code", "part"] ["self", "row", "depth", "in_loop"] (defScope s_RowCheck_fits) := ⟨rfl, rfl, rfl, by decide +kernel, rfl, by decide +kernel, by decide +kernel⟩
theorem ok_fits {f : Addr} {fd : FuncData} (F : Fun K "fits" "RowCheck.fits" s_RowCheck_fits f fd) (T : TxtC P w K mg pS CI) (rc : RcC K C) (m_part_fits : Mcal P w K mg base CX0 3 C "part_fits" ["self", "code", "part"] (spPF K)) (m_id_fits : Mcal P w K mg base CX0 1 C "id_fits" ["self", "row"] (spID K)) :
    FnOk P w K mg base CX0 4 f fd ["self", "row", "depth", "in_loop"] (spFits K C) := by
  refine F.ok sc_RowCheck_fits (fun vs H Q E h => ?_) (fun cdv A outer s H vs Q E hr h => ?_)
  · obtain ⟨A, E, c, v, d, depth, lp, rfl, _⟩ := h
    rfl
  · obtain ⟨R, E0, c, v, d, depth, lp, rfl, hC, O, hd, hw, k⟩ := h
    have hu := hu_of hr
    have c_RowCheck := rc.cls
    refine ⟨_, (pss_cons (ps_if (PW.pt (pw_or (pt_not (pt_val (pe_callB call_isi (by rfl) T.b_isinstance (by decide +kernel) (pa_cons (pv 1) (pa_cons (pe_bltn (v := .ty "tuple") (by rfl) T.b_tuple (by decide +kernel) rfl) pa_nil))))) (pw_or (pt_cmpR op_eq (pe_callB call_len_seq (by rfl) T.b_len (by decide +kernel) (pa_cons (pv 1) pa_nil)) pe_int (nomark _)) (pw_or1 (pt_not (pt_val (pe_callB call_isi (by rfl) T.b_isinstance (by decide +kernel) (pa_cons (pe_ix ix_tup (pv 1) pe_int (fun _ _ => rfl)) (pa_cons (pe_bltn (v := .ty "str") (by rfl) T.b_str (by decide +kernel) rfl) pa_nil))))))))) (pss_one (ps_ret pe_bl)) pss_nil)
      (pss_cons (ps_set (i := 4) sc_RowCheck_fits.nd rfl (.inl rfl) (pe_ix ix_tup (pv 1) pe_int (fun _ _ => rfl)))
      (pss_cons (ps_if (PW.pt (pw_or (pt_cmpR op_notIn_wtab (pv 4) (pe_gref rfl T.g_SHAPES) (by rfl)) (pw_or1 (PW.pt (pw_and (pt_cmpR op_eq (pv 4) pe_str (nomark _)) (pw_and1 (pt_not (pt_val (pe_fld (pv 0) rfl))))))))) (pss_one (ps_ret pe_bl)) pss_nil)
      (pss_cons (ps_if (PW.pt (pw_and (pt_cmpR op_eq (pv 4) pe_str (nomark _)) (pw_and1 (pt_not (pt_val (pv 3)))))) (pss_one (ps_ret pe_bl)) pss_nil)
      (pss_cons (ps_set (i := 5) sc_RowCheck_fits.nd rfl (.inl rfl) (pe_ix ix_wtab (pe_gref rfl T.g_SHAPES) (pv 4) (fun _ _ => rfl)))
      (pss_cons (ps_if (pt_cmpR op_ne (pe_callB call_len_seq (by rfl) T.b_len (by decide +kernel) (pa_cons (pv 1) pa_nil)) (pe_op op_add pe_int (pe_callB call_len_str (by rfl) T.b_len (by decide +kernel) (pa_cons (pv 5) pa_nil))) (nomark _)) (pss_one (ps_ret pe_bl)) pss_nil)
      (pss_cons (ps_if (PW.pt (pw_and (PW.pt (pw_or (pt_cmpR op_in_sign pe_str (pv 5) (by rfl)) (pw_or1 (pt_cmpR op_in_sign pe_str (pv 5) (by rfl))))) (pw_and1 (pt_cmpR op_ge (pv 2) (pe_glob (v := .int (5)) rfl T.g_DEEPEST.choose_spec ⟨_, rfl⟩) (nomark _))))) (pss_one (ps_ret pe_bl)) pss_nil)
      (pss_cons (ps_for PassesOwn.never rfl (pi_zipS (by rfl) T.b_zip (pa_cons (pv 5) (pa_cons (pe_slice sl_tupA (pv 1) (po_some pe_int) po_none) pa_nil))) (pg_tup rfl (pgs_cons (pg_name (i := 6) sc_RowCheck_fits.nd rfl (.inl rfl)) (pgs_cons (pg_name (i := 7) sc_RowCheck_fits.nd rfl (.inl rfl)) pgs_nil))) (pss_one (ps_if (pt_not (pt_val (pe_mcal (pv 0) c_RowCheck m_part_fits (hr.mono (by omega)) pass0 (pa_cons (pv 6) (pa_cons (pv 7) pa_nil))))) (pss_one (ps_ret pe_bl)) pss_nil)))
      (pss_one (ps_ret (pe_mcal (pv 0) c_RowCheck m_id_fits (hr.mono (by omega)) pass0 (pa_cons (pv 1) pa_nil)))))))))))), ?_⟩
    refine ⟨_, rfl, v, _, _, _, _, rfl, .ty _, ty_dp hd, kit_tuple d, _, rfl, ?_⟩
    cases hd with
    | @tup t xs ds hq ha =>
      refine ifF rfl ⟨_, rfl, t, xs, rfl, .inr hq, rfl, _, rfl, ?_⟩
      cases ha with
      | nil => exact ifT rfl (ifT rfl (k _ (Same.refl _)))
      | @cons v0 vr d0 dr h0 hr0 =>
      refine ifF (decide_eq_false (by intro z; injection z with z; rw [List.length_cons] at z; omega)) ?_
      refine ⟨_, rfl, t, _, 0, _, rfl, rfl, hq, atI_zero _ _, v0, _, _, _, _, rfl, .ty _, ty_dp h0, kit_str d0, _, rfl, ?_⟩
      cases h0 with
      | str kind =>
        refine ifF rfl ?_
        refine ⟨_, rfl, t, _, 0, _, rfl, rfl, hq, atI_zero _ _, ?_⟩
        refine ⟨_, rfl, pS, kind, _, rfl, rfl, T.w_SHAPES, _, rfl, ?_⟩
        rw [shapes_look]
        have k : ∀ H', Same H H' → Q (.bl (match shapes.lookup kind with | none => false | some sh => fitRow E0 c kind dr depth lp sh)) H' := k
        cases hsh : shapes.lookup kind with
        | none =>
          rw [hsh] at k
          exact ifT rfl (ifT rfl (k _ (Same.refl _)))
        | some sh =>
        rw [hsh] at k
        have k : ∀ H', Same H H' → Q (.bl (fitRow E0 c kind dr depth lp sh)) H' := k
        unfold fitRow at k
        refine ifF rfl ⟨_, rfl, rfl, _, rfl, ?_⟩
        rw [dec_strV]
        by_cases e1 : kind = "edit" ∧ E0.we = false
        · rw [if_pos e1] at k
          refine ifT (decide_eq_true e1.1) ⟨_, rfl, _, _, _, _, _, rfl, O.ob, hC ▸ rc.cls, hC ▸ rc.n3, rfl, _, rfl, ?_⟩
          rw [e1.2]
          exact ifT rfl (k _ (Same.refl _))
        rw [if_neg e1] at k
        refine andNo (fun e n => ?_) (ifF rfl ?_)
        · refine ⟨_, rfl, _, _, _, _, _, rfl, O.ob, hC ▸ rc.cls, hC ▸ rc.n3, rfl, _, rfl, ?_⟩
          rw [show E0.we = true from (by cases q : E0.we with | true => rfl | false => exact absurd ⟨e, q⟩ e1)]
          exact n
        refine ⟨_, rfl, rfl, _, rfl, ?_⟩
        rw [dec_strV]
        by_cases e2 : kind = "leave" ∧ lp = false
        · rw [if_pos e2] at k
          refine ifT (decide_eq_true e2.1) ⟨_, rfl, _, rfl, ?_⟩
          rw [e2.2]
          exact ifT rfl (k _ (Same.refl _))
        rw [if_neg e2] at k
        refine andNo (fun e n => ?_) (ifF rfl ?_)
        · refine ⟨_, rfl, _, rfl, ?_⟩
          cases lp with
          | true => exact n
          | false => exact absurd ⟨e, rfl⟩ e2
        refine ⟨_, rfl, pS, kind, _, .str sh, rfl, rfl, T.w_SHAPES, by rw [shapes_look, hsh]; rfl, ?_⟩
        have hsl := shapes_len hsh
        have hvl := hr0.len
        refine ⟨_, rfl, t, _, rfl, .inr hq, _, rfl, sh, rfl, sz_lit (by omega), _, _, rfl, rfl, rfl, _, rfl, ?_⟩
        have el : decide (V.int ((V.str kind :: vr).length : Nat) = V.int (1 + (sh.length : Nat))) = decide (dr.length = sh.length) := by
          rw [Bool.eq_iff_iff, decide_eq_true_iff, decide_eq_true_iff, List.length_cons]
          constructor
          · intro z; injection z with z; omega
          · intro z; congr 1; omega
        rw [el]
        by_cases e3 : ¬ dr.length = sh.length
        · rw [if_pos e3] at k
          rw [decide_eq_false e3]
          exact ifT rfl (k _ (Same.refl _))
        rw [if_neg e3] at k
        have e3 : dr.length = sh.length := Decidable.byContradiction e3
        rw [decide_eq_true e3]
        refine ifF rfl ?_
        refine ⟨_, rfl, 98, sh, rfl, rfl, _, rfl, ?_⟩
        by_cases e4 : (hasC 98 sh || hasC 116 sh) = true ∧ 5 ≤ depth
        · rw [if_pos e4] at k
          by_cases q : 98 ∈ sh.cps.toList
          · refine ifT (decide_eq_true q) (ifT rfl ⟨_, rfl, _, _, rfl, rfl, _, rfl, ?_⟩)
            exact ifT (decide_eq_true e4.2) (k _ (Same.refl _))
          · refine ifF (decide_eq_false q) ⟨_, rfl, 116, sh, rfl, rfl, _, rfl, ?_⟩
            have e5 := e4.1
            unfold hasC at e5
            rw [decide_eq_false q, Bool.false_or] at e5
            refine ifT e5 ⟨_, rfl, _, _, rfl, rfl, _, rfl, ?_⟩
            exact ifT (decide_eq_true e4.2) (k _ (Same.refl _))
        rw [if_neg e4] at k
        apply orNo
        · intro e n
          refine ifT rfl ⟨_, rfl, _, _, rfl, rfl, _, rfl, ?_⟩
          have e5 : decide (5 ≤ depth) = false := decide_eq_false fun h => e4 ⟨by unfold hasC; rw [decide_eq_true e]; rfl, h⟩
          show ite (decide (5 ≤ depth) = true) _ _
          rw [e5]
          exact n
        · intro e n
          refine ⟨_, rfl, 116, sh, rfl, rfl, _, rfl, ?_⟩
          by_cases q : 116 ∈ sh.cps.toList
          · refine ifT (decide_eq_true q) ⟨_, rfl, _, _, rfl, rfl, _, rfl, ?_⟩
            have e5 : decide (5 ≤ depth) = false := decide_eq_false fun h => e4 ⟨by unfold hasC; rw [decide_eq_true q, Bool.or_true], h⟩
            show ite (decide (5 ≤ depth) = true) _ _
            rw [e5]
            exact n
          · exact ifF (decide_eq_false q) n
        refine ifF rfl ?_
        refine ⟨_, rfl, _, rfl, 1, rfl, t, _, rfl, hq, fun z => absurd z (cut1n _ _), fun _ p hp => ?_⟩
        rw [cut1]
        have sm : Same H (upd H p (.tup vr)) := Same.new hp
        refine ⟨sh, p, vr, rfl, .inl (.inl upd_same), ?_⟩
        have hlen : sh.cps.size = dr.length := e3.symm
        refine for_zipS (by omega) (fun i σ H' => (∃ y6 y7 : Option V, σ = [some (.ref R.a), some (.ref t), some (.int depth), some (.bl lp), some (.str kind), some (.str sh), y6, y7]) ∧ Same H H' ∧ SqT K H' p vr ∧ ((sh.cps.toList.zip dr).take i).all (fun p => partFits E0 ⟨#[p.1]⟩ p.2) = true) ⟨⟨_, _, rfl⟩, sm, .inl (.inl upd_same), rfl⟩ (fun i σ H' q => q.2.2.1) ?_ ?_
        · rintro i ch y T0 σ H' h1 h2 ⟨⟨y6, y7, rfl⟩, s1, hp1, hall⟩ hT0
          obtain ⟨d, h3, hdy⟩ := hr0.get h2
          have sm1 : Same H' (upd H' T0 (.tup [.str ⟨#[ch]⟩, y])) := Same.new hT0
          have hz : (sh.cps.toList.zip dr)[i]? = some (ch, d) := by
            rw [List.getElem?_zip_eq_some]
            exact ⟨by rw [Array.getElem?_toList]; exact h1, h3⟩
          refine ⟨T0, _, rfl, .inl (.inl upd_same), rfl, _, _, rfl, _, _, rfl, rfl, ?_⟩
          have s2 := s1.trans sm1
          have hp2 := hp1.mono sm1
          revert s2 hp2
          generalize upd H' T0 (.tup [.str ⟨#[ch]⟩, y]) = H2
          intro s2 hp2
          have O2 := O.mono s2
          have hwd : wt d ≤ 100000 := by
            have a1 := wts_mem (List.mem_of_getElem? h3)
            have a2 : wt (.tuple (.str kind :: dr)) = 1 + (wt (.str kind) + wts dr) := by rw [wt_tuple, wts_cons]
            omega
          subst hC
          refine ⟨_, rfl, _, _, _, rfl, O2.ob, rfl, _, rfl, _, rfl, R, E0, c, _, y, d, rfl, O2, rc, hdy.mono s2, hwd, _, rfl, ?_⟩
          by_cases q : partFits E0 ⟨#[ch]⟩ d = true
          · rw [q]
            refine ifF rfl ⟨⟨_, _, rfl⟩, s2, hp2, ?_⟩
            rw [TS.take_one hz, List.all_append, hall]
            simp [q]
          · rw [Bool.eq_false_iff.mpr q]
            refine ifT rfl ?_
            have e5 : fitAll E0 sh dr = false := by
              refine Bool.eq_false_iff.mpr fun z => q ?_
              exact List.all_eq_true.mp z (ch, d) (List.mem_of_getElem? hz)
            rw [e5] at k
            exact k _ s2
        · rintro σ H' ⟨⟨y6, y7, rfl⟩, s1, _, hall⟩
          rw [List.take_of_length_le (by rw [List.length_zip, Array.length_toList]; omega)] at hall
          have e5 : fitAll E0 sh dr = true := hall
          rw [if_pos e5] at k
          have O2 := O.mono s1
          subst hC
          refine ⟨_, rfl, _, _, _, rfl, O2.ob, rfl, _, rfl, R, E0, c, t, kind, dr, rfl, O2, rc, .tup (hq.mono s1) (.cons (.str kind) (DpAll.mono s1 hr0)), ids_word hsh ((fitAll_iff hlen).mp e5), fun H3 s3 => k _ (s1.trans s3)⟩
      | _ => exact ifT rfl (k _ (Same.refl _))
    | _ => exact ifT rfl (ifT rfl (k _ (Same.refl _)))
end
end Op
namespace L2
open PySem PySem.Spec PyProof.Rows
theorem DpAll.append {K : PySem.W.Frag} {H : Hp} : ∀ {vs ws : List V} {ds es : List PyData}, DpAll K H vs ds → DpAll K H ws es → DpAll K H (vs ++ ws) (ds ++ es)
  | _, _, _, _, .nil, h => h
  | _, _, _, _, .cons a b, h => .cons a (b.append h)
end L2
namespace Op
open PySem L2 PyProof.Rows
/-- the lists of rows within a row -/
def innerL (kind : Str) (parts : List PyData) : List PyData :=
  if kind = "both" then (match parts with | .tuple ds :: _ => ds | _ => []) else parts.filter isList
section
variable {P : Program} {w : World} {K : PySem.W.Frag} {mg : Str → Option Value} {base : Heap}
def spInner (K : PySem.W.Frag) : Sp := fun vs H Q _ => ∃ (t : Addr) (kind : Str) (parts : List PyData), vs = [.ref t] ∧ Dp K H (.ref t) (.tuple (.str kind :: parts)) ∧ parts.length ≤ 1000 ∧ (kind = "both" → ∃ ds r, parts = .tuple ds :: r) ∧
  ∀ p xs H', Same H H' → H p = none → H' p = some (.lst xs) → DpAll K H xs (innerL kind parts) → Q (.ref p) H'
/-- the same, the data read in a part G of the heap -/
def spInnerG (K : PySem.W.Frag) : Sp := fun vs H Q _ => ∃ (G : Hp) (t : Addr) (kind : Str) (parts : List PyData), vs = [.ref t] ∧ Same G H ∧ Dp K G (.ref t) (.tuple (.str kind :: parts)) ∧ parts.length ≤ 1000 ∧ (kind = "both" → ∃ ds r, parts = .tuple ds :: r) ∧
  ∀ p xs H', Same H H' → H p = none → H' p = some (.lst xs) → DpAll K G xs (innerL kind parts) → Q (.ref p) H'
theorem sc_inner_lists : FnScope ["row", "part"] ["row"] (defScope s_inner_lists) := ⟨rfl, rfl, rfl, by decide +kernel, rfl, by decide +kernel, by decide +kernel⟩
theorem ok_inner_listsG {f : Addr} {fd : FuncData} (F : Fun K "inner_lists" "inner_lists" s_inner_lists f fd) (T : Txt mg) : FnOk P w K mg base CX0 1 f fd ["row"] (spInnerG K) := by
  refine F.ok sc_inner_lists (fun vs H Q E h => ?_) (fun cdv A outer s H vs Q E hr h => ?_)
  · obtain ⟨G, t, kind, parts, rfl, _⟩ := h
    rfl
  · obtain ⟨G, t, kind, parts, rfl, hG, hd, hpl, hb, k⟩ := h
    cases hd with
    | @tup _ xs _ hq ha =>
    cases ha with
    | @cons v0 vr d0 dr h0 hr0 =>
    cases h0 with
    | str kind =>
    have hqG := hq
    replace hq := hq.mono hG
    have hvl := hr0.len
    unfold innerL at k
    refine ⟨_, (pss_cons (ps_if (pt_cmpR op_eq (pe_ix ix_tup (pv 0) pe_int (fun _ _ => rfl)) pe_str (nomark _)) (pss_one (ps_ret (pe_callTy call_list_of (by rfl) T.b_list (by decide +kernel) (pa_cons (pe_ix ix_tup (pv 0) pe_int (fun _ _ => rfl)) pa_nil)))) pss_nil)
      (pss_one (ps_ret (pe_lc (own := [("part", 1)]) (g := gName 1)  rfl sc_inner_lists.nd (pi_tup (pv 0)) (blkOk_by (own := [("part", 1)]) (N := ["row", "part"]) (sc := defScope s_inner_lists) (by decide +kernel)) (fun _ _ _ _ _ => (pg_name (i := 1) sc_inner_lists.nd rfl (.inl rfl))) (fun _ _ _ _ _ => (pts_one (pt_val (pe_callB (id := "isinstance") (r := rIsi K) call_isi (by rfl) T.b_isinstance (by decide +kernel) (pa_cons (pv 1) (pa_cons (pe_bltn (v := .ty "list") (by rfl) T.b_list (by decide +kernel) rfl) pa_nil)))))) (fun _ _ _ _ _ => (pv 1)))))), ?_⟩
    refine ⟨_, rfl, t, _, 0, _, rfl, rfl, hq, atI_zero _ _, rfl, _, rfl, ?_⟩
    rw [dec_strV]
    by_cases e1 : kind = "both"
    · rw [if_pos e1] at k
      obtain ⟨ds, r, rfl⟩ := hb e1
      cases hr0 with
      | @cons v1 vs1 d1 dr1 h1 hr1 =>
      cases h1 with
      | @tup q ws _ hqw haw =>
      refine ifT (decide_eq_true e1) ⟨_, rfl, t, _, 1, _, rfl, rfl, hq, atI_one _ _ _, q, ws, rfl, .inr (hqw.mono hG), fun l hl => ?_⟩
      exact k l ws _ (Same.new hl) hl upd_same haw
    · rw [if_neg e1] at k
      refine ifF (decide_eq_false e1) ⟨_, rfl, t, rfl, ⟨_, hq⟩, fun D hD => ?_⟩
      refine lc_it (walk_tup (xs := .str kind :: vr)) (fun i H' => ∃ acc, H' D = some (.lst acc) ∧ acc.length ≤ i ∧ DpAll K G acc (((.str kind :: parts).take i).filter isList) ∧ Same H H') ⟨[], upd_same, Nat.le_refl _, .nil, Same.new hD⟩ (fun i H' _ p => hq.mono (let ⟨_, _, _, _, s⟩ := p; s)) ?_ ?_
      · rintro i x H1 H2 hi ⟨acc, hacc, hal, hdp, sm⟩ ⟨rfl, hx⟩
        obtain ⟨d, hd1, hd2⟩ := DpAll.get (.cons (.str kind) hr0) hx
        refine ⟨rfl, _, rfl, x, _, _, _, _, rfl, .ty _, ty_dp ((hd2.mono hG).mono sm), kit_list d, _, rfl, ?_⟩
        have hi' : i < 2000 := by rw [List.length_cons] at hi; omega
        have e2 : ((.str kind :: parts).take (i + 1)).filter isList = ((.str kind :: parts).take i).filter isList ++ [d].filter isList := by
          rw [TS.take_one hd1, List.filter_append]
        by_cases q : isList d = true
        · rw [q]
          refine ifT rfl ⟨_, rfl, acc, hacc, lt_sz (by omega), acc ++ [x], upd_same, by rw [List.length_append]; show acc.length + 1 ≤ _; omega, ?_, fun b o hb => ?_⟩
          · rw [e2, List.filter_cons_of_pos q, List.filter_nil]
            exact hdp.append (.cons hd2 .nil)
          · rw [upd_ne (ne_of_none hb hD)]
            exact sm b o hb
        · rw [Bool.eq_false_iff.mpr q]
          refine ifF rfl ⟨acc, hacc, by omega, ?_, sm⟩
          rw [e2, List.filter_cons_of_neg (by rw [Bool.eq_false_iff.mpr q]; exact Bool.false_ne_true), List.filter_nil, List.append_nil]
          exact hdp
      · rintro H1 ⟨acc, hacc, _, hdp, sm⟩
        refine k D acc H1 sm hD hacc ?_
        rw [List.take_of_length_le (by rw [List.length_cons, List.length_cons]; omega)] at hdp
        exact hdp
theorem ok_inner_lists {f : Addr} {fd : FuncData} (F : Fun K "inner_lists" "inner_lists" s_inner_lists f fd) (T : Txt mg) : FnOk P w K mg base CX0 1 f fd ["row"] (spInner K) :=
  (ok_inner_listsG F T).imp fun vs H Q E h => by
    obtain ⟨t, kind, parts, rfl, hd, hpl, hb, k⟩ := h
    exact ⟨H, t, kind, parts, rfl, fun _ _ z => z, hd, hpl, hb, k⟩
end
end Op
namespace Op
open PySem L2 PyProof.Rows
/-! ### the mirror: the check of a list of rows -/
abbrev Out := Except (List Int) Chk
def listOf : PyData → List PyData
  | .list ds => ds
  | _ => []
def chkIn (rec : List PyData → List Int → Chk → Out) (pre : List Int) : List PyData → Nat → Chk → Out
  | [], _, c => .ok c
  | d :: r, j, c => match rec (listOf d) (pre ++ [(j : Int)]) c with
    | .error p => .error p
    | .ok c' => chkIn rec pre r (j + 1) c'
def inside (lp : Bool) (kind : Str) : Bool := if kind = "both" then false else lp || decide (kind = "loop")
def shapeOf (kind : Str) : Str := (shapes.lookup kind).getD ""
def chkRow (rec : Bool → List PyData → List Int → Chk → Out) (E : Env0) (depth : Int) (lp : Bool) (pre : List Int) (d : PyData) (i : Nat) (c : Chk) : Out :=
  match d with
  | .tuple (.str kind :: parts) => if fits E c d depth lp = true then chkIn (rec (inside lp kind)) (pre ++ [(i : Int)]) (innerL kind parts) 0 (collect { c with total := c.total + 1 } kind (shapeOf kind) parts) else .error (pre ++ [(i : Int)])
  | _ => .error (pre ++ [(i : Int)])
def chkRows (row : PyData → Nat → Chk → Out) : List PyData → Nat → Chk → Out
  | [], _, c => .ok c
  | d :: r, i, c => match row d i c with
    | .error p => .error p
    | .ok c' => chkRows row r (i + 1) c'
def chkL (E : Env0) : Nat → Bool → List PyData → List Int → Chk → Out
  | 0, _, _, _, c => .ok c
  | n + 1, lp, ds, pre, c => chkRows (chkRow (chkL E n) E (5 - (n : Int)) lp pre) ds 0 c
/-! ### sizes -/
theorem colPart_cap {E : Env0} {kind : Str} {c : Chk} {x : Str} {d : PyData} {n : Nat} (hf : partFits E x d = true) (h : Cap c n) : Cap (colPart kind c x d) (n + 3) := by
  obtain ⟨h1, h2, h3, h4⟩ := h
  unfold colPart
  split
  · have := putW_len c.labels (strOf d)
    exact ⟨by show (putW c.labels (strOf d)).length ≤ _; omega, by show c.slots.length ≤ _; omega, by show c.gates.length ≤ _; omega, by show c.edits.length ≤ _; omega⟩
  · split
    · rename_i e
      obtain ⟨zs, rfl, hz, _⟩ := aw_tup (pf_m (by rw [← e]; exact hf))
      refine ⟨?_, by show c.slots.length ≤ _; omega, by show c.gates.length ≤ _; omega, by show c.edits.length ≤ _; omega⟩
      show (((zs.map PyData.str).map strOf).foldl putW c.labels).length ≤ _
      rw [map_strOf]
      have := foldW_len zs c.labels
      omega
    · split
      · have := putW_len c.slots (strOf d)
        exact ⟨by show c.labels.length ≤ _; omega, by show (putW c.slots (strOf d)).length ≤ _; omega, by show c.gates.length ≤ _; omega, by show c.edits.length ≤ _; omega⟩
      · split
        · have := putW_len c.edits (strOf d)
          exact ⟨by show c.labels.length ≤ _; omega, by show c.slots.length ≤ _; omega, by show c.gates.length ≤ _; omega, by show (putW c.edits (strOf d)).length ≤ _; omega⟩
        · split
          · have := putW_len c.gates (strOf d)
            exact ⟨by show c.labels.length ≤ _; omega, by show c.slots.length ≤ _; omega, by show (putW c.gates (strOf d)).length ≤ _; omega, by show c.edits.length ≤ _; omega⟩
          · exact ⟨by omega, by omega, by omega, by omega⟩
theorem colPart_total {kind : Str} {c : Chk} {x : Str} {d : PyData} : (colPart kind c x d).total = c.total := by
  unfold colPart
  repeat' split
  all_goals rfl
theorem collect_cap {E : Env0} {kind sh : Str} {c : Chk} {parts : List PyData} {n : Nat} (hf : Fitted E sh parts) (h : Cap c n) : Cap (collect c kind sh parts) (n + 3 * parts.length) := by
  have key : ∀ i, i ≤ parts.length → Cap (colN c kind sh parts i) (n + 3 * i) := by
    intro i
    induction i with
    | zero => intro _; exact h
    | succ i ih =>
      intro hi
      have h2 : parts[i]? = some parts[i] := List.getElem?_eq_getElem hi
      have hs : i < sh.cps.size := by rw [hf.1]; exact hi
      have h1 : sh.cps[i]? = some sh.cps[i] := Array.getElem?_eq_getElem hs
      rw [colN_succ h1 h2]
      exact (colPart_cap (hf.2 i _ _ h1 h2) (ih (by omega))).mono (by omega)
  rw [← colN_all hf.1]
  exact key _ (Nat.le_refl _)
def wIn : List PyData → Nat
  | [] => 0
  | d :: r => wts (listOf d) + wIn r
theorem wts_listOf (d : PyData) : wts (listOf d) + 1 ≤ wt d := by
  cases d with
  | list ds => rw [wt_list]; show wts ds + 1 ≤ _; omega
  | _ => exact (by have := wt_pos; rw [show listOf _ = [] from rfl, wts_nil]; exact wt_pos _)
theorem wIn_le : ∀ ds : List PyData, wIn ds ≤ wts ds
  | [] => by rw [wts_nil]; exact Nat.le_refl _
  | d :: r => by
    have := wIn_le r
    have := wts_listOf d
    rw [wts_cons]
    show wts (listOf d) + wIn r ≤ _
    omega
theorem wIn_filter : ∀ ds : List PyData, ds.length + wIn (ds.filter isList) ≤ wts ds
  | [] => by rw [wts_nil]; exact Nat.le_refl _
  | d :: r => by
    have h1 := wIn_filter r
    have h2 := wts_listOf d
    rw [wts_cons, List.length_cons]
    by_cases q : isList d = true
    · rw [List.filter_cons_of_pos q]
      show _ + (wts (listOf d) + wIn (r.filter isList)) ≤ _
      omega
    · rw [List.filter_cons_of_neg q]
      omega
theorem wIn_inner (kind : Str) (parts : List PyData) : parts.length + wIn (innerL kind parts) ≤ wts parts := by
  unfold innerL
  split
  · cases parts with
    | nil => rw [wts_nil]; exact Nat.le_refl _
    | cons d r =>
      have h1 := wts_len r
      have h0 := wt_pos d
      rw [wts_cons, List.length_cons]
      cases d with
      | tuple ds =>
        have := wIn_le ds
        rw [wt_tuple]
        show _ + wIn ds ≤ _
        omega
      | _ =>
        show r.length + 1 + 0 ≤ _
        omega
  · exact wIn_filter parts
def CapF (f : List PyData → List Int → Chk → Out) : Prop := ∀ ds pre c c' m, f ds pre c = .ok c' → Cap c m → Cap c' (m + 3 * wts ds)
theorem chkIn_cap {f : List PyData → List Int → Chk → Out} (hf : CapF f) {pre : List Int} : ∀ (l : List PyData) (j : Nat) (c c' : Chk) (m : Nat), chkIn f pre l j c = .ok c' → Cap c m → Cap c' (m + 3 * wIn l)
  | [], j, c, c', m, h, k => by
    obtain rfl := Except.ok.inj h
    exact k
  | d :: r, j, c, c', m, h, k => by
    unfold chkIn at h
    cases q : f (listOf d) (pre ++ [(j : Int)]) c with
    | error p => rw [q] at h; cases h
    | ok c1 =>
      rw [q] at h
      have h1 := hf _ _ _ _ _ q k
      have h2 := chkIn_cap hf r (j + 1) c1 c' _ h h1
      exact h2.mono (by show _ ≤ m + 3 * (wts (listOf d) + wIn r); omega)
theorem fits_shape {E : Env0} {c : Chk} {kind : Str} {parts : List PyData} {depth : Int} {lp : Bool} (h : fits E c (.tuple (.str kind :: parts)) depth lp = true) : shapes.lookup kind = some (shapeOf kind) ∧ Fitted E (shapeOf kind) parts ∧ ((hasC 98 (shapeOf kind) || hasC 116 (shapeOf kind)) = true → depth < 5) := by
  have h : (match shapes.lookup kind with | none => false | some sh => fitRow E c kind parts depth lp sh) = true := h
  cases q : shapes.lookup kind with
  | none => rw [q] at h; cases h
  | some sh =>
    rw [q] at h
    have e : shapeOf kind = sh := by unfold shapeOf; rw [q]; rfl
    rw [e]
    have h : fitRow E c kind parts depth lp sh = true := h
    unfold fitRow at h
    split at h
    · cases h
    · split at h
      · cases h
      · split at h
        · cases h
        · rename_i e3
          have e3 : parts.length = sh.length := Decidable.byContradiction e3
          split at h
          · cases h
          · rename_i e4
            split at h
            · rename_i e5
              exact ⟨rfl, (fitAll_iff e3.symm).mp e5, fun z => Decidable.byContradiction fun w => e4 ⟨z, by omega⟩⟩
            · cases h
theorem chkRow_cap {rec : Bool → List PyData → List Int → Chk → Out} (hr : ∀ lp, CapF (rec lp)) {E : Env0} {depth : Int} {lp : Bool} {pre : List Int} {d : PyData} {i : Nat} {c c' : Chk} {m : Nat} (h : chkRow rec E depth lp pre d i c = .ok c') (k : Cap c m) : Cap c' (m + 3 * wt d) := by
  unfold chkRow at h
  split at h
  · rename_i kind parts
    split at h
    · rename_i hf
      obtain ⟨_, hF, _⟩ := fits_shape hf
      have h1 := collect_cap (kind := kind) (c := { c with total := c.total + 1 }) hF k
      have h2 := chkIn_cap (hr _) _ _ _ _ _ h h1
      have h3 := wIn_inner kind parts
      refine h2.mono ?_
      rw [wt_tuple, wts_cons]
      omega
    · cases h
  · cases h
theorem chkRows_cap {row : PyData → Nat → Chk → Out} (hr : ∀ d i c c' m, row d i c = .ok c' → Cap c m → Cap c' (m + 3 * wt d)) : ∀ (l : List PyData) (j : Nat) (c c' : Chk) (m : Nat), chkRows row l j c = .ok c' → Cap c m → Cap c' (m + 3 * wts l)
  | [], j, c, c', m, h, k => by
    obtain rfl := Except.ok.inj h
    exact k.mono (by omega)
  | d :: r, j, c, c', m, h, k => by
    unfold chkRows at h
    cases q : row d j c with
    | error p => rw [q] at h; cases h
    | ok c1 =>
      rw [q] at h
      have h1 := hr _ _ _ _ _ q k
      have h2 := chkRows_cap hr r (j + 1) c1 c' _ h h1
      exact h2.mono (by rw [wts_cons]; omega)
theorem chkL_cap (E : Env0) : ∀ (n : Nat) (lp : Bool), CapF (chkL E n lp)
  | 0, lp => fun ds pre c c' m h k => by
    obtain rfl := Except.ok.inj h
    exact k.mono (by omega)
  | n + 1, lp => fun ds pre c c' m h k => chkRows_cap (fun d i c c' m h k => chkRow_cap (chkL_cap E n) h k) ds 0 c c' m h k
/-- at the deepest level no row has lists -/
theorem inner_deep {E : Env0} {c : Chk} {kind : Str} {parts : List PyData} {depth : Int} {lp : Bool} (h : fits E c (.tuple (.str kind :: parts)) depth lp = true) (hd : 5 ≤ depth) : innerL kind parts = [] := by
  obtain ⟨hs, ⟨hl, hF⟩, hb⟩ := fits_shape h
  have nb : (hasC 98 (shapeOf kind) || hasC 116 (shapeOf kind)) = false := Bool.eq_false_iff.mpr fun z => by
    have := hb z
    omega
  unfold innerL
  split
  · rename_i e
    subst e
    exact absurd nb (by decide +kernel)
  · refine List.filter_eq_nil_iff.mpr fun d hm hd' => ?_
    obtain ⟨i, hi⟩ := List.getElem?_of_mem hm
    have hi' := (List.getElem?_eq_some_iff.mp hi).1
    have h1 : (shapeOf kind).cps[i]? = some ((shapeOf kind).cps[i]'(by omega)) := Array.getElem?_eq_getElem _
    have hf := hF i _ d h1 hi
    have hm' : (shapeOf kind).cps[i]'(by omega) ∈ (shapeOf kind).cps.toList := List.mem_of_getElem? (i := i) (by rw [Array.getElem?_toList]; exact h1)
    revert hf hm' 
    generalize (shapeOf kind).cps[i]'(by omega) = ch
    intro hf hm'
    have n1 : ch ≠ 98 := fun z => by
      unfold hasC at nb
      rw [← z, decide_eq_true hm'] at nb
      cases nb
    have n2 : ch ≠ 116 := fun z => by
      unfold hasC at nb
      rw [← z, decide_eq_true hm', Bool.or_true] at nb
      cases nb
    have sb : ¬ (⟨#[ch]⟩ : Str) = "b" := fun z => n1 (by
      have z : (⟨#[ch]⟩ : Str) = ⟨#[98]⟩ := z
      simpa using z)
    have st : ¬ (⟨#[ch]⟩ : Str) = "t" := fun z => n2 (by
      have z : (⟨#[ch]⟩ : Str) = ⟨#[116]⟩ := z
      simpa using z)
    by_cases em : (⟨#[ch]⟩ : Str) = "m" ∨ (⟨#[ch]⟩ : Str) = "v"
    · unfold partFits at hf
      rw [if_neg (by rcases em with e | e <;> (rw [e]; decide +kernel)), if_neg (by rcases em with e | e <;> (rw [e]; decide +kernel)), if_neg (by rcases em with e | e <;> (rw [e]; decide +kernel)), if_pos em] at hf
      cases d with
      | tuple _ => cases hd'
      | _ => cases hf
    · have := pf_word hf ⟨em, sb, st⟩
      cases d with
      | str _ => cases hd'
      | _ => cases this
theorem both_tuple {E : Env0} {c : Chk} {kind : Str} {parts : List PyData} {depth : Int} {lp : Bool} (h : fits E c (.tuple (.str kind :: parts)) depth lp = true) (hk : kind = "both") : ∃ ds r, parts = .tuple ds :: r ∧ ∀ d ∈ ds, isList d = true := by
  obtain ⟨hs, ⟨hl, hF⟩, hb⟩ := fits_shape h
  subst hk
  cases parts with
  | nil => exact absurd hl (by decide +kernel)
  | cons d r =>
    have hf := hF 0 116 d (by decide +kernel) rfl
    have hf : isBranches d = true := hf
    cases d with
    | tuple ds => exact ⟨ds, r, rfl, fun d hd => List.all_eq_true.mp (Bool.and_eq_true_iff.mp hf).2 d hd⟩
    | _ => cases hf
theorem inner_lists_all {E : Env0} {c : Chk} {kind : Str} {parts : List PyData} {depth : Int} {lp : Bool} (h : fits E c (.tuple (.str kind :: parts)) depth lp = true) : ∀ d ∈ innerL kind parts, isList d = true := by
  intro d hd
  unfold innerL at hd
  split at hd
  · rename_i e
    obtain ⟨ds, r, rfl, p⟩ := both_tuple h e
    exact p d hd
  · exact (List.mem_filter.mp hd).2
end Op
namespace L2
open PySem PySem.Spec PyProof.Rows
theorem cat_any {K : PySem.W.Frag} {H : Hp} {a b : Addr} {xs ys : List V} {Q : VK} (ha : SqT K H a xs) (hb : SqT K H b ys) (hz : xs.length + ys.length ≤ sizeLine) (k : ∀ t H', Same H H' → SqT K H' t (xs ++ ys) → Q (.ref t) H') : rCatA K (.ref a) (.ref b) H Q := by
  refine ⟨a, b, xs, ys, rfl, rfl, ha, hb, hz, fun e => ?_, fun _ e => ?_, fun _ _ p hp => k p _ (Same.new hp) (.inl (.inl upd_same))⟩
  · subst e
    exact k b H (Same.refl _) hb
  · subst e
    exact k a H (Same.refl _) (by rw [List.append_nil]; exact ha)
end L2
namespace Op
open PySem L2 PyProof.Rows
theorem putF_total (A : RcA) (E : Env0) (c : Chk) (n : Int) : putF "total" (.int n) (rcF A E c) = rcF A E { c with total := n } := rfl
theorem chkRow_no {rec : Bool → List PyData → List Int → Chk → Out} {E : Env0} {depth : Int} {lp : Bool} {pre : List Int} {d : PyData} {i : Nat} {c : Chk} (h : fits E c d depth lp = false) : chkRow rec E depth lp pre d i c = .error (pre ++ [(i : Int)]) := by
  unfold chkRow
  split
  · rw [if_neg (by rw [h]; exact Bool.false_ne_true)]
  · rfl
theorem fits_tuple {E : Env0} {depth : Int} {lp : Bool} {d : PyData} {c : Chk} (h : fits E c d depth lp = true) : ∃ kind parts, d = .tuple (.str kind :: parts) := by
  unfold fits at h
  split at h
  · exact ⟨_, _, rfl⟩
  · cases h
theorem sz1 (x : V) : [x].length ≤ sizeLine := sz_lit (by show 1 ≤ 100000; decide)
theorem sz2 (x y : V) : [x, y].length ≤ sizeLine := sz_lit (by show 2 ≤ 100000; decide)
def contR (f : Chk → Out) : Out → Out
  | .error p => .error p
  | .ok c => f c
theorem chkRows_cons (row : PyData → Nat → Chk → Out) (d : PyData) (r : List PyData) (i : Nat) (c : Chk) : chkRows row (d :: r) i c = contR (chkRows row r (i + 1)) (row d i c) := by
  rw [chkRows]
  cases row d i c <;> rfl
theorem chkIn_cons (f : List PyData → List Int → Chk → Out) (pre : List Int) (d : PyData) (r : List PyData) (j : Nat) (c : Chk) : chkIn f pre (d :: r) j c = contR (chkIn f pre r (j + 1)) (f (listOf d) (pre ++ [(j : Int)]) c) := by
  rw [chkIn]
  cases f (listOf d) (pre ++ [(j : Int)]) c <;> rfl
theorem chkRow_yes {rec : Bool → List PyData → List Int → Chk → Out} {E : Env0} {depth : Int} {lp : Bool} {pre : List Int} {kind : Str} {parts : List PyData} {i : Nat} {c : Chk} (h : fits E c (.tuple (.str kind :: parts)) depth lp = true) :
    chkRow rec E depth lp pre (.tuple (.str kind :: parts)) i c = chkIn (rec (inside lp kind)) (pre ++ [(i : Int)]) (innerL kind parts) 0 (collect { c with total := c.total + 1 } kind (shapeOf kind) parts) := if_pos h
theorem map_snoc (pre : List Int) (i : Int) : pre.map V.int ++ [V.int i] = (pre ++ [i]).map V.int := by rw [List.map_append]; rfl
theorem map_snoc2 (pre : List Int) (i j : Int) : pre.map V.int ++ [V.int i, V.int j] = (pre ++ [i] ++ [j]).map V.int := by rw [List.map_append, List.map_append, List.append_assoc]; rfl
section
variable {P : Program} {w : World} {K : PySem.W.Frag} {mg : Str → Option Value} {base : Heap} {pS CI C : Addr}
/-- InvalidProgram(part, path) stands in the dict d -/
def XProg (K : PySem.W.Frag) (H : Hp) (d : Addr) (part : Str) (path : List Int) : Prop := ∃ t, H d = some (.xd [("path", .ref t), ("part", .str part)]) ∧ SqT K H t (path.map V.int)
def spCL (K : PySem.W.Frag) (C CI : Addr) : Nat → Sp
  | 0 => fun _ _ _ _ => False
  | n + 1 => fun vs H Q X => ∃ (A : RcA) (E : Env0) (c : Chk) (rws pr : Addr) (ds : List PyData) (pre : List Int) (lp : Bool) (m : Nat), vs = [.ref A.a, .ref rws, .ref pr, .int (5 - (n : Int)), .bl lp] ∧ A.C = C ∧ RC H A E c ∧ Dp K H (.ref rws) (.list ds) ∧ SqT K H pr (pre.map V.int) ∧ pre.length + 2 * n ≤ 100 ∧ Cap c m ∧ m + 3 * wts ds ≤ 90000 ∧
    (∀ c', chkL E (n + 1) lp ds pre c = .ok c' → ∀ H', Fr A.L H H' → RC H' A E c' → Q .non H') ∧ (∀ p, chkL E (n + 1) lp ds pre c = .error p → ∀ H' d, Fr A.L H H' → XProg K H' d "rows" p → X (.ref CI) (some d) H')
theorem sc_RowCheck_check_list : FnScope ["self", "rows", "prefix", "depth", "in_loop", "index", "row", "inside", "number", "inner"] ["self", "rows", "prefix", "depth", "in_loop"] (defScope s_RowCheck_check_list) := ⟨rfl, rfl, rfl, by decide +kernel, rfl, by decide +kernel, by decide +kernel⟩
theorem ok_check_list {f : Addr} {fd : FuncData} (F : Fun K "check_list" "RowCheck.check_list" s_RowCheck_check_list f fd) (T : TxtC P w K mg pS CI) (rc : RcC K C) (hm : Meth K C "check_list" f) (hb : Binds K fd ["self", "rows", "prefix", "depth", "in_loop"] []) (m_fits : Mcal P w K mg base CX0 4 C "fits" ["self", "row", "depth", "in_loop"] (spFits K C)) (m_collect : Mcal P w K mg base CX0 1 C "collect" ["self", "row"] (spCol K)) (c_inner_lists : Cal P w K mg base CX0 1 "inner_lists" ["row"] (spInner K)) :
    ∀ n : Nat, FnOk P w K mg base (L2.CX P w) (5 + n + 1) f fd ["self", "rows", "prefix", "depth", "in_loop"] (spCL K C CI n)
  | 0 => F.okX sc_RowCheck_check_list (fun vs H Q E h => h.elim) (fun cdv A outer s H vs Q E hr h => h.elim)
  | n + 1 => by
    have m_check_list : Mcal P w K mg base (L2.CX P w) (5 + n + 1) C "check_list" ["self", "rows", "prefix", "depth", "in_loop"] (spCL K C CI n) := ⟨f, fd, hm, hb, ok_check_list F T rc hm hb m_fits m_collect c_inner_lists n⟩
    refine F.okX sc_RowCheck_check_list (fun vs H Q E h => ?_) (fun cdv A outer s H vs Q E hr h => ?_)
    · obtain ⟨A, E, c, rws, pr, ds, pre, lp, m, rfl, _⟩ := h
      rfl
    · obtain ⟨R, E0, c, rws, pr, ds, pre, lp, m, rfl, hC, O, hd, hpr, hpl, hcap, hw, k1, k2⟩ := h
      have hu := hu_of hr
      have c_RowCheck := rc.cls
      subst hC
      refine ⟨_, (pss_one (ps_for (passes_of rfl) rfl (pi_enum (by rfl) T.b_enumerate (pa_cons (pv 1) pa_nil)) (pg_tup rfl (pgs_cons (pg_name (i := 5) sc_RowCheck_check_list.nd rfl (.inl rfl)) (pgs_cons (pg_name (i := 6) sc_RowCheck_check_list.nd rfl (.inl rfl)) pgs_nil))) (pss_cons (ps_if (pt_not (pt_val (pe_mcal (pv 0) c_RowCheck m_fits (hr.mono (by omega)) pass0 (pa_cons (pv 6) (pa_cons (pv 3) (pa_cons (pv 4) pa_nil)))))) (pss_one (ps_raise rfl (takes_of rfl rfl rfl rfl) (pmk_x T.mk_InvalidProgram hr rfl T.g_InvalidProgram T.k_InvalidProgram T.r_InvalidProgram (pa_cons pe_str (pa_cons (pe_op op_catA (pv 2) (pe_tup (pa_cons (pv 5) pa_nil))) pa_nil))))) pss_nil)
      (pss_cons (ps_fldaug (pv 0) pe_int in_add)
      (pss_cons (ps_expr (pe_mcal (pv 0) c_RowCheck m_collect (hr.mono (by omega)) pass0 (pa_cons (pv 6) pa_nil)))
      (Evl.pss_cut (ps_set (i := 7) sc_RowCheck_check_list.nd rfl (.inl rfl) (pe_or (pv 4) (pe_one (pe_cmpR op_eq (pe_ix ix_tup (pv 6) pe_int (fun _ _ => rfl)) pe_str (nomark _)))))
      (Evl.pss_cut (ps_if (pt_cmpR op_eq (pe_ix ix_tup (pv 6) pe_int (fun _ _ => rfl)) pe_str (nomark _)) (pss_one (ps_set (i := 7) sc_RowCheck_check_list.nd rfl (.inl rfl) pe_bl)) pss_nil)
      (pss_one (ps_for (passes_of rfl) rfl (pi_enum (by rfl) T.b_enumerate (pa_cons (pe_cal c_inner_lists (hr.mono (by omega)) rfl pass0 (pa_cons (pv 6) pa_nil)) pa_nil)) (pg_tup rfl (pgs_cons (pg_name (i := 8) sc_RowCheck_check_list.nd rfl (.inl rfl)) (pgs_cons (pg_name (i := 9) sc_RowCheck_check_list.nd rfl (.inl rfl)) pgs_nil))) (pss_one (ps_expr (pe_mcal (pv 0) c_RowCheck m_check_list (hr.mono (by omega)) (passes_call (takes_of rfl rfl rfl rfl) (fun _ _ _ _ h => h)) (pa_cons (pv 9) (pa_cons (pe_op op_catA (pv 2) (pe_tup (pa_cons (pv 5) (pa_cons (pv 8) pa_nil)))) (pa_cons (pe_op op_add (pv 3) pe_int) (pa_cons (pv 7) pa_nil)))))))))))))))), ?_⟩
      cases hd with
      | @lst _ xs _ hq ha =>
      have hxl := ha.len
      refine ⟨_, rfl, rws, xs, rfl, hq, ?_⟩
      refine for_it walk_enum (fun i σ H' => (∃ y5 y6 y7 y8 y9 : Option V, σ = [some (.ref R.a), some (.ref rws), some (.ref pr), some (.int (5 - (n : Int))), some (.bl lp), y5, y6, y7, y8, y9]) ∧ ∃ ci mi, RC H' R E0 ci ∧ Fr R.L H H' ∧ Cap ci mi ∧ mi + 3 * wts (ds.drop i) ≤ 90000 ∧ chkL E0 (n + 1) lp ds pre c = chkRows (chkRow (chkL E0 n) E0 (5 - (n : Int)) lp pre) (ds.drop i) i ci) ⟨⟨_, _, _, _, _, rfl⟩, c, m, O, Fr.refl, hcap, hw, rfl⟩ (fun i σ H' _ p => by
        obtain ⟨_, ci, mi, O1, fr, _⟩ := p
        exact hq.kp (O.kp fr)) ?_ ?_
      · rintro i v σ H1 H2 hi ⟨⟨y5, y6, y7, y8, y9, rfl⟩, ci, mi, O1, fr1, cap1, hw1, hres⟩ ⟨T0, x0, y, rfl, hT0, rfl, hx0, hy⟩
        obtain rfl : x0 = .int (i : Nat) := (Option.some.inj hx0).symm
        obtain ⟨d, hd1, hdy⟩ := ha.get hy
        have hdrop : ds.drop i = d :: ds.drop (i + 1) := by
          obtain ⟨h1, h2⟩ := List.getElem?_eq_some_iff.mp hd1
          rw [List.drop_eq_getElem_cons h1, h2]
        rw [hdrop] at hw1 hres
        rw [wts_cons] at hw1
        refine ⟨T0, _, rfl, .inl (.inl upd_same), rfl, _, _, rfl, _, _, rfl, rfl, ?_⟩
        have sm2 : Same H1 (upd H1 T0 (.tup [.int (i : Nat), y])) := Same.new hT0
        have O2 := O1.mono sm2
        have fr2 : Fr R.L H (upd H1 T0 (.tup [.int (i : Nat), y])) := fr1.trans sm2.fr
        revert O2 fr2
        generalize upd H1 T0 (.tup [.int (i : Nat), y]) = H2
        intro O2 fr2
        have hdy2 : Dp K H2 y d := hdy.kp (O.kp fr2)
        have hwd : wt d ≤ 100000 := by omega
        refine ⟨_, rfl, _, _, _, rfl, O2.ob, rfl, _, rfl, _, rfl, _, rfl, R, E0, ci, y, d, _, lp, rfl, rfl, O2, hdy2, hwd, fun H3 s3 => ⟨_, rfl, ?_⟩⟩
        have O3 := O2.mono s3
        have fr3 : Fr R.L H H3 := fr2.trans s3.fr
        by_cases hf : ¬ fits E0 ci d (5 - (n : Int)) lp = true
        · have hf := Bool.eq_false_iff.mpr hf
          rw [hf]
          refine ifT rfl ?_
          have hp3 : SqT K H3 pr (pre.map V.int) := hpr.kp (O.kp fr3)
          refine ⟨_, rfl, _, rfl, sz1 _, fun p hp => cat_any (hp3.mono (Same.new hp)) (.inl (.inl upd_same)) (sz_lit (by rw [List.length_map]; show _ + 1 ≤ _; omega)) fun t H4 s4 ht => ⟨rfl, fun dd hdd => ?_⟩⟩
          have e : chkL E0 (n + 1) lp ds pre c = .error (pre ++ [(i : Int)]) := by
            rw [hres]
            unfold chkRows
            rw [chkRow_no hf]
          refine k2 _ e _ dd (fr3.trans ((Same.new hp).fr.trans (s4.fr.trans (Same.new hdd).fr))) ⟨t, upd_same, ?_⟩
          rw [← map_snoc]
          exact ht.mono (Same.new hdd)
        have hf : fits E0 ci d (5 - (n : Int)) lp = true := Decidable.byContradiction hf
        rw [hf]
        refine ifF rfl ?_
        obtain ⟨kind, parts, rfl⟩ := fits_tuple hf
        obtain ⟨hsh, hFit, _⟩ := fits_shape hf
        have hsl := shapes_len hsh
        have hpl4 : parts.length ≤ 4 := by rw [← hFit.1]; exact hsl
        cases hdy with
        | @tup t ys _ hqt hat =>
        have hdt : Dp K H3 (.ref t) (.tuple (.str kind :: parts)) := hdy2.mono s3
        refine ⟨_, rfl, _, _, _, _, _, rfl, O3.ob, rc.cls, rc.n4, rfl, _, _, rfl, rfl, _, _, O3.ob, (by show 8 < 1000; decide), ?_⟩
        have O4 := O3.tot (ci.total + 1)
        have fr4 : Fr R.L H3 (upd H3 R.a (.ins R.C R.dx (rcF R E0 { ci with total := ci.total + 1 }))) := Fr.refl.upd (by simp [RcA.L])
        refine ⟨_, rfl, _, _, _, rfl, O4.ob, rfl, _, rfl, R, E0, { ci with total := ci.total + 1 }, t, kind, _, parts, rfl, O4, rc, hdt.kp (O3.kp fr4), hsh, hFit, by omega, cap1.mono (by omega), fun H5 fr5 O5 => ?_⟩
        have fr45 := fr4.trans fr5
        have frH := fr3.trans fr45
        have hdt5 : Dp K H5 (.ref t) (.tuple (.str kind :: parts)) := hdt.kp (O3.kp fr45)
        clear fr5 O4 fr4
        have hq5 : ∃ vr, SqT K H5 t (.str kind :: vr) := by
          cases hdt5 with
          | @tup _ _ _ h1 h2 =>
          cases h2 with
          | @cons _ vr _ _ h3 h4 =>
          cases h3 with
          | str _ => exact ⟨vr, h1⟩
        obtain ⟨vr, hq5⟩ := hq5
        refine ⟨fun σ H' => (∃ y8' y9' : Option V, σ = [some (.ref R.a), some (.ref rws), some (.ref pr), some (.int (5 - (n : Int))), some (.bl lp), some (.int (i : Nat)), some (.ref t), some (.bl (lp || decide (kind = "loop"))), y8', y9']) ∧ H' = H5, ?_, ?_⟩
        · refine ⟨_, rfl, _, rfl, ?_⟩
          cases lp with
          | true => exact ifT rfl ⟨⟨_, _, rfl⟩, rfl⟩
          | false =>
            refine ifF rfl ⟨_, rfl, t, _, 0, _, rfl, rfl, hq5, atI_zero _ _, rfl, ?_⟩
            rw [dec_strV]
            exact ⟨⟨_, _, rfl⟩, rfl⟩
        rintro σ H' ⟨⟨y8', y9', rfl⟩, rfl⟩
        refine ⟨fun σ H'' => (∃ y8' y9' : Option V, σ = [some (.ref R.a), some (.ref rws), some (.ref pr), some (.int (5 - (n : Int))), some (.bl lp), some (.int (i : Nat)), some (.ref t), some (.bl (inside lp kind)), y8', y9']) ∧ H'' = H', ?_, ?_⟩
        · refine ⟨_, rfl, t, _, 0, _, rfl, rfl, hq5, atI_zero _ _, rfl, _, rfl, ?_⟩
          rw [dec_strV]
          unfold inside
          by_cases e : kind = "both"
          · rw [if_pos e]
            exact ifT (decide_eq_true e) ⟨⟨_, _, rfl⟩, rfl⟩
          · rw [if_neg e]
            exact ifF (decide_eq_false e) ⟨⟨_, _, rfl⟩, rfl⟩
        rintro σ H'' ⟨⟨y8', y9', rfl⟩, rfl⟩
        refine ⟨_, rfl, t, kind, parts, rfl, hdt5, by omega, fun e => ?_, fun p xs' H6 s6 _ hp6 hdp6 => ?_⟩
        · obtain ⟨ds', r', e', _⟩ := both_tuple hf e
          exact ⟨ds', r', e'⟩
        refine ⟨p, xs', rfl, .inl (.inl hp6), ?_⟩
        have hO6 := O5.mono s6
        have fr6 : Fr R.L H H6 := frH.trans s6.fr
        have hal := inner_lists_all hf
        have hlen6 := hdp6.len
        have hwi := wIn_inner kind parts
        have hres' : chkL E0 (n + 1) lp ds pre c = contR (chkRows (chkRow (chkL E0 n) E0 (5 - (n : Int)) lp pre) (ds.drop (i + 1)) (i + 1)) (chkIn (chkL E0 n (inside lp kind)) (pre ++ [(i : Int)]) (innerL kind parts) 0 (collect { ci with total := ci.total + 1 } kind (shapeOf kind) parts)) := by
          rw [hres, chkRows_cons]
          congr 1
          exact chkRow_yes hf
        refine for_it walk_enum (fun j σ H' => (∃ y8' y9' : Option V, σ = [some (.ref R.a), some (.ref rws), some (.ref pr), some (.int (5 - (n : Int))), some (.bl lp), some (.int (i : Nat)), some (.ref t), some (.bl (inside lp kind)), y8', y9']) ∧ ∃ cj mj, RC H' R E0 cj ∧ Fr R.L H6 H' ∧ Cap cj mj ∧ mj + 3 * wIn ((innerL kind parts).drop j) + 3 * wts (ds.drop (i + 1)) ≤ 90000 ∧ chkL E0 (n + 1) lp ds pre c = contR (chkRows (chkRow (chkL E0 n) E0 (5 - (n : Int)) lp pre) (ds.drop (i + 1)) (i + 1)) (chkIn (chkL E0 n (inside lp kind)) (pre ++ [(i : Int)]) ((innerL kind parts).drop j) j cj)) ⟨⟨_, _, rfl⟩, _, mi + 3 * parts.length, hO6, Fr.refl, collect_cap hFit cap1, ?_, hres'⟩ (fun j σ H' _ q => by
          obtain ⟨_, cj, mj, O7, fr7, _⟩ := q
          exact SqL.kp (.inl (.inl hp6)) (hO6.kp fr7)) ?_ ?_
        · rw [wt_tuple, wts_cons] at hw1
          rw [List.drop_zero]
          omega
        · rintro j v σ H7 H8 hj ⟨⟨y8', y9', rfl⟩, cj, mj, O7, fr7, cap7, hw7, hres7⟩ ⟨T1, x1, y1, rfl, hT1, rfl, hx1, hy1⟩
          obtain rfl : x1 = .int (j : Nat) := (Option.some.inj hx1).symm
          obtain ⟨d1, hd1', hdy1⟩ := hdp6.get hy1
          have hdrop1 : (innerL kind parts).drop j = d1 :: (innerL kind parts).drop (j + 1) := by
            obtain ⟨h1, h2⟩ := List.getElem?_eq_some_iff.mp hd1'
            rw [List.drop_eq_getElem_cons h1, h2]
          rw [hdrop1] at hw7 hres7
          have hw7 : mj + 3 * (wts (listOf d1) + wIn ((innerL kind parts).drop (j + 1))) + 3 * wts (ds.drop (i + 1)) ≤ 90000 := hw7
          obtain ⟨dl, rfl⟩ : ∃ dl, d1 = .list dl := by
            have := hal d1 (List.mem_of_getElem? hd1')
            cases d1 with
            | list dl => exact ⟨dl, rfl⟩
            | _ => cases this
          refine ⟨T1, _, rfl, .inl (.inl upd_same), rfl, _, _, rfl, _, _, rfl, rfl, ?_⟩
          have sm8 : Same H7 (upd H7 T1 (.tup [.int (j : Nat), y1])) := Same.new hT1
          have O8 := O7.mono sm8
          have fr8 : Fr R.L H6 (upd H7 T1 (.tup [.int (j : Nat), y1])) := fr7.trans sm8.fr
          revert O8 fr8
          generalize upd H7 T1 (.tup [.int (j : Nat), y1]) = H8
          intro O8 fr8
          have frA : Fr R.L H H8 := fr6.trans fr8
          have hdl : Dp K H8 y1 (.list dl) := (hdy1.mono s6).kp (hO6.kp fr8)
          cases n with
          | zero =>
            have := inner_deep hf (by show (5 : Int) ≤ 5 - (0 : Nat); omega)
            rw [this] at hd1'
            simp at hd1'
          | succ n' =>
          have hp8 : SqT K H8 pr (pre.map V.int) := hpr.kp (O.kp frA)
          obtain ⟨q1, rfl⟩ : ∃ q1, y1 = .ref q1 := by
            cases hdl with
            | lst _ _ => exact ⟨_, rfl⟩
          refine ⟨_, rfl, _, _, _, rfl, O8.ob, rfl, _, rfl, _, rfl, _, rfl, _, rfl, sz2 _ _, fun p9 hp9 => cat_any (hp8.mono (Same.new hp9)) (.inl (.inl upd_same)) (sz_lit (by rw [List.length_map]; show _ + 2 ≤ _; omega)) fun t9 H9 s9 ht9 => ⟨_, rfl, _, _, rfl, rfl, _, rfl, ?_⟩⟩
          have s89 : Same H8 H9 := (Same.new hp9).trans s9
          rw [map_snoc2] at ht9
          refine ⟨R, E0, cj, q1, t9, dl, pre ++ [(i : Int)] ++ [(j : Int)], inside lp kind, mj, ?_, rfl, O8.mono s89, hdl.mono s89, ht9, ?_, cap7, ?_, fun c' hc' H' fr' O' => ?_, fun p' hp' H' d' fr' hx' => ?_⟩
          · show [V.ref R.a, V.ref q1, V.ref t9, V.int (5 - ((n' + 1 : Nat) : Int) + 1), V.bl (inside lp kind)] = _
            rw [show (5 - ((n' + 1 : Nat) : Int) + 1) = 5 - (n' : Int) by omega]
          · rw [List.length_append, List.length_append]
            show pre.length + 1 + 1 + 2 * n' ≤ 100
            omega
          · have : wts (listOf (.list dl)) = wts dl := rfl
            omega
          · refine ⟨⟨_, _, rfl⟩, c', mj + 3 * wts dl, O', fr8.trans (s89.fr.trans fr'), chkL_cap E0 _ _ _ _ _ _ _ hc' cap7, ?_, ?_⟩
            · have : wts (listOf (.list dl)) = wts dl := rfl
              omega
            · rw [hres7]
              rw [chkIn_cons, show listOf (.list dl) = dl from rfl, hc']
              rfl
          · refine k2 p' ?_ H' d' (frA.trans (s89.fr.trans fr')) hx'
            rw [hres7]
            rw [chkIn_cons, show listOf (.list dl) = dl from rfl, hp']
            rfl
        · rintro σ H7 ⟨⟨y8', y9', rfl⟩, cj, mj, O7, fr7, cap7, hw7, hres7⟩
          rw [List.drop_of_length_le (l := innerL kind parts) (by omega)] at hres7
          exact ⟨⟨_, _, _, _, _, rfl⟩, cj, mj, O7, fr6.trans fr7, cap7, by omega, hres7⟩
      · rintro σ H' ⟨_, ci, mi, O1, fr, _, _, e⟩
        rw [List.drop_of_length_le (by omega)] at e
        exact k1 ci e H' fr O1
end
end Op
namespace Op
open PySem L2 PyProof.Rows
/-! ### the mirror: sizes, the whole check -/
def sizes (c : Chk) : Option Str :=
  if 60 < c.total then some "size"
  else if 6 < c.labels.length then some "labels"
  else if 4 < c.slots.length then some "slots"
  else if 8 < c.gates.length + c.edits.length then some "gates"
  else if 4 < c.edits.length then some "edits"
  else none
def chk0 : Chk := ⟨0, [], [], [], []⟩
def checkAll (E : Env0) (d : PyData) : Except (Str × List Int) Chk :=
  match d with
  | .list ds => match chkL E 5 false ds [] chk0 with
    | .error p => .error ("rows", p)
    | .ok c => match sizes c with
      | some s => .error (s, [])
      | none => .ok c
  | _ => .error ("rows", [])
section
variable {P : Program} {w : World} {K : PySem.W.Frag} {mg : Str → Option Value} {base : Heap} {pS CI C : Addr}
def spSizes (K : PySem.W.Frag) (C CI : Addr) : Sp := fun vs H Q X => ∃ (A : RcA) (E : Env0) (c : Chk), vs = [.ref A.a] ∧ A.C = C ∧ RC H A E c ∧ (sizes c = none → Q .non H) ∧ ∀ part, sizes c = some part → ∀ H' d, Same H H' → XProg K H' d part [] → X (.ref CI) (some d) H'
theorem sc_RowCheck_check_sizes : FnScope ["self"] ["self"] (defScope s_RowCheck_check_sizes) := ⟨rfl, rfl, rfl, by decide +kernel, rfl, by decide +kernel, by decide +kernel⟩
theorem ok_check_sizes {f : Addr} {fd : FuncData} (F : Fun K "check_sizes" "RowCheck.check_sizes" s_RowCheck_check_sizes f fd) (T : TxtC P w K mg pS CI) (rc : RcC K C) : FnOk P w K mg base (L2.CX P w) 1 f fd ["self"] (spSizes K C CI) := by
  refine F.okX sc_RowCheck_check_sizes (fun vs H Q E h => ?_) (fun cdv A outer s H vs Q E hr h => ?_)
  · obtain ⟨A, E, c, rfl, _⟩ := h
    rfl
  · obtain ⟨R, E0, c, rfl, hC, O, k1, k2⟩ := h
    subst hC
    unfold sizes at k1 k2
    refine ⟨_, (pss_cons (ps_if (pt_cmpR op_gt (pe_fld (pv 0) rfl) (pe_glob (v := .int (60)) rfl T.g_MOST_ROWS.choose_spec ⟨_, rfl⟩) (nomark _)) (pss_one (ps_raise rfl (takes_of rfl rfl rfl rfl) (pmk_x T.mk_InvalidProgram hr rfl T.g_InvalidProgram T.k_InvalidProgram T.r_InvalidProgram (pa_cons pe_str (pa_cons (pe_tup pa_nil) pa_nil))))) pss_nil)
      (pss_cons (ps_if (pt_cmpR op_gt (pe_callB call_lenD (by rfl) T.b_len (by decide +kernel) (pa_cons (pe_fld (pv 0) rfl) pa_nil)) (pe_glob (v := .int (6)) rfl T.g_MOST_LABELS.choose_spec ⟨_, rfl⟩) (nomark _)) (pss_one (ps_raise rfl (takes_of rfl rfl rfl rfl) (pmk_x T.mk_InvalidProgram hr rfl T.g_InvalidProgram T.k_InvalidProgram T.r_InvalidProgram (pa_cons pe_str (pa_cons (pe_tup pa_nil) pa_nil))))) pss_nil)
      (pss_cons (ps_if (pt_cmpR op_gt (pe_callB call_lenD (by rfl) T.b_len (by decide +kernel) (pa_cons (pe_fld (pv 0) rfl) pa_nil)) (pe_glob (v := .int (4)) rfl T.g_MOST_SLOTS.choose_spec ⟨_, rfl⟩) (nomark _)) (pss_one (ps_raise rfl (takes_of rfl rfl rfl rfl) (pmk_x T.mk_InvalidProgram hr rfl T.g_InvalidProgram T.k_InvalidProgram T.r_InvalidProgram (pa_cons pe_str (pa_cons (pe_tup pa_nil) pa_nil))))) pss_nil)
      (pss_cons (ps_if (pt_cmpR op_gt (pe_op op_add (pe_callB call_lenD (by rfl) T.b_len (by decide +kernel) (pa_cons (pe_fld (pv 0) rfl) pa_nil)) (pe_callB call_lenD (by rfl) T.b_len (by decide +kernel) (pa_cons (pe_fld (pv 0) rfl) pa_nil))) (pe_glob (v := .int (8)) rfl T.g_MOST_GATES.choose_spec ⟨_, rfl⟩) (nomark _)) (pss_one (ps_raise rfl (takes_of rfl rfl rfl rfl) (pmk_x T.mk_InvalidProgram hr rfl T.g_InvalidProgram T.k_InvalidProgram T.r_InvalidProgram (pa_cons pe_str (pa_cons (pe_tup pa_nil) pa_nil))))) pss_nil)
      (pss_one (ps_if (pt_cmpR op_gt (pe_callB call_lenD (by rfl) T.b_len (by decide +kernel) (pa_cons (pe_fld (pv 0) rfl) pa_nil)) (pe_glob (v := .int (4)) rfl T.g_MOST_EDITS.choose_spec ⟨_, rfl⟩) (nomark _)) (pss_one (ps_raise rfl (takes_of rfl rfl rfl rfl) (pmk_x T.mk_InvalidProgram hr rfl T.g_InvalidProgram T.k_InvalidProgram T.r_InvalidProgram (pa_cons pe_str (pa_cons (pe_tup pa_nil) pa_nil))))) pss_nil)))))), ?_⟩
    have fin : ∀ part : Str, (∀ H' d, Same H H' → XProg K H' d part [] → E (.ref CI) (some d) H') → ∀ p, H p = none → ∀ d, upd H p (.tup []) d = none → E (.ref CI) (some d) (upd (upd H p (.tup [])) d (.xd [("path", .ref p), ("part", .str part)])) := by
      intro part k p hp d hd
      refine k _ d ((Same.new hp).trans (Same.new hd)) ⟨p, upd_same, ?_⟩
      exact SqT.mono (.inl (.inl upd_same)) (Same.new hd)
    refine ⟨_, rfl, _, _, _, _, _, rfl, O.ob, rc.cls, rc.n4, rfl, _, _, rfl, rfl, _, rfl, ?_⟩
    by_cases e1 : 60 < c.total
    · rw [if_pos e1] at k2
      exact ifT (decide_eq_true e1) ⟨sz_lit (by decide), fun p hp => ⟨rfl, fun d hd => fin _ (k2 _ rfl) p hp d hd⟩⟩
    rw [if_neg e1] at k1 k2
    refine ifF (decide_eq_false e1) ⟨_, rfl, _, _, _, _, _, rfl, O.ob, rc.cls, rc.n5, rfl, _, _, rfl, O.dl, _, _, rfl, rfl, _, rfl, ?_⟩
    rw [dkT_len]
    by_cases e2 : 6 < c.labels.length
    · rw [if_pos e2] at k2
      exact ifT (decide_eq_true (show (6 : Int) < (c.labels.length : Int) by omega)) ⟨sz_lit (by decide), fun p hp => ⟨rfl, fun d hd => fin _ (k2 _ rfl) p hp d hd⟩⟩
    rw [if_neg e2] at k1 k2
    refine ifF (decide_eq_false (show ¬ (6 : Int) < (c.labels.length : Int) by omega)) ⟨_, rfl, _, _, _, _, _, rfl, O.ob, rc.cls, rc.n6, rfl, _, _, rfl, O.ds, _, _, rfl, rfl, _, rfl, ?_⟩
    rw [dkT_len]
    by_cases e3 : 4 < c.slots.length
    · rw [if_pos e3] at k2
      exact ifT (decide_eq_true (show (4 : Int) < (c.slots.length : Int) by omega)) ⟨sz_lit (by decide), fun p hp => ⟨rfl, fun d hd => fin _ (k2 _ rfl) p hp d hd⟩⟩
    rw [if_neg e3] at k1 k2
    refine ifF (decide_eq_false (show ¬ (4 : Int) < (c.slots.length : Int) by omega)) ⟨_, rfl, _, _, _, _, _, rfl, O.ob, rc.cls, rc.n7, rfl, _, _, rfl, O.dg, _, rfl, _, _, _, _, _, rfl, O.ob, rc.cls, rc.n8, rfl, _, _, rfl, O.de, _, _, rfl, rfl, _, _, rfl, rfl, _, rfl, ?_⟩
    rw [dkT_len, dkT_len]
    by_cases e4 : 8 < c.gates.length + c.edits.length
    · rw [if_pos e4] at k2
      exact ifT (decide_eq_true (show (8 : Int) < (c.gates.length : Int) + (c.edits.length : Int) by omega)) ⟨sz_lit (by decide), fun p hp => ⟨rfl, fun d hd => fin _ (k2 _ rfl) p hp d hd⟩⟩
    rw [if_neg e4] at k1 k2
    refine ifF (decide_eq_false (show ¬ (8 : Int) < (c.gates.length : Int) + (c.edits.length : Int) by omega)) ⟨_, rfl, _, _, _, _, _, rfl, O.ob, rc.cls, rc.n8, rfl, _, _, rfl, O.de, _, _, rfl, rfl, _, rfl, ?_⟩
    rw [dkT_len]
    by_cases e5 : 4 < c.edits.length
    · rw [if_pos e5] at k2
      exact ifT (decide_eq_true (show (4 : Int) < (c.edits.length : Int) by omega)) ⟨sz_lit (by decide), fun p hp => ⟨rfl, fun d hd => fin _ (k2 _ rfl) p hp d hd⟩⟩
    rw [if_neg e5] at k1 k2
    exact ifF (decide_eq_false (show ¬ (4 : Int) < (c.edits.length : Int) by omega)) (k1 rfl)
end
end Op
namespace Op
open PySem L2 PyProof.Rows
section
variable {P : Program} {w : World} {K : PySem.W.Frag} {mg : Str → Option Value} {base : Heap} {pS CI C : Addr}
def spCheck (K : PySem.W.Frag) (C CI : Addr) : Sp := fun vs H Q X => ∃ (A : RcA) (E : Env0) (v : V) (d : PyData), vs = [.ref A.a, v] ∧ A.C = C ∧ RC H A E chk0 ∧ Dp K H v d ∧ wt d ≤ 30000 ∧
  (∀ c, checkAll E d = .ok c → ∀ H', Fr A.L H H' → RC H' A E c → Q .non H') ∧ ∀ part path, checkAll E d = .error (part, path) → ∀ H' dd, Fr A.L H H' → XProg K H' dd part path → X (.ref CI) (some dd) H'
theorem sc_RowCheck_check : FnScope ["self", "rows"] ["self", "rows"] (defScope s_RowCheck_check) := ⟨rfl, rfl, rfl, by decide +kernel, rfl, by decide +kernel, by decide +kernel⟩
theorem ok_check {f : Addr} {fd : FuncData} (F : Fun K "check" "RowCheck.check" s_RowCheck_check f fd) (T : TxtC P w K mg pS CI) (rc : RcC K C) (m_check_list : Mcal P w K mg base (L2.CX P w) 11 C "check_list" ["self", "rows", "prefix", "depth", "in_loop"] (spCL K C CI 5)) (m_check_sizes : Mcal P w K mg base (L2.CX P w) 1 C "check_sizes" ["self"] (spSizes K C CI)) :
    FnOk P w K mg base (L2.CX P w) 12 f fd ["self", "rows"] (spCheck K C CI) := by
  refine F.okX sc_RowCheck_check (fun vs H Q E h => ?_) (fun cdv A outer s H vs Q E hr h => ?_)
  · obtain ⟨A, E, v, d, rfl, _⟩ := h
    rfl
  · obtain ⟨R, E0, v, d, rfl, hC, O, hd, hw, k1, k2⟩ := h
    have c_RowCheck := rc.cls
    subst hC
    refine ⟨_, (pss_cons (ps_if (pt_not (pt_val (pe_callB call_isi (by rfl) T.b_isinstance (by decide +kernel) (pa_cons (pv 1) (pa_cons (pe_bltn (v := .ty "list") (by rfl) T.b_list (by decide +kernel) rfl) pa_nil))))) (pss_one (ps_raise rfl (takes_of rfl rfl rfl rfl) (pmk_x T.mk_InvalidProgram hr rfl T.g_InvalidProgram T.k_InvalidProgram T.r_InvalidProgram (pa_cons pe_str (pa_cons (pe_tup pa_nil) pa_nil))))) pss_nil)
      (pss_cons (ps_expr (pe_mcal (pv 0) c_RowCheck m_check_list (hr.mono (by omega)) (passes_call (takes_of rfl rfl rfl rfl) (fun _ _ _ _ h => h)) (pa_cons (pv 1) (pa_cons (pe_tup pa_nil) (pa_cons pe_int (pa_cons pe_bl pa_nil))))))
      (pss_one (ps_expr (pe_mcal0 (pv 0) c_RowCheck m_check_sizes (hr.mono (by omega)) (passes_call (takes_of rfl rfl rfl rfl) (fun _ _ _ _ h => h))))))), ?_⟩
    refine ⟨_, rfl, v, _, _, _, _, rfl, .ty _, ty_dp hd, kit_list d, _, rfl, ?_⟩
    have fin : (∀ H' dd, Fr R.L H H' → XProg K H' dd "rows" [] → E (.ref CI) (some dd) H') → ∀ p, H p = none → ∀ d, upd H p (.tup []) d = none → E (.ref CI) (some d) (upd (upd H p (.tup [])) d (.xd [("path", .ref p), ("part", .str "rows")])) := by
      intro k p hp d hd
      refine k _ d ((Same.new hp).trans (Same.new hd)).fr ⟨p, upd_same, ?_⟩
      exact SqT.mono (.inl (.inl upd_same)) (Same.new hd)
    cases hd with
    | @lst q xs ds hq ha =>
      have hw' : 1 + wts ds ≤ 30000 := by rw [wt_list] at hw; exact hw
      refine ifF rfl ⟨_, rfl, _, _, _, rfl, O.ob, rfl, _, rfl, sz_lit (by decide), fun p hp => ?_⟩
      have s1 : Same H (upd H p (.tup [])) := Same.new hp
      refine ⟨R, E0, chk0, q, p, ds, [], false, 0, rfl, rfl, O.mono s1, (Dp.lst hq ha).mono s1, .inl (.inl upd_same), by decide, ⟨Nat.le_refl _, Nat.le_refl _, Nat.le_refl _, Nat.le_refl _⟩, by omega, fun c' hc' H' fr' O' => ?_, fun p' hp' H' d' fr' hx' => ?_⟩
      · refine ⟨_, rfl, _, _, _, rfl, O'.ob, rfl, R, E0, c', rfl, rfl, O', fun hs => ?_, fun part hs H'' d'' s'' hx'' => ?_⟩
        · refine k1 c' ?_ H' (s1.fr.trans fr') O'
          unfold checkAll
          simp only [hc', hs]
        · refine k2 part [] ?_ H'' d'' (s1.fr.trans (fr'.trans s''.fr)) hx''
          unfold checkAll
          simp only [hc', hs]
      · refine k2 "rows" p' ?_ H' d' (s1.fr.trans fr') hx'
        unfold checkAll
        simp only [hp']
    | _ => exact ifT rfl ⟨sz_lit (by decide), fun p hp => ⟨rfl, fun d hd => fin (k2 _ _ rfl) p hp d hd⟩⟩
/-! ### the making of it -/
theorem init_step {H : Hp} {x p C dx : Addr} {fs : List (Str × V)} {f : Str} (h : H x = some (.ins C dx fs)) (hp : H p = none) :
    upd (upd H p (.dK [])) x (.ins C dx (putF f (.ref p) fs)) x = some (.ins C dx (putF f (.ref p) fs)) ∧ upd (upd H p (.dK [])) x (.ins C dx (putF f (.ref p) fs)) p = some (.dK []) ∧ (∀ b o, H b = some o → b ≠ x → upd (upd H p (.dK [])) x (.ins C dx (putF f (.ref p) fs)) b = some o) ∧ ∀ b o, H b = some o → p ≠ b := by
  have hpx : p ≠ x := fun e => by rw [e, h] at hp; cases hp
  refine ⟨upd_same, by rw [upd_ne hpx, upd_same], fun b o hb hbx => ?_, fun b o hb e => ?_⟩
  · rw [upd_ne hbx, upd_ne (ne_of_none hb hp)]
    exact hb
  · rw [e, hb] at hp
    cases hp
def spRcInit (K : PySem.W.Frag) (C : Addr) : Sp := fun vs H Q _ => ∃ (x dx ka ks : Addr) (E : Env0), vs = [.ref x, .ref ka, .ref ks, .bl E.we] ∧ H x = some (.ins C dx []) ∧ Known H ka E.asks ∧ Known H ks E.sigs ∧
  ∀ H' A, A.a = x → A.C = C → (∀ b ∈ [A.l, A.s, A.g, A.e], H b = none) → RC H' A E chk0 → (∀ b o, H b = some o → b ≠ x → H' b = some o) → Q .non H'
theorem sc_RowCheck___init__ : FnScope ["self", "asks", "signals", "with_edits"] ["self", "asks", "signals", "with_edits"] (defScope s_RowCheck___init__) := ⟨rfl, rfl, rfl, by decide +kernel, rfl, by decide +kernel, by decide +kernel⟩
theorem ok_rcinit {f : Addr} {fd : FuncData} (F : Fun K "__init__" "RowCheck.__init__" s_RowCheck___init__ f fd) (rc : RcC K C) : FnOk P w K mg base CX0 1 f fd ["self", "asks", "signals", "with_edits"] (spRcInit K C) := by
  refine F.ok sc_RowCheck___init__ (fun vs H Q E h => ?_) (fun cdv A outer s H vs Q E hr h => ?_)
  · obtain ⟨x, dx, ka, ks, E, rfl, _⟩ := h
    rfl
  · obtain ⟨x, dx, ka, ks, E0, rfl, hx, hka, hks, k⟩ := h
    have nka : ka ≠ x := hka.ne_ins hx
    have nks : ks ≠ x := hks.ne_ins hx
    refine ⟨_, (pss_cons (ps_fld (pv 0) (pv 1) rfl)
      (pss_cons (ps_fld (pv 0) (pv 2) rfl)
      (pss_cons (ps_fld (pv 0) (pv 3) rfl)
      (pss_cons (ps_fld (pv 0) pe_int rfl)
      (pss_cons (ps_fld (pv 0) pe_dnewK rfl)
      (pss_cons (ps_fld (pv 0) pe_dnewK rfl)
      (pss_cons (ps_fld (pv 0) pe_dnewK rfl)
      (pss_one (ps_fld (pv 0) pe_dnewK rfl))))))))), ?_⟩
    refine ⟨_, rfl, _, rfl, x, C, dx, _, rfl, hx, rc.cls, rc.n1, (by show 0 < 1000; decide), ?_⟩
    refine ⟨_, rfl, _, rfl, x, C, dx, _, rfl, upd_same, rc.cls, rc.n2, (by show 1 < 1000; decide), ?_⟩
    refine ⟨_, rfl, _, rfl, x, C, dx, _, rfl, upd_same, rc.cls, rc.n3, (by show 2 < 1000; decide), ?_⟩
    refine ⟨_, rfl, x, C, dx, _, rfl, upd_same, rc.cls, rc.n4, (by show 3 < 1000; decide), ?_⟩
    rw [upd_upd, upd_upd, upd_upd]
    have g0 : ∀ b o, H b = some o → b ≠ x → upd H x (.ins C dx (putF "total" (.int 0) (putF "with_edits" (.bl E0.we) (putF "known_signals" (.ref ks) (putF "known_asks" (.ref ka) []))))) b = some o := fun b o hb hbx => by rw [upd_ne hbx]; exact hb
    have x0 : upd H x (.ins C dx (putF "total" (.int 0) (putF "with_edits" (.bl E0.we) (putF "known_signals" (.ref ks) (putF "known_asks" (.ref ka) []))))) x = some (.ins C dx (putF "total" (.int 0) (putF "with_edits" (.bl E0.we) (putF "known_signals" (.ref ks) (putF "known_asks" (.ref ka) []))))) := upd_same
    have n0 : ∀ b, upd H x (.ins C dx (putF "total" (.int 0) (putF "with_edits" (.bl E0.we) (putF "known_signals" (.ref ks) (putF "known_asks" (.ref ka) []))))) b = none → H b = none := fun b hb => by
      cases q : H b with
      | none => rfl
      | some o =>
        by_cases e : b = x
        · rw [e, x0] at hb; cases hb
        · rw [g0 b o q e] at hb; cases hb
    revert g0 x0 n0
    generalize upd H x (.ins C dx (putF "total" (.int 0) (putF "with_edits" (.bl E0.we) (putF "known_signals" (.ref ks) (putF "known_asks" (.ref ka) []))))) = H0
    intro g0 x0 n0
    refine fun p1 hp1 => ⟨_, rfl, x, C, dx, _, rfl, Same.new hp1 _ _ x0, rc.cls, rc.n5, (by show 4 < 1000; decide), ?_⟩
    obtain ⟨x1, q1, g1, m1⟩ := init_step (f := "label_words") x0 hp1
    revert x1 q1 g1
    generalize upd (upd H0 p1 (.dK [])) x (.ins C dx (putF "label_words" (.ref p1) _)) = H1
    intro x1 q1 g1
    refine fun p2 hp2 => ⟨_, rfl, x, C, dx, _, rfl, Same.new hp2 _ _ x1, rc.cls, rc.n6, (by show 5 < 1000; decide), ?_⟩
    obtain ⟨x2, q2, g2, m2⟩ := init_step (f := "slot_words") x1 hp2
    revert x2 q2 g2
    generalize upd (upd H1 p2 (.dK [])) x (.ins C dx (putF "slot_words" (.ref p2) _)) = H2
    intro x2 q2 g2
    refine fun p3 hp3 => ⟨_, rfl, x, C, dx, _, rfl, Same.new hp3 _ _ x2, rc.cls, rc.n7, (by show 6 < 1000; decide), ?_⟩
    obtain ⟨x3, q3, g3, m3⟩ := init_step (f := "gate_words") x2 hp3
    revert x3 q3 g3
    generalize upd (upd H2 p3 (.dK [])) x (.ins C dx (putF "gate_words" (.ref p3) _)) = H3
    intro x3 q3 g3
    refine fun p4 hp4 => ⟨_, rfl, x, C, dx, _, rfl, Same.new hp4 _ _ x3, rc.cls, rc.n8, (by show 7 < 1000; decide), ?_⟩
    obtain ⟨x4, q4, g4, m4⟩ := init_step (f := "edit_words") x3 hp4
    revert x4 q4 g4
    generalize upd (upd H3 p4 (.dK [])) x (.ins C dx (putF "edit_words" (.ref p4) _)) = H4
    intro x4 q4 g4
    have p1x : p1 ≠ x := m1 x _ x0
    have p2x : p2 ≠ x := m2 x _ x1
    have p3x : p3 ≠ x := m3 x _ x2
    have p4x : p4 ≠ x := m4 x _ x3
    have gg : ∀ b o, H b = some o → b ≠ x → H4 b = some o := fun b o hb hbx => g4 b o (g3 b o (g2 b o (g1 b o (g0 b o hb hbx) hbx) hbx) hbx) hbx
    have a1 : H1 p1 = some (.dK []) := q1
    have a2 : H2 p1 = some (.dK []) := g2 _ _ a1 p1x
    have a3 : H3 p1 = some (.dK []) := g3 _ _ a2 p1x
    have b2 : H2 p2 = some (.dK []) := q2
    have b3 : H3 p2 = some (.dK []) := g3 _ _ b2 p2x
    have c3 : H3 p3 = some (.dK []) := q3
    have e12 : p1 ≠ p2 := (m2 _ _ a1).symm
    have e13 : p1 ≠ p3 := (m3 _ _ a2).symm
    have e14 : p1 ≠ p4 := (m4 _ _ a3).symm
    have e23 : p2 ≠ p3 := (m3 _ _ b2).symm
    have e24 : p2 ≠ p4 := (m4 _ _ b3).symm
    have e34 : p3 ≠ p4 := (m4 _ _ c3).symm
    have up1 : ∀ b o, H b = some o → b ≠ x → H1 b = some o := fun b o hb hbx => g1 b o (g0 b o hb hbx) hbx
    have up2 : ∀ b o, H b = some o → b ≠ x → H2 b = some o := fun b o hb hbx => g2 b o (up1 b o hb hbx) hbx
    have up3 : ∀ b o, H b = some o → b ≠ x → H3 b = some o := fun b o hb hbx => g3 b o (up2 b o hb hbx) hbx
    have old : ∀ b o, H b = some o → b ≠ x → b ≠ p1 ∧ b ≠ p2 ∧ b ≠ p3 ∧ b ≠ p4 := fun b o hb hbx =>
      ⟨(m1 _ _ (g0 b o hb hbx)).symm, (m2 _ _ (up1 b o hb hbx)).symm, (m3 _ _ (up2 b o hb hbx)).symm, (m4 _ _ (up3 b o hb hbx)).symm⟩
    have oka := let ⟨kvs, h, _⟩ := hka; old _ _ h nka
    have oks := let ⟨kvs, h, _⟩ := hks; old _ _ h nks
    refine k H4 ⟨C, x, dx, ka, ks, p1, p2, p3, p4⟩ rfl rfl ?_ ⟨x4, hka.mono fun o h => gg _ o h nka, hks.mono fun o h => gg _ o h nks, g4 _ _ a3 p1x, g4 _ _ b3 p2x, g4 _ _ c3 p3x, q4, ?_, ?_⟩ gg
    · intro b hb
      cases q : H b with
      | none => rfl
      | some o =>
        exfalso
        have hb : b = p1 ∨ b = p2 ∨ b = p3 ∨ b = p4 := by simpa using hb
        by_cases hbx : b = x
        · rcases hb with e | e | e | e
          · exact p1x (e.symm.trans hbx)
          · exact p2x (e.symm.trans hbx)
          · exact p3x (e.symm.trans hbx)
          · exact p4x (e.symm.trans hbx)
        · obtain ⟨o1, o2, o3, o4⟩ := old b o q hbx
          rcases hb with e | e | e | e
          · exact o1 e
          · exact o2 e
          · exact o3 e
          · exact o4 e
    · simp [List.nodup_cons, oka, e12, e13, e14, e23, e24, e34]
    · simp [List.nodup_cons, oks, e12, e13, e14, e23, e24, e34]
end
end Op
namespace Op
open PySem L2 PyProof.Rows
/-! ### an argument that may be None, a dict with text keys, or something else -/
inductive ArgD where
  | none
  | dict (kvs : List (Str × PyData))
  | other (d : PyData)
def KvsR (K : PySem.W.Frag) (H : Hp) : List (Key × V) → List (Str × PyData) → Prop
  | [], [] => True
  | (k, v) :: r, (x, d) :: t => k = .inr x ∧ Dp K H v d ∧ KvsR K H r t
  | _, _ => False
def ArgV (K : PySem.W.Frag) (H : Hp) (v : V) : ArgD → Prop
  | .none => v = .non
  | .dict kvs => ∃ p vs, v = .ref p ∧ H p = some (.dK vs) ∧ KvsR K H vs kvs ∧ (kvs.map (·.1)).Nodup
  | .other d => Dp K H v d ∧ d ≠ .none
def argSmall : ArgD → Prop
  | .dict kvs => kvs.length ≤ 60 ∧ ∀ p ∈ kvs, p.1.length ≤ 100000 ∧ wt p.2 ≤ 100000
  | _ => True
def argL : V → List Addr
  | .ref p => [p]
  | _ => []
section
variable {K : PySem.W.Frag} {H H' : Hp}
theorem KvsR.kp (s : Kp H H') : ∀ {vs : List (Key × V)} {kvs : List (Str × PyData)}, KvsR K H vs kvs → KvsR K H' vs kvs
  | [], [], _ => trivial
  | (k, v) :: r, (x, d) :: t, ⟨h1, h2, h3⟩ => ⟨h1, h2.kp s, KvsR.kp s h3⟩
theorem KvsR.len : ∀ {vs : List (Key × V)} {kvs : List (Str × PyData)}, KvsR K H vs kvs → vs.length = kvs.length
  | [], [], _ => rfl
  | (k, v) :: r, (x, d) :: t, ⟨h1, h2, h3⟩ => congrArg Nat.succ (KvsR.len h3)
theorem KvsR.keys : ∀ {vs : List (Key × V)} {kvs : List (Str × PyData)}, KvsR K H vs kvs → vs.map (·.1) = (kvs.map (·.1)).map Sum.inr
  | [], [], _ => rfl
  | (k, v) :: r, (x, d) :: t, ⟨h1, h2, h3⟩ => by
    rw [List.map_cons, List.map_cons, List.map_cons, KvsR.keys h3, h1]
theorem KvsR.get : ∀ {vs : List (Key × V)} {kvs : List (Str × PyData)} {i : Nat} {k : Key} {v : V}, KvsR K H vs kvs → vs[i]? = some (k, v) → ∃ x d, kvs[i]? = some (x, d) ∧ k = .inr x ∧ Dp K H v d
  | [], [], i, k, v, _, h => by simp at h
  | (k, v) :: r, (x, d) :: t, 0, k', v', ⟨h1, h2, h3⟩, e => by
    obtain ⟨rfl, rfl⟩ := Prod.mk.inj (Option.some.inj e)
    exact ⟨x, d, rfl, h1, h2⟩
  | (k, v) :: r, (x, d) :: t, i + 1, k', v', ⟨h1, h2, h3⟩, e => KvsR.get (i := i) h3 e
def lk (kvs : List (Str × PyData)) (y : Str) : PyData := (kvs.lookup y).getD .none
theorem KvsR.val : ∀ {vs : List (Key × V)} {kvs : List (Str × PyData)} (y : Str), KvsR K H vs kvs → y ∈ kvs.map (·.1) → ∃ v, valV vs (.inr y) = some v ∧ Dp K H v (lk kvs y)
  | [], [], y, _, h => by simp at h
  | (k, v) :: r, (x, d) :: t, y, ⟨h1, h2, h3⟩, h => by
    by_cases e : y = x
    · subst e
      refine ⟨v, by rw [h1]; exact valV_pos rfl, ?_⟩
      unfold lk
      rw [List.lookup_cons, beq_self_eq_true]
      exact h2
    · have hm : y ∈ t.map (·.1) := by
        rw [List.map_cons] at h
        exact (List.mem_cons.mp h).resolve_left e
      obtain ⟨w, g1, g2⟩ := KvsR.val y h3 hm
      refine ⟨w, by rw [h1, valV_neg (fun q => e (Sum.inr.inj q).symm)]; exact g1, ?_⟩
      unfold lk at g2 ⊢
      rw [List.lookup_cons, show (y == x) = false by simpa using e]
      exact g2
theorem lk_self : ∀ {kvs : List (Str × PyData)}, (kvs.map (·.1)).Nodup → (kvs.map (·.1)).map (fun y => (y, lk kvs y)) = kvs := by
  intro kvs
  induction kvs with
  | nil => intro _; rfl
  | cons p r ih =>
    obtain ⟨x, d⟩ := p
    intro h
    rw [List.map_cons, List.nodup_cons] at h
    rw [List.map_cons, List.map_cons]
    have e1 : lk ((x, d) :: r) x = d := by
      unfold lk
      rw [List.lookup_cons, beq_self_eq_true]
      rfl
    rw [e1]
    have e2 : (r.map (·.1)).map (fun y => (y, lk ((x, d) :: r) y)) = (r.map (·.1)).map (fun y => (y, lk r y)) := List.map_congr_left fun y hy => by
      have : (y == x) = false := by simpa using fun e : y = x => h.1 (e ▸ hy)
      unfold lk
      rw [List.lookup_cons, this]
    rw [e2, ih h.2]
end
def okTab (ok : PyData → Bool) (most : Nat) : ArgD → Option (List (Str × PyData))
  | .none => some []
  | .other _ => none
  | .dict kvs => if kvs.length ≤ most ∧ (kvs.all fun p => isWordS p.1 && ok p.2) = true then some kvs else none
section
variable {P : Program} {w : World} {K : PySem.W.Frag} {mg : Str → Option Value} {base : Heap} {pS CI : Addr}
def spTab (K : PySem.W.Frag) (CI : Addr) (part : Str) (ok : PyData → Bool) (most : Nat) : Sp := fun vs H Q X => ∃ v a, vs = [v] ∧ ArgV K H v a ∧ argSmall a ∧
  (∀ kvs, okTab ok most a = some kvs → ∀ p' H' ws kvs', Same H H' → H p' = none → H' p' = some (.dK ws) → kvs'.Perm kvs → sortedS (kvs'.map (·.1)) = true → KvsR K H' ws kvs' → Q (.ref p') H') ∧
  (okTab ok most a = none → ∀ H' d, Fr (argL v) H H' → XProg K H' d part [] → X (.ref CI) (some d) H')
theorem nodup_take {ys : List Str} {i : Nat} {y : Str} (h : ys.Nodup) (e : ys[i]? = some y) : y ∉ ys.take i := fun m => by
  obtain ⟨j, hj⟩ := List.getElem?_of_mem m
  have hji : j < i := by
    have := (List.getElem?_eq_some_iff.mp hj).1
    rw [List.length_take] at this
    omega
  rw [List.getElem?_take, if_pos hji] at hj
  obtain ⟨h1, e1⟩ := List.getElem?_eq_some_iff.mp hj
  obtain ⟨h2, e2⟩ := List.getElem?_eq_some_iff.mp e
  exact (List.pairwise_iff_getElem.mp h) j i h1 h2 hji (e1.trans e2.symm)
theorem tyV_dK {H : Hp} {p : Addr} {kvs : List (Key × V)} (h : H p = some (.dK kvs)) : tyV K "dict" (.ref p) H := .inr (.inr (.inl ⟨rfl, .inl ⟨kvs, h⟩⟩))
theorem kit_dictK {H : Hp} {p : Addr} {kvs : List (Key × V)} (h : H p = some (.dK kvs)) : TyX K H (.ref p) (.type "dict") := .base (.dK h)
theorem sc_checked_asks : FnScope ["value", "name", "words"] ["value"] (defScope s_checked_asks) := ⟨rfl, rfl, rfl, by decide +kernel, rfl, by decide +kernel, by decide +kernel⟩
theorem ok_checked_asks {f : Addr} {fd : FuncData} (F : Fun K "checked_asks" "checked_asks" s_checked_asks f fd) (T : TxtC P w K mg pS CI) (c_is_word : Cal P w K mg base CX0 1 "is_word" ["value"] (spWord K)) (c_are_words : Cal P w K mg base CX0 2 "are_words" ["value", "most"] (spAreWords K)) :
    FnOk P w K mg base (L2.CX P w) 3 f fd ["value"] (spTab K CI "asks" (areWords 4) 6) := by
  refine F.okX sc_checked_asks (fun vs H Q E h => ?_) (fun cdv A outer s H vs Q E hr h => ?_)
  · obtain ⟨v, a, rfl, _⟩ := h
    rfl
  · obtain ⟨v, a, rfl, hv, hsm, k1, k2⟩ := h
    have hu := hu_of hr
    refine ⟨_, (pss_cons (ps_if (pt_cmpR op_isN (pv 0) pe_non (nomark _)) (pss_one (ps_ret pe_dnewK)) pss_nil)
      (pss_cons (ps_if (PW.pt (pw_or (pt_not (pt_val (pe_callB call_isi (by rfl) T.b_isinstance (by decide +kernel) (pa_cons (pv 0) (pa_cons (pe_bltn (v := .ty "dict") (by rfl) T.b_dict (by decide +kernel) rfl) pa_nil))))) (pw_or1 (pt_cmpR op_gt (pe_callB call_lenD (by rfl) T.b_len (by decide +kernel) (pa_cons (pv 0) pa_nil)) pe_int (nomark _))))) (pss_one (ps_raise rfl (takes_of rfl rfl rfl rfl) (pmk_x T.mk_InvalidProgram hr rfl T.g_InvalidProgram T.k_InvalidProgram T.r_InvalidProgram (pa_cons pe_str (pa_cons (pe_tup pa_nil) pa_nil))))) pss_nil)
      (pss_cons (ps_lock (ps_for (passes_of rfl) rfl (pi_items (pv 0)) (pg_tup rfl (pgs_cons (pg_name (i := 1) sc_checked_asks.nd rfl (.inl rfl)) (pgs_cons (pg_name (i := 2) sc_checked_asks.nd rfl (.inl rfl)) pgs_nil))) (pss_one (ps_if (PW.pt (pw_or (pt_not (pt_val (pe_cal c_is_word (hr.mono (by omega)) rfl pass0 (pa_cons (pv 1) pa_nil)))) (pw_or1 (pt_not (pt_val (pe_cal c_are_words (hr.mono (by omega)) rfl pass0 (pa_cons (pv 2) (pa_cons pe_int pa_nil)))))))) (pss_one (ps_raise rfl (takes_of rfl rfl rfl rfl) (pmk_x T.mk_InvalidProgram hr rfl T.g_InvalidProgram T.k_InvalidProgram T.r_InvalidProgram (pa_cons pe_str (pa_cons (pe_tup pa_nil) pa_nil))))) pss_nil))))
      (pss_one (ps_ret (pe_dc (own := [("name", 1)]) (g := gName 1) (tt := tYes) rfl sc_checked_asks.nd (pi_list (pe_callB (call_sortedKV rfl) (by rfl) T.b_sorted (by decide +kernel) (pa_cons (pe_bm0 PySem.F.plainAttrs_dict PySem.F.slot_dict_keys PySem.F.type_dict_keys mt_keysV (pv 0)) pa_nil))) (blkOk_by (own := [("name", 1)]) (N := ["value", "name", "words"]) (sc := defScope s_checked_asks) (by decide +kernel)) (fun _ _ _ _ _ => (pg_name (i := 1) sc_checked_asks.nd rfl (.inl rfl))) (fun _ _ _ _ _ => pts_nil) (fun _ _ _ _ _ => (pv 1)) (fun _ _ _ _ _ => (pe_dget hu (pv 0) (pv 1) (fun _ _ => rfl))))))))), ?_⟩
    have fin : (∀ H' dd, Fr (argL v) H H' → XProg K H' dd "asks" [] → E (.ref CI) (some dd) H') → ∀ H1, Fr (argL v) H H1 → ∀ p, H1 p = none → ∀ d, upd H1 p (.tup []) d = none → E (.ref CI) (some d) (upd (upd H1 p (.tup [])) d (.xd [("path", .ref p), ("part", .str "asks")])) := by
      intro k H1 f1 p hp d hd
      refine k _ d (f1.trans ((Same.new hp).trans (Same.new hd)).fr) ⟨p, upd_same, ?_⟩
      exact SqT.mono (.inl (.inl upd_same)) (Same.new hd)
    cases a with
    | none =>
      obtain rfl := hv
      refine ⟨_, rfl, rfl, _, rfl, ifT rfl fun p hp => ?_⟩
      exact k1 [] rfl p _ [] [] (Same.new hp) hp upd_same .nil rfl trivial
    | other d =>
      obtain ⟨hd, hn⟩ := hv
      have hvn : decide (v = .non) = false := decide_eq_false fun e => by
        subst e
        cases hd
        exact hn rfl
      refine ⟨_, rfl, rfl, _, rfl, ?_⟩
      rw [hvn]
      refine ifF rfl ⟨_, rfl, v, _, _, _, _, rfl, .ty _, ty_dp hd, kit_dict d, _, rfl, ?_⟩
      have fin' : ∀ p, H p = none → ∀ d, upd H p (.tup []) d = none → E (.ref CI) (some d) (upd (upd H p (.tup [])) d (.xd [("path", .ref p), ("part", .str "asks")])) := fin (k2 rfl) H Fr.refl
      cases hd <;> exact ifT rfl (ifT rfl ⟨sz_lit (by decide), fun p hp => ⟨rfl, fun d hd => fin' p hp d hd⟩⟩)
    | dict kvs =>
      obtain ⟨p, vs, rfl, hp, hkv, hnd⟩ := hv
      obtain ⟨hl60, hsmall⟩ := hsm
      have hlen := hkv.len
      refine ⟨_, rfl, rfl, _, rfl, ifF rfl ?_⟩
      refine ⟨_, rfl, .ref p, _, _, _, _, rfl, .ty _, kit_dictK hp, kit_ty (show kitB "dict" "dict" = some true by decide +kernel), _, rfl, ifF rfl ?_⟩
      refine ⟨_, rfl, p, vs, rfl, hp, _, _, rfl, rfl, _, rfl, ?_⟩
      by_cases e1 : 6 < vs.length
      · refine ifT (decide_eq_true (show (6 : Int) < (vs.length : Int) by omega)) ?_
        have : okTab (areWords 4) 6 (.dict kvs) = none := if_neg fun h => by omega
        exact ⟨sz_lit (by decide), fun q hq => ⟨rfl, fun d hd => fin (k2 this) H Fr.refl q hq d hd⟩⟩
      refine ifF (decide_eq_false (show ¬ (6 : Int) < (vs.length : Int) by omega)) ?_
      refine ⟨p, _, hp, trivial, fun od => ?_⟩
      have kp1 : Kp H (upd H p (.frz od (.dK vs))) := fun b o hb ho => by
        have : b ≠ p := fun e => by rw [e, hp] at hb; cases hb; cases ho
        rw [upd_ne this]
        exact hb
      have fr1 : Fr (argL (.ref p)) H (upd H p (.frz od (.dK vs))) := Fr.refl.upd (by simp [argL])
      refine ⟨_, rfl, p, od, vs, rfl, upd_same, ?_⟩
      refine for_it walk_items (fun i σ H' => (∃ y1 y2 : Option V, σ = [some (.ref p), y1, y2]) ∧ Same (upd H p (.frz od (.dK vs))) H' ∧ ((kvs.take i).all fun q => isWordS q.1 && areWords 4 q.2) = true) ⟨⟨_, _, rfl⟩, Same.refl _, rfl⟩ (fun i σ H' _ q => q.2.1 _ _ upd_same) ?_ ?_
      · rintro i v σ H1 H2 hi ⟨⟨y1, y2, rfl⟩, s1, hall⟩ ⟨T0, x, y, rfl, hT0, rfl, hx, hy⟩
        have hvi : vs[i]? = some vs[i] := List.getElem?_eq_getElem hi
        have hx : Option.map (fun kv => kV kv.1) vs[i]? = some x := hx
        have hy : Option.map Prod.snd vs[i]? = some y := hy
        rw [hvi] at hx hy
        obtain ⟨xk, d, hki, hk, hdy⟩ := hkv.get (k := vs[i].1) (v := vs[i].2) hvi
        obtain rfl : x = .str xk := by
          rw [← Option.some.inj hx]
          show kV vs[i].1 = _
          rw [hk]
          rfl
        obtain rfl : y = vs[i].2 := (Option.some.inj hy).symm
        obtain ⟨hs1, hs2⟩ := hsmall (xk, d) (List.mem_of_getElem? hki)
        have sm2 : Same H1 (upd H1 T0 (.tup [.str xk, vs[i].2])) := Same.new hT0
        refine ⟨T0, _, rfl, .inl (.inl upd_same), rfl, _, _, rfl, _, _, rfl, rfl, ?_⟩
        have s2 := s1.trans sm2
        revert s2
        generalize upd H1 T0 (.tup [.str xk, vs[i].2]) = H2
        intro s2
        have hdy2 : Dp K H2 vs[i].2 d := hdy.kp (kp1.trans s2.kp)
        refine ⟨_, rfl, .str xk, .str xk, rfl, .str xk, fun z e => by cases e; exact hs1, _, rfl, ?_⟩
        have bad : (isWordS xk && areWords 4 d) = false → okTab (areWords 4) 6 (.dict kvs) = none := fun hb => if_neg fun h => by
          have := List.all_eq_true.mp h.2 (xk, d) (List.mem_of_getElem? hki)
          rw [hb] at this
          cases this
        have up : ∀ q, H2 q = none → ∀ d, upd H2 q (.tup []) d = none → okTab (areWords 4) 6 (.dict kvs) = none → E (.ref CI) (some d) (upd (upd H2 q (.tup [])) d (.xd [("path", .ref q), ("part", .str "asks")])) := fun q hq d hd hn => fin (k2 hn) H2 (fr1.trans s2.fr) q hq d hd
        by_cases w1 : isWordS xk = true
        · rw [show isWord (.str xk) = true from w1]
          refine ifF rfl ⟨_, rfl, vs[i].2, d, 4, rfl, hdy2, small_of d hs2, by decide, _, rfl, ?_⟩
          by_cases w2 : areWords 4 d = true
          · rw [w2]
            refine ifF rfl ⟨⟨_, _, rfl⟩, s2, ?_⟩
            rw [TS.take_one hki, List.all_append, hall]
            simp [w1, w2]
          · rw [Bool.eq_false_iff.mpr w2]
            refine ifT rfl ⟨sz_lit (by decide), fun q hq => ⟨rfl, fun d hd => up q hq d hd (bad ?_)⟩⟩
            rw [Bool.eq_false_iff.mpr w2, Bool.and_false]
        · rw [show isWord (.str xk) = false from Bool.eq_false_iff.mpr w1]
          refine ifT rfl (ifT rfl ⟨sz_lit (by decide), fun q hq => ⟨rfl, fun d hd => up q hq d hd (bad ?_)⟩⟩)
          rw [Bool.eq_false_iff.mpr w1, Bool.false_and]
      · rintro σ H1 ⟨⟨y1, y2, rfl⟩, s1, hall⟩
        rw [List.take_of_length_le (by omega)] at hall
        refine ⟨s1 _ _ upd_same, ?_⟩
        have good : okTab (areWords 4) 6 (.dict kvs) = some kvs := if_pos ⟨by omega, hall⟩
        have sA : Same H (upd H1 p (.dK vs)) := fun b o hb => by
          by_cases e : b = p
          · subst e
            rw [hp] at hb
            rw [upd_same]
            exact hb
          · rw [upd_ne e]
            refine s1 b o ?_
            rw [upd_ne e]
            exact hb
        have hpA : upd H1 p (.dK vs) p = some (.dK vs) := upd_same
        revert sA hpA
        generalize upd H1 p (.dK vs) = H2
        intro sA hpA
        refine ⟨_, rfl, tyV_dK hpA, p, vs, rfl, rfl, .inl hpA, fun q hq => ?_⟩
        have sB : Same H2 (upd H2 q (keysO q p)) := Same.new hq
        refine ⟨q, p, vs, kvs.map (·.1), rfl, upd_same, .inl (sB _ _ hpA), hkv.keys, by rw [List.length_map]; omega, fun ys l hperm hsort hl => ?_⟩
        have sC := sB.trans (Same.new (o := .lst (ys.map V.str)) hl)
        have hlC : upd (upd H2 q (keysO q p)) l (.lst (ys.map V.str)) l = some (.lst (ys.map V.str)) := upd_same
        revert sC hlC
        generalize upd (upd H2 q (keysO q p)) l (.lst (ys.map V.str)) = H3
        intro sC hlC
        refine ⟨l, rfl, ⟨_, .inl (.inl hlC)⟩, fun D hD => ?_⟩
        have hnd' : ys.Nodup := hperm.nodup_iff.mpr hnd
        have hyl : ys.length = kvs.length := by rw [hperm.length_eq, List.length_map]
        have hDS : Same H3 (upd H3 D (.dK [])) := Same.new hD
        refine dc_it (walk_list (xs := ys.map V.str)) (fun i H' => H' D = some (.dK ((ys.take i).map fun y => (Sum.inr y, (valV vs (.inr y)).getD .non))) ∧ Same H3 H') ⟨upd_same, hDS⟩ (fun i H' _ q => .inl (.inl (q.2 _ _ hlC))) ?_ ?_
        · rintro i x H5 H4 hi ⟨hD4, s4⟩ ⟨rfl, hx⟩
          have hi' : i < ys.length := by rw [List.length_map] at hi; exact hi
          have hyi : ys[i]? = some ys[i] := List.getElem?_eq_getElem hi'
          obtain rfl : x = .str ys[i] := by
            rw [List.getElem?_map, hyi] at hx
            exact (Option.some.inj hx).symm
          obtain ⟨v, hv1, hv2⟩ := hkv.val ys[i] (hperm.mem_iff.mp (List.mem_of_getElem? hyi))
          have hp4 : H4 p = some (.dK vs) := s4 _ _ (sC _ _ hpA)
          refine ⟨rfl, ?_⟩
          refine ⟨_, rfl, _, rfl, _, rfl, p, v, rfl, by rw [← hv1]; exact dget_known hp4, _, .inr ys[i], rfl, hD4, lt_sz (by rw [List.length_map, List.length_take]; omega), ?_, fun b o hb => ?_⟩
          · rw [upd_same, putK_new]
            · rw [TS.take_one hyi, List.map_append, List.map_cons, List.map_nil, hv1]
              rfl
            · have : ∀ l : List Str, ys[i] ∉ l → valV (l.map fun y => ((Sum.inr y : Key), (valV vs (.inr y)).getD .non)) (.inr ys[i]) = none := by
                intro l
                induction l with
                | nil => intro _; rfl
                | cons z r ih =>
                  intro hz
                  rw [List.mem_cons, not_or] at hz
                  rw [List.map_cons, valV_neg (fun e => hz.1 (Sum.inr.inj e).symm)]
                  exact ih hz.2
              exact this _ (nodup_take hnd' hyi)
          · have : b ≠ D := fun e => by rw [e, hD] at hb; cases hb
            rw [upd_ne this]
            exact s4 b o hb
        · rintro H4 ⟨hD4, s4⟩
          rw [List.length_map, List.take_length] at hD4
          have sall : Same H H4 := sA.trans (sC.trans s4)
          refine k1 kvs good D H4 _ (ys.map fun y => (y, lk kvs y)) sall ?_ hD4 ?_ ?_ ?_
          · exact (sA.trans sC).free hD
          · have := hperm.map (fun y => (y, lk kvs y))
            rw [lk_self hnd] at this
            exact this
          · rw [List.map_map]
            have : ((fun x : Str × PyData => x.1) ∘ fun y => (y, lk kvs y)) = id := by funext y; rfl
            rw [this, List.map_id]
            exact hsort
          · have : ∀ l : List Str, (∀ y ∈ l, y ∈ kvs.map (·.1)) → KvsR K H4 (l.map fun y => ((Sum.inr y : Key), (valV vs (.inr y)).getD .non)) (l.map fun y => (y, lk kvs y)) := by
              intro l
              induction l with
              | nil => intro _; exact trivial
              | cons z r ih =>
                intro hz
                obtain ⟨v, hv1, hv2⟩ := hkv.val z (hz z List.mem_cons_self)
                refine ⟨rfl, ?_, ih fun y hy => hz y (List.mem_cons_of_mem _ hy)⟩
                show Dp K H4 ((valV vs (.inr z)).getD .non) _
                rw [hv1]
                exact hv2.mono sall
            exact this ys fun y hy => hperm.mem_iff.mp hy
end
end Op
namespace Op
open PySem L2 PyProof.Rows
def isBox : PyData → Bool
  | .tuple [.int n, d] => decide (1 ≤ n ∧ n ≤ 3) && areWords 3 d
  | _ => false
section
variable {P : Program} {w : World} {K : PySem.W.Frag} {mg : Str → Option Value} {base : Heap} {pS CI : Addr}
theorem small_tup {ds : List PyData} (h : small (.tuple ds) = true) : smalls ds = true := by
  unfold small at h
  exact (Bool.and_eq_true_iff.mp h).2
def spInt (K : PySem.W.Frag) : Sp := fun vs H Q _ => ∃ (v : V) (d : PyData), vs = [v] ∧ Dp K H v d ∧ Q (.bl (isInt d)) H
theorem sc_is_integer : FnScope ["value"] ["value"] (defScope s_is_integer) := ⟨rfl, rfl, rfl, by decide +kernel, rfl, by decide +kernel, by decide +kernel⟩
theorem ok_is_integer {f : Addr} {fd : FuncData} (F : Fun K "is_integer" "is_integer" s_is_integer f fd) (T : Txt mg) : FnOk P w K mg base CX0 1 f fd ["value"] (spInt K) := by
  refine F.ok sc_is_integer (fun vs H Q E h => ?_) (fun cdv A outer s H vs Q E hr h => ?_)
  · obtain ⟨v, d, rfl, _⟩ := h
    rfl
  · obtain ⟨v, d, rfl, hd, k⟩ := h
    refine ⟨_, (pss_one (ps_ret (pe_and (pe_callB call_isi (by rfl) T.b_isinstance (by decide +kernel) (pa_cons (pv 0) (pa_cons (pe_bltn (v := .ty "int") (by rfl) T.b_int (by decide +kernel) rfl) pa_nil))) (pe_one (pe_not (pe_callB call_isi (by rfl) T.b_isinstance (by decide +kernel) (pa_cons (pv 0) (pa_cons (pe_bltn (v := .ty "bool") (by rfl) T.b_bool (by decide +kernel) rfl) pa_nil)))))))), ?_⟩
    refine ⟨_, rfl, v, _, _, _, _, rfl, .ty _, ty_dp hd, kit_int d, _, rfl, ?_⟩
    cases hd with
    | int i => exact ifT rfl ⟨_, rfl, .int i, _, _, _, _, rfl, .ty _, ty_dp (.int i), kit_bool (.int i), _, rfl, k⟩
    | bl b => exact ifT rfl ⟨_, rfl, .bl b, _, _, _, _, rfl, .ty _, ty_dp (.bl b), kit_bool (.bool b), _, rfl, k⟩
    | _ => exact ifF rfl k
def spBox (K : PySem.W.Frag) : Sp := fun vs H Q _ => ∃ (v : V) (d : PyData), vs = [v] ∧ Dp K H v d ∧ small d = true ∧ Q (.bl (isBox d)) H
theorem sc_is_box : FnScope ["value"] ["value"] (defScope s_is_box) := ⟨rfl, rfl, rfl, by decide +kernel, rfl, by decide +kernel, by decide +kernel⟩
theorem ok_is_box {f : Addr} {fd : FuncData} (F : Fun K "is_box" "is_box" s_is_box f fd) (T : Txt mg) (c_is_integer : Cal P w K mg base CX0 1 "is_integer" ["value"] (spInt K)) (c_are_words : Cal P w K mg base CX0 2 "are_words" ["value", "most"] (spAreWords K)) : FnOk P w K mg base CX0 3 f fd ["value"] (spBox K) := by
  refine F.ok sc_is_box (fun vs H Q E h => ?_) (fun cdv A outer s H vs Q E hr h => ?_)
  · obtain ⟨v, d, rfl, _⟩ := h
    rfl
  · obtain ⟨v, d, rfl, hd, hs, k⟩ := h
    refine ⟨_, (pss_cons (ps_if (PW.pt (pw_or (pt_not (pt_val (pe_callB call_isi (by rfl) T.b_isinstance (by decide +kernel) (pa_cons (pv 0) (pa_cons (pe_bltn (v := .ty "tuple") (by rfl) T.b_tuple (by decide +kernel) rfl) pa_nil))))) (pw_or (pt_cmpR op_ne (pe_callB call_len_seq (by rfl) T.b_len (by decide +kernel) (pa_cons (pv 0) pa_nil)) pe_int (nomark _)) (pw_or1 (pt_not (pt_val (pe_cal c_is_integer (hr.mono (by omega)) rfl pass0 (pa_cons (pe_ix ix_tup (pv 0) pe_int (fun _ _ => rfl)) pa_nil)))))))) (pss_one (ps_ret pe_bl)) pss_nil)
      (pss_one (ps_ret (pe_and (pe_chain op_le op_le pe_int (pe_ix ix_tup (pv 0) pe_int (fun _ _ => rfl)) pe_int) (pe_one (pe_cal c_are_words (hr.mono (by omega)) rfl pass0 (pa_cons (pe_ix ix_tup (pv 0) pe_int (fun _ _ => rfl)) (pa_cons pe_int pa_nil)))))))), ?_⟩
    refine ⟨_, rfl, v, _, _, _, _, rfl, .ty _, ty_dp hd, kit_tuple d, _, rfl, ?_⟩
    cases hd with
    | @tup a xs ds hq ha =>
      refine ifF rfl ⟨_, rfl, a, xs, rfl, .inr hq, rfl, _, rfl, ?_⟩
      have hlen := ha.len
      by_cases c : xs.length = 2
      · rw [c]
        refine ifF rfl ?_
        match xs, ds, ha, c, hlen, hq, hs, k with
        | [x, y], [d0, d1], .cons h0 (.cons h1 .nil), _, _, hq, hs, k =>
          refine ⟨_, rfl, a, _, 0, _, rfl, rfl, hq, atI_zero _ _, x, d0, rfl, h0, _, rfl, ?_⟩
          by_cases ci : isInt d0 = true
          · rw [ci]
            refine ifF rfl ?_
            cases h0 with
            | int n =>
              have hs1 : small d1 = true := smalls_get (ds := [.int n, d1]) (i := 1) (small_tup hs) rfl
              have e : isBox (.tuple [.int n, d1]) = (decide (1 ≤ n ∧ n ≤ 3) && areWords 3 d1) := rfl
              rw [e] at k
              refine ⟨_, rfl, a, _, 0, _, rfl, rfl, hq, atI_zero _ _, _, _, rfl, rfl, _, rfl, ?_⟩
              by_cases c1 : 1 ≤ n
              · refine ifT (decide_eq_true c1) ⟨_, _, rfl, rfl, _, rfl, ?_⟩
                by_cases c2 : n ≤ 3
                · rw [decide_eq_true (⟨c1, c2⟩ : 1 ≤ n ∧ n ≤ 3)] at k
                  exact ifT (decide_eq_true c2) ⟨_, rfl, a, _, 1, _, rfl, rfl, hq, atI_one _ _ _, y, d1, 3, rfl, h1, hs1, by decide, k⟩
                · rw [decide_eq_false (fun h => c2 h.2 : ¬ (1 ≤ n ∧ n ≤ 3))] at k
                  exact ifF (decide_eq_false c2) k
              · rw [decide_eq_false (fun h => c1 h.1 : ¬ (1 ≤ n ∧ n ≤ 3))] at k
                exact ifF (decide_eq_false c1) ⟨_, rfl, ifF rfl k⟩
            | _ => cases ci
          · rw [Bool.eq_false_iff.mpr ci]
            refine ifT rfl ?_
            have : isBox (.tuple [d0, d1]) = false := by cases d0 <;> first | rfl | exact absurd rfl ci
            rw [this] at k
            exact k
      · refine ifT (by rw [decide_eq_false (by intro z; injection z with z; omega)]; rfl) (ifT rfl ?_)
        · have : isBox (.tuple ds) = false := by
            match ds, hlen with
            | [], _ => rfl
            | [x], _ => cases x <;> rfl
            | [_, _], h => exact absurd h c
            | x :: _ :: _ :: _, _ => cases x <;> rfl
          rw [this] at k
          exact k
    | _ => exact ifT rfl (ifT rfl k)
theorem sc_checked_signals : FnScope ["value", "name", "box"] ["value"] (defScope s_checked_signals) := ⟨rfl, rfl, rfl, by decide +kernel, rfl, by decide +kernel, by decide +kernel⟩
theorem ok_checked_signals {f : Addr} {fd : FuncData} (F : Fun K "checked_signals" "checked_signals" s_checked_signals f fd) (T : TxtC P w K mg pS CI) (c_is_word : Cal P w K mg base CX0 1 "is_word" ["value"] (spWord K)) (c_is_box : Cal P w K mg base CX0 3 "is_box" ["value"] (spBox K)) :
    FnOk P w K mg base (L2.CX P w) 4 f fd ["value"] (spTab K CI "signals" isBox 3) := by
  refine F.okX sc_checked_signals (fun vs H Q E h => ?_) (fun cdv A outer s H vs Q E hr h => ?_)
  · obtain ⟨v, a, rfl, _⟩ := h
    rfl
  · obtain ⟨v, a, rfl, hv, hsm, k1, k2⟩ := h
    have hu := hu_of hr
    refine ⟨_, (pss_cons (ps_if (pt_cmpR op_isN (pv 0) pe_non (nomark _)) (pss_one (ps_ret pe_dnewK)) pss_nil)
      (pss_cons (ps_if (PW.pt (pw_or (pt_not (pt_val (pe_callB call_isi (by rfl) T.b_isinstance (by decide +kernel) (pa_cons (pv 0) (pa_cons (pe_bltn (v := .ty "dict") (by rfl) T.b_dict (by decide +kernel) rfl) pa_nil))))) (pw_or1 (pt_cmpR op_gt (pe_callB call_lenD (by rfl) T.b_len (by decide +kernel) (pa_cons (pv 0) pa_nil)) pe_int (nomark _))))) (pss_one (ps_raise rfl (takes_of rfl rfl rfl rfl) (pmk_x T.mk_InvalidProgram hr rfl T.g_InvalidProgram T.k_InvalidProgram T.r_InvalidProgram (pa_cons pe_str (pa_cons (pe_tup pa_nil) pa_nil))))) pss_nil)
      (pss_cons (ps_lock (ps_for (passes_of rfl) rfl (pi_items (pv 0)) (pg_tup rfl (pgs_cons (pg_name (i := 1) sc_checked_signals.nd rfl (.inl rfl)) (pgs_cons (pg_name (i := 2) sc_checked_signals.nd rfl (.inl rfl)) pgs_nil))) (pss_one (ps_if (PW.pt (pw_or (pt_not (pt_val (pe_cal c_is_word (hr.mono (by omega)) rfl pass0 (pa_cons (pv 1) pa_nil)))) (pw_or1 (pt_not (pt_val (pe_cal c_is_box (hr.mono (by omega)) rfl pass0 (pa_cons (pv 2) pa_nil))))))) (pss_one (ps_raise rfl (takes_of rfl rfl rfl rfl) (pmk_x T.mk_InvalidProgram hr rfl T.g_InvalidProgram T.k_InvalidProgram T.r_InvalidProgram (pa_cons pe_str (pa_cons (pe_tup pa_nil) pa_nil))))) pss_nil))))
      (pss_one (ps_ret (pe_dc (own := [("name", 1)]) (g := gName 1) (tt := tYes) rfl sc_checked_signals.nd (pi_list (pe_callB (call_sortedKV rfl) (by rfl) T.b_sorted (by decide +kernel) (pa_cons (pe_bm0 PySem.F.plainAttrs_dict PySem.F.slot_dict_keys PySem.F.type_dict_keys mt_keysV (pv 0)) pa_nil))) (blkOk_by (own := [("name", 1)]) (N := ["value", "name", "box"]) (sc := defScope s_checked_signals) (by decide +kernel)) (fun _ _ _ _ _ => (pg_name (i := 1) sc_checked_signals.nd rfl (.inl rfl))) (fun _ _ _ _ _ => pts_nil) (fun _ _ _ _ _ => (pv 1)) (fun _ _ _ _ _ => (pe_dget hu (pv 0) (pv 1) (fun _ _ => rfl))))))))), ?_⟩
    have fin : (∀ H' dd, Fr (argL v) H H' → XProg K H' dd "signals" [] → E (.ref CI) (some dd) H') → ∀ H1, Fr (argL v) H H1 → ∀ p, H1 p = none → ∀ d, upd H1 p (.tup []) d = none → E (.ref CI) (some d) (upd (upd H1 p (.tup [])) d (.xd [("path", .ref p), ("part", .str "signals")])) := by
      intro k H1 f1 p hp d hd
      refine k _ d (f1.trans ((Same.new hp).trans (Same.new hd)).fr) ⟨p, upd_same, ?_⟩
      exact SqT.mono (.inl (.inl upd_same)) (Same.new hd)
    cases a with
    | none =>
      obtain rfl := hv
      refine ⟨_, rfl, rfl, _, rfl, ifT rfl fun p hp => ?_⟩
      exact k1 [] rfl p _ [] [] (Same.new hp) hp upd_same .nil rfl trivial
    | other d =>
      obtain ⟨hd, hn⟩ := hv
      have hvn : decide (v = .non) = false := decide_eq_false fun e => by
        subst e
        cases hd
        exact hn rfl
      refine ⟨_, rfl, rfl, _, rfl, ?_⟩
      rw [hvn]
      refine ifF rfl ⟨_, rfl, v, _, _, _, _, rfl, .ty _, ty_dp hd, kit_dict d, _, rfl, ?_⟩
      have fin' : ∀ p, H p = none → ∀ d, upd H p (.tup []) d = none → E (.ref CI) (some d) (upd (upd H p (.tup [])) d (.xd [("path", .ref p), ("part", .str "signals")])) := fin (k2 rfl) H Fr.refl
      cases hd <;> exact ifT rfl (ifT rfl ⟨sz_lit (by decide), fun p hp => ⟨rfl, fun d hd => fin' p hp d hd⟩⟩)
    | dict kvs =>
      obtain ⟨p, vs, rfl, hp, hkv, hnd⟩ := hv
      obtain ⟨hl60, hsmall⟩ := hsm
      have hlen := hkv.len
      refine ⟨_, rfl, rfl, _, rfl, ifF rfl ?_⟩
      refine ⟨_, rfl, .ref p, _, _, _, _, rfl, .ty _, kit_dictK hp, kit_ty (show kitB "dict" "dict" = some true by decide +kernel), _, rfl, ifF rfl ?_⟩
      refine ⟨_, rfl, p, vs, rfl, hp, _, _, rfl, rfl, _, rfl, ?_⟩
      by_cases e1 : 3 < vs.length
      · refine ifT (decide_eq_true (show (3 : Int) < (vs.length : Int) by omega)) ?_
        have : okTab isBox 3 (.dict kvs) = none := if_neg fun h => by omega
        exact ⟨sz_lit (by decide), fun q hq => ⟨rfl, fun d hd => fin (k2 this) H Fr.refl q hq d hd⟩⟩
      refine ifF (decide_eq_false (show ¬ (3 : Int) < (vs.length : Int) by omega)) ?_
      refine ⟨p, _, hp, trivial, fun od => ?_⟩
      have kp1 : Kp H (upd H p (.frz od (.dK vs))) := fun b o hb ho => by
        have : b ≠ p := fun e => by rw [e, hp] at hb; cases hb; cases ho
        rw [upd_ne this]
        exact hb
      have fr1 : Fr (argL (.ref p)) H (upd H p (.frz od (.dK vs))) := Fr.refl.upd (by simp [argL])
      refine ⟨_, rfl, p, od, vs, rfl, upd_same, ?_⟩
      refine for_it walk_items (fun i σ H' => (∃ y1 y2 : Option V, σ = [some (.ref p), y1, y2]) ∧ Same (upd H p (.frz od (.dK vs))) H' ∧ ((kvs.take i).all fun q => isWordS q.1 && isBox q.2) = true) ⟨⟨_, _, rfl⟩, Same.refl _, rfl⟩ (fun i σ H' _ q => q.2.1 _ _ upd_same) ?_ ?_
      · rintro i v σ H1 H2 hi ⟨⟨y1, y2, rfl⟩, s1, hall⟩ ⟨T0, x, y, rfl, hT0, rfl, hx, hy⟩
        have hvi : vs[i]? = some vs[i] := List.getElem?_eq_getElem hi
        have hx : Option.map (fun kv => kV kv.1) vs[i]? = some x := hx
        have hy : Option.map Prod.snd vs[i]? = some y := hy
        rw [hvi] at hx hy
        obtain ⟨xk, d, hki, hk, hdy⟩ := hkv.get (k := vs[i].1) (v := vs[i].2) hvi
        obtain rfl : x = .str xk := by
          rw [← Option.some.inj hx]
          show kV vs[i].1 = _
          rw [hk]
          rfl
        obtain rfl : y = vs[i].2 := (Option.some.inj hy).symm
        obtain ⟨hs1, hs2⟩ := hsmall (xk, d) (List.mem_of_getElem? hki)
        have sm2 : Same H1 (upd H1 T0 (.tup [.str xk, vs[i].2])) := Same.new hT0
        refine ⟨T0, _, rfl, .inl (.inl upd_same), rfl, _, _, rfl, _, _, rfl, rfl, ?_⟩
        have s2 := s1.trans sm2
        revert s2
        generalize upd H1 T0 (.tup [.str xk, vs[i].2]) = H2
        intro s2
        have hdy2 : Dp K H2 vs[i].2 d := hdy.kp (kp1.trans s2.kp)
        refine ⟨_, rfl, .str xk, .str xk, rfl, .str xk, fun z e => by cases e; exact hs1, _, rfl, ?_⟩
        have bad : (isWordS xk && isBox d) = false → okTab isBox 3 (.dict kvs) = none := fun hb => if_neg fun h => by
          have := List.all_eq_true.mp h.2 (xk, d) (List.mem_of_getElem? hki)
          rw [hb] at this
          cases this
        have up : ∀ q, H2 q = none → ∀ d, upd H2 q (.tup []) d = none → okTab isBox 3 (.dict kvs) = none → E (.ref CI) (some d) (upd (upd H2 q (.tup [])) d (.xd [("path", .ref q), ("part", .str "signals")])) := fun q hq d hd hn => fin (k2 hn) H2 (fr1.trans s2.fr) q hq d hd
        by_cases w1 : isWordS xk = true
        · rw [show isWord (.str xk) = true from w1]
          refine ifF rfl ⟨_, rfl, vs[i].2, d, rfl, hdy2, small_of d hs2, _, rfl, ?_⟩
          by_cases w2 : isBox d = true
          · rw [w2]
            refine ifF rfl ⟨⟨_, _, rfl⟩, s2, ?_⟩
            rw [TS.take_one hki, List.all_append, hall]
            simp [w1, w2]
          · rw [Bool.eq_false_iff.mpr w2]
            refine ifT rfl ⟨sz_lit (by decide), fun q hq => ⟨rfl, fun d hd => up q hq d hd (bad ?_)⟩⟩
            rw [Bool.eq_false_iff.mpr w2, Bool.and_false]
        · rw [show isWord (.str xk) = false from Bool.eq_false_iff.mpr w1]
          refine ifT rfl (ifT rfl ⟨sz_lit (by decide), fun q hq => ⟨rfl, fun d hd => up q hq d hd (bad ?_)⟩⟩)
          rw [Bool.eq_false_iff.mpr w1, Bool.false_and]
      · rintro σ H1 ⟨⟨y1, y2, rfl⟩, s1, hall⟩
        rw [List.take_of_length_le (by omega)] at hall
        refine ⟨s1 _ _ upd_same, ?_⟩
        have good : okTab isBox 3 (.dict kvs) = some kvs := if_pos ⟨by omega, hall⟩
        have sA : Same H (upd H1 p (.dK vs)) := fun b o hb => by
          by_cases e : b = p
          · subst e
            rw [hp] at hb
            rw [upd_same]
            exact hb
          · rw [upd_ne e]
            refine s1 b o ?_
            rw [upd_ne e]
            exact hb
        have hpA : upd H1 p (.dK vs) p = some (.dK vs) := upd_same
        revert sA hpA
        generalize upd H1 p (.dK vs) = H2
        intro sA hpA
        refine ⟨_, rfl, tyV_dK hpA, p, vs, rfl, rfl, .inl hpA, fun q hq => ?_⟩
        have sB : Same H2 (upd H2 q (keysO q p)) := Same.new hq
        refine ⟨q, p, vs, kvs.map (·.1), rfl, upd_same, .inl (sB _ _ hpA), hkv.keys, by rw [List.length_map]; omega, fun ys l hperm hsort hl => ?_⟩
        have sC := sB.trans (Same.new (o := .lst (ys.map V.str)) hl)
        have hlC : upd (upd H2 q (keysO q p)) l (.lst (ys.map V.str)) l = some (.lst (ys.map V.str)) := upd_same
        revert sC hlC
        generalize upd (upd H2 q (keysO q p)) l (.lst (ys.map V.str)) = H3
        intro sC hlC
        refine ⟨l, rfl, ⟨_, .inl (.inl hlC)⟩, fun D hD => ?_⟩
        have hnd' : ys.Nodup := hperm.nodup_iff.mpr hnd
        have hyl : ys.length = kvs.length := by rw [hperm.length_eq, List.length_map]
        have hDS : Same H3 (upd H3 D (.dK [])) := Same.new hD
        refine dc_it (walk_list (xs := ys.map V.str)) (fun i H' => H' D = some (.dK ((ys.take i).map fun y => (Sum.inr y, (valV vs (.inr y)).getD .non))) ∧ Same H3 H') ⟨upd_same, hDS⟩ (fun i H' _ q => .inl (.inl (q.2 _ _ hlC))) ?_ ?_
        · rintro i x H5 H4 hi ⟨hD4, s4⟩ ⟨rfl, hx⟩
          have hi' : i < ys.length := by rw [List.length_map] at hi; exact hi
          have hyi : ys[i]? = some ys[i] := List.getElem?_eq_getElem hi'
          obtain rfl : x = .str ys[i] := by
            rw [List.getElem?_map, hyi] at hx
            exact (Option.some.inj hx).symm
          obtain ⟨v, hv1, hv2⟩ := hkv.val ys[i] (hperm.mem_iff.mp (List.mem_of_getElem? hyi))
          have hp4 : H4 p = some (.dK vs) := s4 _ _ (sC _ _ hpA)
          refine ⟨rfl, ?_⟩
          refine ⟨_, rfl, _, rfl, _, rfl, p, v, rfl, by rw [← hv1]; exact dget_known hp4, _, .inr ys[i], rfl, hD4, lt_sz (by rw [List.length_map, List.length_take]; omega), ?_, fun b o hb => ?_⟩
          · rw [upd_same, putK_new]
            · rw [TS.take_one hyi, List.map_append, List.map_cons, List.map_nil, hv1]
              rfl
            · have : ∀ l : List Str, ys[i] ∉ l → valV (l.map fun y => ((Sum.inr y : Key), (valV vs (.inr y)).getD .non)) (.inr ys[i]) = none := by
                intro l
                induction l with
                | nil => intro _; rfl
                | cons z r ih =>
                  intro hz
                  rw [List.mem_cons, not_or] at hz
                  rw [List.map_cons, valV_neg (fun e => hz.1 (Sum.inr.inj e).symm)]
                  exact ih hz.2
              exact this _ (nodup_take hnd' hyi)
          · have : b ≠ D := fun e => by rw [e, hD] at hb; cases hb
            rw [upd_ne this]
            exact s4 b o hb
        · rintro H4 ⟨hD4, s4⟩
          rw [List.length_map, List.take_length] at hD4
          have sall : Same H H4 := sA.trans (sC.trans s4)
          refine k1 kvs good D H4 _ (ys.map fun y => (y, lk kvs y)) sall ?_ hD4 ?_ ?_ ?_
          · exact (sA.trans sC).free hD
          · have := hperm.map (fun y => (y, lk kvs y))
            rw [lk_self hnd] at this
            exact this
          · rw [List.map_map]
            have : ((fun x : Str × PyData => x.1) ∘ fun y => (y, lk kvs y)) = id := by funext y; rfl
            rw [this, List.map_id]
            exact hsort
          · have : ∀ l : List Str, (∀ y ∈ l, y ∈ kvs.map (·.1)) → KvsR K H4 (l.map fun y => ((Sum.inr y : Key), (valV vs (.inr y)).getD .non)) (l.map fun y => (y, lk kvs y)) := by
              intro l
              induction l with
              | nil => intro _; exact trivial
              | cons z r ih =>
                intro hz
                obtain ⟨v, hv1, hv2⟩ := hkv.val z (hz z List.mem_cons_self)
                refine ⟨rfl, ?_, ih fun y hy => hz y (List.mem_cons_of_mem _ hy)⟩
                show Dp K H4 ((valV vs (.inr z)).getD .non) _
                rw [hv1]
                exact hv2.mono sall
            exact this ys fun y hy => hperm.mem_iff.mp hy
def spInputs (K : PySem.W.Frag) (CI : Addr) : Sp := fun vs H Q X => ∃ v d, vs = [v] ∧ Dp K H v d ∧ small d = true ∧ (areWords 3 d = true → Q v H) ∧ (areWords 3 d = false → ∀ H' dd, Same H H' → XProg K H' dd "inputs" [] → X (.ref CI) (some dd) H')
theorem sc_checked_inputs : FnScope ["value"] ["value"] (defScope s_checked_inputs) := ⟨rfl, rfl, rfl, by decide +kernel, rfl, by decide +kernel, by decide +kernel⟩
theorem ok_checked_inputs {f : Addr} {fd : FuncData} (F : Fun K "checked_inputs" "checked_inputs" s_checked_inputs f fd) (T : TxtC P w K mg pS CI) (c_are_words : Cal P w K mg base CX0 2 "are_words" ["value", "most"] (spAreWords K)) : FnOk P w K mg base (L2.CX P w) 3 f fd ["value"] (spInputs K CI) := by
  refine F.okX sc_checked_inputs (fun vs H Q E h => ?_) (fun cdv A outer s H vs Q E hr h => ?_)
  · obtain ⟨v, a, rfl, _⟩ := h
    rfl
  · obtain ⟨v, d, rfl, hd, hs, k1, k2⟩ := h
    refine ⟨_, (pss_cons (ps_if (pt_not (pt_val (pe_cal c_are_words (hr.mono (by omega)) rfl pass0 (pa_cons (pv 0) (pa_cons pe_int pa_nil))))) (pss_one (ps_raise rfl (takes_of rfl rfl rfl rfl) (pmk_x T.mk_InvalidProgram hr rfl T.g_InvalidProgram T.k_InvalidProgram T.r_InvalidProgram (pa_cons pe_str (pa_cons (pe_tup pa_nil) pa_nil))))) pss_nil)
      (pss_one (ps_ret (pv 0)))), ?_⟩
    refine ⟨_, rfl, v, d, 3, rfl, hd, hs, by decide, _, rfl, ?_⟩
    by_cases c : areWords 3 d = true
    · rw [c]
      exact ifF rfl ⟨_, rfl, k1 c⟩
    · have c := Bool.eq_false_iff.mpr c
      rw [c]
      refine ifT rfl ⟨sz_lit (by decide), fun p hp => ⟨rfl, fun dd hdd => ?_⟩⟩
      refine k2 c _ dd ((Same.new hp).trans (Same.new hdd)) ⟨p, upd_same, ?_⟩
      exact SqT.mono (.inl (.inl upd_same)) (Same.new hdd)
end
end Op
namespace Op
open PySem L2 PyProof.Rows
/-! ### rows that were checked: their form -/
def notList (d : PyData) : Bool := !isList d
mutual
/-- no list in it -/
def noL : PyData → Bool
  | .list _ => false
  | .tuple xs => noLs xs
  | _ => true
def noLs : List PyData → Bool
  | [] => true
  | x :: r => noL x && noLs r
end
theorem noLs_mem : ∀ {ds : List PyData}, noLs ds = true ↔ ∀ d ∈ ds, noL d = true
  | [] => by
    unfold noLs
    exact ⟨fun _ d h => (List.not_mem_nil h).elim, fun _ => rfl⟩
  | x :: r => by
    unfold noLs
    rw [Bool.and_eq_true_iff, noLs_mem (ds := r)]
    constructor
    · rintro ⟨h1, h2⟩ d hd
      rcases List.mem_cons.mp hd with rfl | hd
      · exact h1
      · exact h2 d hd
    · intro h
      exact ⟨h x List.mem_cons_self, fun d hd => h d (List.mem_cons_of_mem _ hd)⟩
theorem noL_word {d : PyData} (h : isWord d = true) : noL d = true := by
  cases d with
  | str _ => unfold noL; rfl
  | _ => cases h
theorem noL_words {m : Int} {d : PyData} (h : areWords m d = true) : noL d = true := by
  obtain ⟨zs, rfl, _⟩ := aw_tup h
  unfold noL
  refine noLs_mem.mpr fun d hd => ?_
  obtain ⟨z, _, rfl⟩ := List.mem_map.mp hd
  unfold noL
  rfl
def rowOk (rec : List PyData → Prop) : PyData → Prop
  | .tuple (.str kind :: parts) => parts.length ≤ 4 ∧ (kind = "both" → ∃ ds, parts = [.tuple ds] ∧ ds ≠ []) ∧ (kind ≠ "both" → parts = parts.filter notList ++ parts.filter isList ∧ ∀ d ∈ parts, isList d = false → noL d = true) ∧ (∀ d ∈ innerL kind parts, isList d = true ∧ rec (listOf d))
  | _ => False
def rowsOk : Nat → List PyData → Prop
  | 0, _ => False
  | n + 1, ds => ∀ d ∈ ds, rowOk (rowsOk n) d
/-- a text whose signs b stand at its end -/
def endB (l : List Nat) : Bool := decide (l = l.filter (fun c => !decide (c = 98)) ++ l.filter (fun c => decide (c = 98)))
theorem shapes_end : ∀ {kind sh : Str}, shapes.lookup kind = some sh → kind ≠ "both" → endB sh.cps.toList = true ∧ (116 ∉ sh.cps.toList) := by
  have key : ∀ (l : List (Str × Str)) (kind sh : Str), l.all (fun p => decide (p.1 = "both") || (endB p.2.cps.toList && decide (116 ∉ p.2.cps.toList))) = true → l.lookup kind = some sh → kind ≠ "both" → endB sh.cps.toList = true ∧ (116 ∉ sh.cps.toList) := by
    intro l
    induction l with
    | nil => intro kind sh _ h; cases h
    | cons p r ih =>
      intro kind sh ha h hk
      obtain ⟨a, b⟩ := p
      obtain ⟨h1, h2⟩ := Bool.and_eq_true_iff.mp ha
      rw [List.lookup_cons] at h
      cases q : kind == a with
      | true =>
        rw [q] at h
        obtain rfl := Option.some.inj h
        have e : kind = a := by simpa using q
        rcases Bool.or_eq_true_iff.mp h1 with h1 | h1
        · exact absurd (e.trans (of_decide_eq_true h1)) hk
        · obtain ⟨h3, h4⟩ := Bool.and_eq_true_iff.mp h1
          exact ⟨h3, of_decide_eq_true h4⟩
      | false =>
        rw [q] at h
        exact ih kind sh h2 h hk
  intro kind sh h hk
  exact key shapes kind sh (by decide +kernel) h hk
theorem pf_isList {E : Env0} {ch : Nat} {d : PyData} (h : partFits E ⟨#[ch]⟩ d = true) (n : ch ≠ 116) : isList d = decide (ch = 98) := by
  by_cases e : ch = 98
  · subst e
    rw [decide_eq_true rfl]
    exact h
  · rw [decide_eq_false e]
    have sb : ¬ (⟨#[ch]⟩ : Str) = "b" := fun z => e (by
      have z : (⟨#[ch]⟩ : Str) = ⟨#[98]⟩ := z
      simpa using z)
    have st : ¬ (⟨#[ch]⟩ : Str) = "t" := fun z => n (by
      have z : (⟨#[ch]⟩ : Str) = ⟨#[116]⟩ := z
      simpa using z)
    by_cases em : (⟨#[ch]⟩ : Str) = "m" ∨ (⟨#[ch]⟩ : Str) = "v"
    · unfold partFits at h
      rw [if_neg (by rcases em with e | e <;> (rw [e]; decide +kernel)), if_neg (by rcases em with e | e <;> (rw [e]; decide +kernel)), if_neg (by rcases em with e | e <;> (rw [e]; decide +kernel)), if_pos em] at h
      cases d with
      | tuple _ => rfl
      | _ => cases h
    · have := pf_word h ⟨em, sb, st⟩
      cases d with
      | str _ => rfl
      | _ => cases this
theorem pf_noL {E : Env0} {ch : Nat} {d : PyData} (h : partFits E ⟨#[ch]⟩ d = true) (n : ch ≠ 116) (hl : isList d = false) : noL d = true := by
  have n2 : ch ≠ 98 := fun e => by
    rw [pf_isList h n, decide_eq_true e] at hl
    cases hl
  have sb : ¬ (⟨#[ch]⟩ : Str) = "b" := fun z => n2 (by
    have z : (⟨#[ch]⟩ : Str) = ⟨#[98]⟩ := z
    simpa using z)
  have st : ¬ (⟨#[ch]⟩ : Str) = "t" := fun z => n (by
    have z : (⟨#[ch]⟩ : Str) = ⟨#[116]⟩ := z
    simpa using z)
  by_cases em : (⟨#[ch]⟩ : Str) = "m" ∨ (⟨#[ch]⟩ : Str) = "v"
  · unfold partFits at h
    rw [if_neg (by rcases em with e | e <;> (rw [e]; decide +kernel)), if_neg (by rcases em with e | e <;> (rw [e]; decide +kernel)), if_neg (by rcases em with e | e <;> (rw [e]; decide +kernel)), if_pos em] at h
    exact noL_words h
  · exact noL_word (pf_word h ⟨em, sb, st⟩)
theorem zip_end {α : Type} (f : Nat → Bool) (g : α → Bool) : ∀ (l : List Nat) (ps : List α), l.length = ps.length → (∀ (i c : Nat) (d : α), l[i]? = some c → ps[i]? = some d → g d = f c) → l = l.filter (fun c => !f c) ++ l.filter f → ps = ps.filter (fun d => !g d) ++ ps.filter g
  | [], [], _, _, _ => rfl
  | c :: l, d :: ps, hl, h, e => by
    have h0 := h 0 c d rfl rfl
    have hr : ∀ (i c' : Nat) (d' : α), l[i]? = some c' → ps[i]? = some d' → g d' = f c' := fun i c' d' h1 h2 => h (i + 1) c' d' h1 h2
    cases q : f c with
    | false =>
      have e' : l = l.filter (fun c => !f c) ++ l.filter f := by
        rw [List.filter_cons_of_pos (by rw [q]; rfl), List.filter_cons_of_neg (by rw [q]; exact Bool.false_ne_true), List.cons_append] at e
        exact (List.cons.inj e).2
      have ih := zip_end f g l ps (Nat.succ.inj hl) hr e'
      rw [List.filter_cons_of_pos (by rw [h0, q]; rfl), List.filter_cons_of_neg (by rw [h0, q]; exact Bool.false_ne_true), List.cons_append]
      exact congrArg (d :: ·) ih
    | true =>
      have all : ∀ c' ∈ l, f c' = true := by
        intro c' hc'
        cases q' : f c' with
        | true => rfl
        | false =>
          exfalso
          rw [List.filter_cons_of_neg (by rw [q]; exact Bool.false_ne_true), List.filter_cons_of_pos q] at e
          cases hn : l.filter (fun c => !f c) with
          | nil =>
            have := List.filter_eq_nil_iff.mp hn c' hc'
            rw [q'] at this
            exact this rfl
          | cons z r =>
            rw [hn, List.cons_append] at e
            have ez := (List.cons.inj e).1
            have hz : z ∈ l.filter (fun c => !f c) := by rw [hn]; exact List.mem_cons_self
            have := (List.mem_filter.mp hz).2
            rw [← ez, q] at this
            cases this
      have e' : l = l.filter (fun c => !f c) ++ l.filter f := by
        rw [List.filter_eq_self.mpr all, List.filter_eq_nil_iff.mpr fun c' hc' => by rw [all c' hc']; exact Bool.false_ne_true]
        rfl
      have ih := zip_end f g l ps (Nat.succ.inj hl) hr e'
      have gall : ∀ d' ∈ ps, g d' = true := by
        intro d' hd'
        obtain ⟨i, hi⟩ := List.getElem?_of_mem hd'
        have hi' := (List.getElem?_eq_some_iff.mp hi).1
        have hl' : l.length = ps.length := Nat.succ.inj hl
        have h1 : l[i]? = some (l[i]'(by omega)) := List.getElem?_eq_getElem _
        rw [hr i _ d' h1 hi]
        exact all _ (List.mem_of_getElem? h1)
      rw [List.filter_cons_of_neg (by rw [h0, q]; exact Bool.false_ne_true), List.filter_cons_of_pos (by rw [h0, q])]
      rw [List.filter_eq_self.mpr gall, List.filter_eq_nil_iff.mpr fun d' hd' => by rw [gall d' hd']; exact Bool.false_ne_true]
      rfl
theorem rowOk_of {rec : Bool → List PyData → List Int → Chk → Out} {R : List PyData → Prop} {E : Env0} {depth : Int} (hrec : depth < 5 → ∀ lp ds pre c c', rec lp ds pre c = .ok c' → R ds) {lp : Bool} {pre : List Int} {d : PyData} {i : Nat} {c c' : Chk} (h : chkRow rec E depth lp pre d i c = .ok c') : rowOk R d := by
  unfold chkRow at h
  split at h
  · rename_i kind parts
    split at h
    · rename_i hf
      obtain ⟨hs, ⟨hl, hF⟩, _⟩ := fits_shape hf
      have hsl := shapes_len hs
      refine ⟨by rw [← hl]; exact hsl, fun e => ?_, fun e => ?_, fun d hd => ⟨inner_lists_all hf d hd, ?_⟩⟩
      · subst e
        have hl1 : parts.length = 1 := hl.symm.trans (by decide +kernel)
        match parts, hl1, hF with
        | [d], _, hF =>
          have hf : isBranches d = true := hF 0 116 d (by decide +kernel) rfl
          cases d with
          | tuple ds =>
            refine ⟨ds, rfl, fun z => ?_⟩
            subst z
            cases hf
          | _ => cases hf
      · obtain ⟨h1, h2⟩ := shapes_end hs e
        refine And.intro (b := ∀ d ∈ parts, isList d = false → noL d = true) ?_ fun d hd hl' => ?_
        rotate_left
        · obtain ⟨i, hi⟩ := List.getElem?_of_mem hd
          have hi' := (List.getElem?_eq_some_iff.mp hi).1
          have h3 : (shapeOf kind).cps[i]? = some ((shapeOf kind).cps[i]'(by omega)) := Array.getElem?_eq_getElem _
          refine pf_noL (hF i _ d h3 hi) (fun z => h2 ?_) hl'
          rw [← z]
          exact List.mem_of_getElem? (i := i) (by rw [Array.getElem?_toList]; exact h3)
        refine zip_end (fun c => decide (c = 98)) isList (shapeOf kind).cps.toList parts (by rw [Array.length_toList]; exact hl) (fun i ch d h3 h4 => ?_) (of_decide_eq_true h1)
        refine pf_isList (hF i ch d (by rw [← Array.getElem?_toList]; exact h3) h4) fun z => h2 ?_
        rw [← z]
        exact List.mem_of_getElem? h3
      · have hdep : depth < 5 := Decidable.byContradiction fun z => by
          rw [inner_deep hf (by omega)] at hd
          cases hd
        have key : ∀ (l : List PyData) (j : Nat) (c : Chk), chkIn (rec (inside lp kind)) (pre ++ [(i : Int)]) l j c = .ok c' → ∀ d ∈ l, R (listOf d) := by
          intro l
          induction l with
          | nil => intro j c _ d hd; cases hd
          | cons x r ih =>
            intro j c h d hd
            rw [chkIn_cons] at h
            cases q : rec (inside lp kind) (listOf x) (pre ++ [(i : Int)] ++ [(j : Int)]) c with
            | error p => rw [q] at h; cases h
            | ok c1 =>
              rw [q] at h
              rcases List.mem_cons.mp hd with rfl | hd
              · exact hrec hdep _ _ _ _ _ q
              · exact ih _ _ h d hd
        exact key _ _ _ h d hd
    · cases h
  · cases h
theorem rowsOk_of (E : Env0) : ∀ (n : Nat) (lp : Bool) (ds : List PyData) (pre : List Int) (c c' : Chk), chkL E n lp ds pre c = .ok c' → 1 ≤ n → rowsOk n ds
  | 0, _, _, _, _, _, _, h => absurd h (by omega)
  | n + 1, lp, ds, pre, c, c', h, _ => by
    have key : ∀ (l : List PyData) (j : Nat) (c : Chk), chkRows (chkRow (chkL E n) E (5 - (n : Int)) lp pre) l j c = .ok c' → ∀ d ∈ l, rowOk (rowsOk n) d := by
      intro l
      induction l with
      | nil => intro j c _ d hd; cases hd
      | cons x r ih =>
        intro j c h d hd
        rw [chkRows_cons] at h
        cases q : chkRow (chkL E n) E (5 - (n : Int)) lp pre x j c with
        | error p => rw [q] at h; cases h
        | ok c1 =>
          rw [q] at h
          rcases List.mem_cons.mp hd with rfl | hd
          · exact rowOk_of (fun hdep lp ds pre c c' h => rowsOk_of E n lp ds pre c c' h (by omega)) q
          · exact ih _ _ h d hd
    exact key ds 0 c h
end Op
namespace L2
open PySem PySem.Spec PyProof.Rows
/-! ### a heap without some of its lists -/
def LstAt (H : Hp) (b : Addr) : Prop := ∃ xs, H b = some (.lst xs)
open Classical in
noncomputable def cutH (S : Addr → Prop) (H : Hp) : Hp := fun b => if S b then none else H b
section
variable {S S' : Addr → Prop} {H H' : Hp} {K : PySem.W.Frag}
theorem cut_not {b : Addr} (h : ¬ S b) : cutH S H b = H b := if_neg h
theorem cut_same (s : Same H H') : Same (cutH S H) (cutH S H') := fun b o h => by
  unfold cutH at h ⊢
  split at h
  · cases h
  · rename_i n
    rw [if_neg n]
    exact s b o h
theorem cut_sub (s : ∀ b, S b → S' b) : Same (cutH S' H) (cutH S H) := fun b o h => by
  unfold cutH at h ⊢
  split at h
  · cases h
  · rename_i n
    rw [if_neg fun z => n (s b z)]
    exact h
theorem cut_all : Same (cutH S H) H := fun b o h => by
  unfold cutH at h
  split at h
  · cases h
  · exact h
theorem cut_upd {D : Addr} {o : HO} (h : S D) : cutH S (upd H D o) = cutH S H := by
  funext b
  unfold cutH
  by_cases e : S b
  · rw [if_pos e, if_pos e]
  · rw [if_neg e, if_neg e, upd_ne (fun q => e (by rw [q]; exact h))]
theorem LstAt.mono {b : Addr} (h : LstAt H b) (s : Same H H') : LstAt H' b := let ⟨xs, e⟩ := h; ⟨xs, s _ _ e⟩
theorem SqT.cut {a : Addr} {xs : List V} (hs : ∀ b, S b → LstAt H b) (h : SqT K H a xs) : SqT K (cutH S H) a xs := by
  have n : ∀ o, H a = some o → (∀ ys, o ≠ .lst ys) → ¬ S a := fun o e ne z => by
    obtain ⟨ys, q⟩ := hs a z
    rw [e] at q
    exact ne ys (Option.some.inj q)
  rcases h with (h | ⟨o, h⟩) | h
  · exact .inl (.inl (by rw [cut_not (n _ h nofun)]; exact h))
  · exact .inl (.inr ⟨o, by rw [cut_not (n _ h nofun)]; exact h⟩)
  · exact .inr h
mutual
theorem noL_cut (hs : ∀ b, S b → LstAt H b) : ∀ {v : V} {d : PyData}, Dp K H v d → Op.noL d = true → Dp K (cutH S H) v d
  | _, _, .non, _ => .non
  | _, _, .bl b, _ => .bl b
  | _, _, .int i, _ => .int i
  | _, _, .str x, _ => .str x
  | _, _, .lst h a, n => by unfold Op.noL at n; cases n
  | _, _, .tup h a, n => .tup (h.cut hs) (noLs_cut hs a (by unfold Op.noL at n; exact n))
theorem noLs_cut (hs : ∀ b, S b → LstAt H b) : ∀ {vs : List V} {ds : List PyData}, DpAll K H vs ds → Op.noLs ds = true → DpAll K (cutH S H) vs ds
  | _, _, .nil, _ => .nil
  | _, _, .cons h a, n => .cons (noL_cut hs h (by unfold Op.noLs at n; exact (Bool.and_eq_true_iff.mp n).1)) (noLs_cut hs a (by unfold Op.noLs at n; exact (Bool.and_eq_true_iff.mp n).2))
end
end
end L2
namespace Op
open PySem L2 PyProof.Rows
section
variable {P : Program} {w : World} {K : PySem.W.Frag} {mg : Str → Option Value} {base : Heap}
def spWith (K : PySem.W.Frag) : Sp := fun vs H Q _ => ∃ (S : Addr → Prop) (t l : Addr) (ws : List V) (kind : Str) (parts : List PyData), vs = [.ref t, .ref l] ∧ Dp K H (.ref t) (.tuple (.str kind :: parts)) ∧ H l = some (.lst ws) ∧ (∀ b, S b → LstAt H b) ∧ DpAll K (cutH S H) ws (innerL kind parts) ∧ parts.length ≤ 4 ∧ (innerL kind parts).length ≤ 40000 ∧
  (kind = "both" → ∃ ds, parts = [.tuple ds] ∧ ds ≠ []) ∧ (kind ≠ "both" → parts = parts.filter notList ++ parts.filter isList ∧ ∀ d ∈ parts, isList d = false → noL d = true) ∧ ∀ v H', Same H H' → Dp K (cutH S H') v (.tuple (.str kind :: parts)) → Q v H'
theorem sc_with_lists : FnScope ["row", "lists", "parts", "part"] ["row", "lists"] (defScope s_with_lists) := ⟨rfl, rfl, rfl, by decide +kernel, rfl, by decide +kernel, by decide +kernel⟩
theorem ok_with_lists {f : Addr} {fd : FuncData} (F : Fun K "with_lists" "with_lists" s_with_lists f fd) (T : Txt mg) : FnOk P w K mg base CX0 1 f fd ["row", "lists"] (spWith K) := by
  refine F.ok sc_with_lists (fun vs H Q E h => ?_) (fun cdv A outer s H vs Q E hr h => ?_)
  · obtain ⟨S, t, l, ws, kind, parts, rfl, _⟩ := h
    rfl
  · obtain ⟨S, t, l, ws, kind, parts, rfl, hd, hl, hS, hw, hpl, hil, hb, hnb, k⟩ := h
    cases hd with
    | @tup _ xs _ hq ha =>
    cases ha with
    | @cons v0 vr d0 dr h0 hr0 =>
    cases h0 with
    | str kind =>
    have hvl := hr0.len
    have hwl := hw.len
    have nS : ∀ b, H b = none → ¬ S b := fun b hb z => by
      obtain ⟨ys, q⟩ := hS b z
      rw [hb] at q
      cases q
    refine ⟨_, (pss_cons (ps_if (pt_cmpR op_eq (pe_ix ix_tup (pv 0) pe_int (fun _ _ => rfl)) pe_str (nomark _)) (pss_one (ps_ret (pe_tup (pa_cons pe_str (pa_cons (pe_callTy call_tuple_of (by rfl) T.b_tuple (by decide +kernel) (pa_cons (pv 1) pa_nil)) pa_nil))))) pss_nil)
      (pss_cons (ps_setLc (i := 2) (own := [("part", 3)]) (g := gName 3)  rfl sc_with_lists.nd rfl rfl (sw_true rfl rfl rfl (by decide +kernel)) (pi_tup (pv 0)) (blkOk_by (own := [("part", 3)]) (N := ["row", "lists", "parts", "part"]) (sc := defScope s_with_lists) (by decide +kernel)) (fun _ _ _ _ _ => (pg_name (i := 3) sc_with_lists.nd rfl (.inl rfl))) (fun _ _ _ _ _ => (pts_one (pt_not (pt_val (pe_callB (id := "isinstance") (r := rIsi K) call_isi (by rfl) T.b_isinstance (by decide +kernel) (pa_cons (pv 3) (pa_cons (pe_bltn (v := .ty "list") (by rfl) T.b_list (by decide +kernel) rfl) pa_nil))))))) (fun _ _ _ _ _ => (pv 3)))
      (pss_one (ps_ret (pe_callTy call_tuple_of (by rfl) T.b_tuple (by decide +kernel) (pa_cons (pe_op op_cat (pv 2) (pv 1)) pa_nil)))))), ?_⟩
    refine ⟨_, rfl, t, _, 0, _, rfl, rfl, hq, atI_zero _ _, rfl, _, rfl, ?_⟩
    rw [dec_strV]
    by_cases e1 : kind = "both"
    · obtain ⟨ds, rfl, _⟩ := hb e1
      refine ifT (decide_eq_true e1) ?_
      have hin : innerL kind [.tuple ds] = ds := by unfold innerL; rw [if_pos e1]
      rw [hin] at hw
      refine ⟨_, rfl, l, ws, rfl, .inl ⟨.inl (.inl hl), fun p hp => ⟨sz2 _ _, fun q hq' => ?_⟩⟩⟩
      have s1 : Same H (upd H p (.tup ws)) := Same.new hp
      have s2 : Same (upd H p (.tup ws)) (upd (upd H p (.tup ws)) q (.tup [.str "both", .ref p])) := Same.new hq'
      have nq : ¬ S q := nS q (s1.free hq')
      refine k (.ref q) _ (s1.trans s2) (.tup (.inl (.inl (by rw [cut_not nq]; exact upd_same))) ?_)
      rw [e1]
      exact .cons (.str _) (.cons (.tup (.inl (.inl (by rw [cut_not (nS p hp)]; exact s2 _ _ upd_same))) (DpAll.mono (cut_same (s1.trans s2)) hw)) .nil)
    · refine ifF (decide_eq_false e1) ⟨_, rfl, t, rfl, ⟨_, hq⟩, fun D hD => ?_⟩
      have hDl : D ≠ l := fun e => by rw [e, hl] at hD; cases hD
      have hin : innerL kind parts = parts.filter isList := by unfold innerL; rw [if_neg e1]
      refine lc_it (walk_tup (xs := .str kind :: vr)) (fun i H' => ∃ acc, H' D = some (.lst acc) ∧ acc.length ≤ i ∧ DpAll K H acc (((.str kind :: parts).take i).filter notList) ∧ Same H H') ⟨[], upd_same, Nat.le_refl _, .nil, Same.new hD⟩ (fun i H' _ p => hq.mono (let ⟨_, _, _, _, s⟩ := p; s)) ?_ ?_
      · rintro i x H1 H2 hi ⟨acc, hacc, hal, hdp, sm⟩ ⟨rfl, hx⟩
        obtain ⟨d, hd1, hd2⟩ := DpAll.get (.cons (.str kind) hr0) hx
        refine ⟨rfl, _, rfl, x, _, _, _, _, rfl, .ty _, ty_dp (hd2.mono sm), kit_list d, _, rfl, ?_⟩
        have hi' : i < 2000 := by rw [List.length_cons] at hi; omega
        have e2 : ((.str kind :: parts).take (i + 1)).filter notList = ((.str kind :: parts).take i).filter notList ++ [d].filter notList := by
          rw [TS.take_one hd1, List.filter_append]
        by_cases q : isList d = true
        · rw [q]
          have q' : ¬ notList d = true := by unfold notList; rw [q]; exact Bool.false_ne_true
          refine ifF rfl ⟨acc, hacc, by omega, ?_, sm⟩
          rw [e2, List.filter_cons_of_neg q', List.filter_nil, List.append_nil]
          exact hdp
        · rw [Bool.eq_false_iff.mpr q]
          have q' : notList d = true := by unfold notList; rw [Bool.eq_false_iff.mpr q]; rfl
          refine ifT rfl ⟨_, rfl, acc, hacc, lt_sz (by omega), acc ++ [x], upd_same, by rw [List.length_append]; show acc.length + 1 ≤ _; omega, ?_, fun b o hb => ?_⟩
          · rw [e2, List.filter_cons_of_pos q', List.filter_nil]
            exact hdp.append (.cons hd2 .nil)
          · rw [upd_ne (ne_of_none hb hD)]
            exact sm b o hb
      · rintro H1 ⟨acc, hacc, hal, hdp, sm⟩
        rw [List.take_of_length_le (by rw [List.length_cons, List.length_cons]; omega)] at hdp
        rw [List.length_cons] at hal
        refine ⟨_, rfl, _, rfl, D, l, acc, ws, rfl, rfl, hacc, sm _ _ hl, sz_lit (by omega), fun p hp => ?_⟩
        refine ⟨p, _, rfl, .inl ⟨.inl (.inl upd_same), fun q hq' => ?_⟩⟩
        have s1 : Same H1 (upd H1 p (.lst (acc ++ ws))) := Same.new hp
        have s2 : Same (upd H1 p (.lst (acc ++ ws))) (upd (upd H1 p (.lst (acc ++ ws))) q (.tup (acc ++ ws))) := Same.new hq'
        have nq : ¬ S q := nS q ((sm.trans s1).free hq')
        refine k (.ref q) _ (sm.trans (s1.trans s2)) (.tup (.inl (.inl (by rw [cut_not nq]; exact upd_same))) ?_)
        have hcat : DpAll K (cutH S H) (acc ++ ws) (.str kind :: parts) := by
          have h1 : DpAll K (cutH S H) acc ((.str kind :: parts).filter notList) := noLs_cut hS hdp (noLs_mem.mpr fun d hd => by
            obtain ⟨m1, m2⟩ := List.mem_filter.mp hd
            rcases List.mem_cons.mp m1 with rfl | m1
            · unfold noL; rfl
            · exact (hnb e1).2 d m1 (by unfold notList at m2; cases q : isList d with | false => rfl | true => rw [q] at m2; cases m2))
          have := h1.append hw
          rw [hin, List.filter_cons_of_pos (by rfl : notList (.str kind) = true), List.cons_append, ← (hnb e1).1] at this
          exact this
        exact DpAll.mono (cut_same (sm.trans (s1.trans s2))) hcat
/-! ### copies -/
theorem wIn_mem {d : PyData} : ∀ {l : List PyData}, d ∈ l → wts (listOf d) ≤ wIn l
  | x :: r, h => by
    show _ ≤ wts (listOf x) + wIn r
    rcases List.mem_cons.mp h with rfl | h
    · omega
    · have := wIn_mem h
      omega
theorem inner_len (kind : Str) (parts : List PyData) : (innerL kind parts).length ≤ wts parts := by
  unfold innerL
  split
  · cases parts with
    | nil => exact Nat.zero_le _
    | cons d r =>
      rw [wts_cons]
      cases d with
      | tuple ds =>
        have := wts_len ds
        rw [wt_tuple]
        show ds.length ≤ _
        omega
      | _ => exact Nat.zero_le _
  · have h1 := List.length_filter_le isList parts
    have h2 := wts_len parts
    omega
def spCRow (K : PySem.W.Frag) (n : Nat) : Sp := fun vs H Q _ => ∃ (v : V) (d : PyData), vs = [v] ∧ Dp K H v d ∧ rowOk (rowsOk n) d ∧ wt d ≤ 30000 ∧ ∀ v' H', Same H H' → Dp K (cutH (LstAt H) H') v' d → Q v' H'
def spCRows (K : PySem.W.Frag) (n : Nat) : Sp := fun vs H Q _ => ∃ (v : V) (ds : List PyData), vs = [v] ∧ Dp K H v (.list ds) ∧ rowsOk n ds ∧ wts ds ≤ 30000 ∧ ∀ p xs H', Same H H' → H p = none → H' p = some (.lst xs) → DpAll K (cutH (fun b => LstAt H b ∨ b = p) H') xs ds → Q (.ref p) H'
theorem sc_copy_rows : FnScope ["rows", "row"] ["rows"] (defScope s_copy_rows) := ⟨rfl, rfl, rfl, by decide +kernel, rfl, by decide +kernel, by decide +kernel⟩
theorem ok_copy_rows {f : Addr} {fd : FuncData} {k : Nat} {n : Nat} (F : Fun K "copy_rows" "copy_rows" s_copy_rows f fd) (T : Txt mg) (c_copy_row : Cal P w K mg base CX0 (k + 1) "copy_row" ["row"] (spCRow K n)) : FnOk P w K mg base CX0 (k + 2) f fd ["rows"] (spCRows K (n + 1)) := by
  refine F.ok sc_copy_rows (fun vs H Q E h => ?_) (fun cdv A outer s H vs Q E hr h => ?_)
  · obtain ⟨v, ds, rfl, _⟩ := h
    rfl
  · obtain ⟨v, ds, rfl, hd, hok, hwt, kk⟩ := h
    cases hd with
    | @lst r xs _ hq ha =>
    have hxl := ha.len
    have hwl := wts_len ds
    refine ⟨_, (pss_one (ps_ret (pe_lc (own := [("row", 1)]) (g := gName 1) (tt := tYes) rfl sc_copy_rows.nd (pi_list (pv 0)) (blkOk_by (own := [("row", 1)]) (N := ["rows", "row"]) (sc := defScope s_copy_rows) (by decide +kernel)) (fun _ _ _ _ _ => (pg_name (i := 1) sc_copy_rows.nd rfl (.inl rfl))) (fun _ _ _ _ _ => pts_nil) (fun _ _ _ _ _ => (pe_cal c_copy_row (hr.mono (by omega)) rfl pass0 (pa_cons (pv 1) pa_nil)))))), ?_⟩
    refine ⟨_, rfl, r, rfl, ⟨_, hq⟩, fun D hD => ?_⟩
    refine lc_it (walk_list (xs := xs)) (fun i H' => ∃ acc, H' D = some (.lst acc) ∧ acc.length ≤ i ∧ DpAll K (cutH (fun b => LstAt H b ∨ b = D) H') acc (ds.take i) ∧ Same H H') ⟨[], upd_same, Nat.le_refl _, .nil, Same.new hD⟩ (fun i H' _ p => hq.mono (let ⟨_, _, _, _, s⟩ := p; s)) ?_ ?_
    · rintro i x H0' H1 hi ⟨acc, hacc, hal, hdp, sm⟩ ⟨rfl, hx⟩
      obtain ⟨d, hd1, hd2⟩ := ha.get hx
      have hm := List.mem_of_getElem? hd1
      have hwd := wts_mem hm
      refine ⟨rfl, ?_⟩
      refine ⟨_, rfl, x, d, rfl, hd2.mono sm, hok d hm, by omega, fun v' H2 s2 hv' => ?_⟩
      have sub : ∀ b, LstAt H b ∨ b = D → LstAt H1 b := fun b hb => by
        rcases hb with hb | rfl
        · exact hb.mono sm
        · exact ⟨acc, hacc⟩
      refine ⟨acc, s2 _ _ hacc, lt_sz (by omega), acc ++ [v'], upd_same, by rw [List.length_append]; show acc.length + 1 ≤ _; omega, ?_, fun b o hb => ?_⟩
      · rw [cut_upd (.inr rfl), TS.take_one hd1]
        exact (DpAll.mono (cut_same s2) hdp).append (.cons (hv'.mono (cut_sub sub)) .nil)
      · rw [upd_ne (ne_of_none hb hD)]
        exact s2 b o (sm b o hb)
    · rintro H1 ⟨acc, hacc, _, hdp, sm⟩
      rw [List.take_of_length_le (by omega)] at hdp
      exact kk D acc H1 sm hD hacc hdp
theorem sc_copy_row : FnScope ["row", "lists", "rows"] ["row"] (defScope s_copy_row) := ⟨rfl, rfl, rfl, by decide +kernel, rfl, by decide +kernel, by decide +kernel⟩
theorem ok_copy_row {f : Addr} {fd : FuncData} {k : Nat} {n : Nat} (F : Fun K "copy_row" "copy_row" s_copy_row f fd) (T : Txt mg) (c_inner_lists : Cal P w K mg base CX0 1 "inner_lists" ["row"] (spInner K)) (c_with_lists : Cal P w K mg base CX0 1 "with_lists" ["row", "lists"] (spWith K)) (c_copy_rows : Cal P w K mg base CX0 (k + 1) "copy_rows" ["rows"] (spCRows K n)) : FnOk P w K mg base CX0 (k + 2) f fd ["row"] (spCRow K n) := by
  refine F.ok sc_copy_row (fun vs H Q E h => ?_) (fun cdv A outer s H vs Q E hr h => ?_)
  · obtain ⟨v, d, rfl, _⟩ := h
    rfl
  · obtain ⟨v, d, rfl, hd, hok, hwt, kk⟩ := h
    obtain ⟨kind, parts, rfl⟩ : ∃ kind parts, d = .tuple (.str kind :: parts) := by
      unfold rowOk at hok
      split at hok
      · exact ⟨_, _, rfl⟩
      · exact hok.elim
    obtain ⟨hpl, hb, hnb, hin⟩ := hok
    have hwi := wIn_inner kind parts
    rw [wt_tuple, wts_cons] at hwt
    obtain ⟨t, rfl⟩ : ∃ t, v = .ref t := by cases hd with | tup _ _ => exact ⟨_, rfl⟩
    refine ⟨_, (pss_cons (ps_set (i := 1) sc_copy_row.nd rfl (.inl rfl) (pe_cal c_inner_lists (hr.mono (by omega)) rfl pass0 (pa_cons (pv 0) pa_nil)))
      (pss_cons (ps_if (pt_cmpR op_eq (pe_callB call_len_seq (by rfl) T.b_len (by decide +kernel) (pa_cons (pv 1) pa_nil)) pe_int (nomark _)) (pss_one (ps_ret (pv 0))) pss_nil)
      (pss_one (ps_ret (pe_cal c_with_lists (hr.mono (by omega)) rfl pass0 (pa_cons (pv 0) (pa_cons (pe_lc (own := [("rows", 2)]) (g := gName 2) (tt := tYes) rfl sc_copy_row.nd (pi_list (pv 1)) (blkOk_by (own := [("rows", 2)]) (N := ["row", "lists", "rows"]) (sc := defScope s_copy_row) (by decide +kernel)) (fun _ _ _ _ _ => (pg_name (i := 2) sc_copy_row.nd rfl (.inl rfl))) (fun _ _ _ _ _ => pts_nil) (fun _ _ _ _ _ => (pe_cal c_copy_rows (hr.mono (by omega)) rfl pass0 (pa_cons (pv 2) pa_nil)))) pa_nil))))))), ?_⟩
    refine ⟨_, rfl, t, kind, parts, rfl, hd, by omega, fun e => ?_, fun p xs H1 s1 hp hp1 hdp => ?_⟩
    · obtain ⟨ds, e', _⟩ := hb e
      exact ⟨ds, [], e'⟩
    have hxl := hdp.len
    refine ⟨_, rfl, p, xs, rfl, .inl (.inl (.inl hp1)), rfl, _, rfl, ?_⟩
    by_cases e0 : xs.length = 0
    · rw [e0]
      refine ifT rfl ⟨_, rfl, ?_⟩
      have hi0 : innerL kind parts = [] := List.length_eq_zero_iff.mp (by omega)
      have nL : noL (.tuple (.str kind :: parts)) = true := by
        unfold noL
        refine noLs_mem.mpr fun d hd' => ?_
        rcases List.mem_cons.mp hd' with rfl | hd'
        · unfold noL; rfl
        · by_cases e : kind = "both"
          · obtain ⟨ds, rfl, hne⟩ := hb e
            unfold innerL at hi0
            rw [if_pos e] at hi0
            exact absurd hi0 hne
          · refine (hnb e).2 d hd' ?_
            unfold innerL at hi0
            rw [if_neg e] at hi0
            exact Bool.eq_false_iff.mpr (List.filter_eq_nil_iff.mp hi0 d hd')
      exact kk (.ref t) H1 s1 ((noL_cut (S := LstAt H) (fun b h => h) hd nL).mono (cut_same s1))
    · refine ifF (decide_eq_false (by intro z; injection z with z; omega)) ?_
      have hil := inner_len kind parts
      refine ⟨_, rfl, _, rfl, p, rfl, ⟨_, .inl (.inl hp1)⟩, fun D hD => ?_⟩
      refine lc_it (walk_list (xs := xs)) (fun i H' => ∃ acc, H' D = some (.lst acc) ∧ acc.length ≤ i ∧ DpAll K (cutH (fun b => LstAt H b ∨ b = D) H') acc ((innerL kind parts).take i) ∧ Same H1 H') ⟨[], upd_same, Nat.le_refl _, .nil, Same.new hD⟩ (fun i H' _ q => .inl (.inl ((let ⟨_, _, _, _, s⟩ := q; s) _ _ hp1))) ?_ ?_
      · rintro i x H0' H2 hi ⟨acc, hacc, hal, hdpa, sm⟩ ⟨rfl, hx⟩
        obtain ⟨d, hd1, hd2⟩ := hdp.get hx
        have hm := List.mem_of_getElem? hd1
        obtain ⟨hisl, hrok⟩ := hin d hm
        obtain ⟨dl, rfl⟩ : ∃ dl, d = .list dl := by
          cases d with
          | list dl => exact ⟨dl, rfl⟩
          | _ => cases hisl
        have hwl : wts dl ≤ wIn (innerL kind parts) := wIn_mem hm
        refine ⟨rfl, ?_⟩
        refine ⟨_, rfl, x, dl, rfl, hd2.mono (s1.trans sm), hrok, by omega, fun p2 xs2 H3 s3 hp2 hx2 hdp2 => ?_⟩
        have sub : ∀ b, LstAt H b ∨ b = D → LstAt H2 b ∨ b = p2 := fun b hb => by
          rcases hb with hb | rfl
          · exact .inl (hb.mono (s1.trans sm))
          · exact .inl ⟨acc, hacc⟩
        have np2 : ¬ (LstAt H p2 ∨ p2 = D) := fun z => by
          rcases z with z | rfl
          · obtain ⟨ys, q⟩ := z.mono (s1.trans sm)
            rw [hp2] at q
            cases q
          · rw [hacc] at hp2
            cases hp2
        refine ⟨acc, s3 _ _ hacc, lt_sz (by omega), acc ++ [.ref p2], upd_same, by rw [List.length_append]; show acc.length + 1 ≤ _; omega, ?_, fun b o hb => ?_⟩
        · rw [cut_upd (.inr rfl), TS.take_one hd1]
          refine (DpAll.mono (cut_same s3) hdpa).append (.cons (.lst (.inl (.inl (by rw [cut_not np2]; exact hx2))) (DpAll.mono (cut_sub sub) hdp2)) .nil)
        · rw [upd_ne (ne_of_none hb hD)]
          exact s3 b o (sm b o hb)
      · rintro H2 ⟨acc, hacc, _, hdpa, sm⟩
        rw [List.take_of_length_le (by omega)] at hdpa
        exact ⟨LstAt H, t, D, acc, kind, parts, rfl, hd.mono (s1.trans sm), hacc, fun b hb => hb.mono (s1.trans sm), DpAll.mono (cut_sub fun b hb => .inl hb) hdpa, hpl, by omega, hb, hnb, fun v' H' s' hv' => kk v' H' ((s1.trans sm).trans s') hv'⟩
/-- copy_rows and copy_row, by depth -/
theorem ok_copies {f1 f2 : Addr} {fd1 fd2 : FuncData} (F1 : Fun K "copy_rows" "copy_rows" s_copy_rows f1 fd1) (F2 : Fun K "copy_row" "copy_row" s_copy_row f2 fd2) (T : Txt mg) (g1 : mg "copy_rows" = some (.ref f1)) (g2 : mg "copy_row" = some (.ref f2)) (k1 : PySem.W.keepIn K (.ref f1) = true) (k2 : PySem.W.keepIn K (.ref f2) = true)
    (b1 : Binds K fd1 ["rows"] []) (b2 : Binds K fd2 ["row"] []) (c_inner_lists : Cal P w K mg base CX0 1 "inner_lists" ["row"] (spInner K)) (c_with_lists : Cal P w K mg base CX0 1 "with_lists" ["row", "lists"] (spWith K)) : ∀ n : Nat, Cal P w K mg base CX0 (2 * n + 1) "copy_rows" ["rows"] (spCRows K n)
  | 0 => ⟨f1, fd1, g1, k1, b1, F1.ok sc_copy_rows (fun vs H Q E h => by obtain ⟨v, ds, rfl, _⟩ := h; rfl) (fun cdv A outer s H vs Q E hr h => by obtain ⟨v, ds, _, _, hk, _⟩ := h; exact hk.elim)⟩
  | n + 1 => ⟨f1, fd1, g1, k1, b1, ok_copy_rows (k := 2 * n + 1) F1 T ⟨f2, fd2, g2, k2, b2, ok_copy_row (k := 2 * n) F2 T c_inner_lists c_with_lists (ok_copies F1 F2 T g1 g2 k1 k2 b1 b2 c_inner_lists c_with_lists n)⟩⟩
end
end Op
namespace L2
open PySem PySem.Spec PyProof.Rows
/-! ### a class by its name, with the promise of its __init__ -/
def Kcal (P : Program) (w : World) (K : PySem.W.Frag) (mg : Str → Option Value) (base : Heap) (CX : CXT) (k : Nat) (x : Str) (C : Addr) (ps : List Str) (sp : Sp) : Prop :=
  ∃ (f : Addr) (fd : FuncData), Mk K C f ∧ mg x = some (.ref C) ∧ Binds K fd ps [] ∧ FnOk P w K mg base CX k f fd ps sp
theorem pe_kcal {X : Cx} {CX : CXT} {k : Nat} {x : Str} {C : Addr} {ps : List Str} {sp : Sp} {E : XK} {p pos : Pos} {e : Expr} {es : List Expr} {t : TA} (c : Kcal X.prog X.w X.K X.mg X.base CX k x C ps sp) (hr : Room (k + 1) X.A) (hg : Gl X x) (hx : Passes CX X E) (ha : PA X (e :: es) t)
    (hdb : (x == ("__debug__" : Str)) = false := by decide) (he : starEach (e :: es) X.env = (false, eval e X.env) :: starEach es X.env := by rfl) (hpl : (backTo pos (starEach es X.env)).any (·.1) = false := by rfl) :
    PE X (.Call (.Name x p) (e :: es) [] pos) (tMake C sp [] E t) := by
  obtain ⟨f, fd, h1, h2, h3, h4⟩ := c
  exact pe_make h1 h4 hr hg h2 h3 .nil hx ha hdb he hpl
end L2
namespace Op
open PySem L2 PyProof.Rows
/-! ### the mirror: a program's parts -/
def progCheck (we : Bool) (asks sigs : ArgD) (ins rows : PyData) : Except (Str × List Int) Chk :=
  match okTab (areWords 4) 6 asks with
  | none => .error ("asks", [])
  | some ka => match okTab isBox 3 sigs with
    | none => .error ("signals", [])
    | some ks => if areWords 3 ins = true then checkAll ⟨ka.map (·.1), ks.map (·.1), we⟩ rows else .error ("inputs", [])
section
variable {K : PySem.W.Frag} {H H' : Hp}
theorem KvsR.has (x : Str) : ∀ {vs : List (Key × V)} {kvs : List (Str × PyData)}, KvsR K H vs kvs → (valV vs (.inr x)).isSome = decide (x ∈ kvs.map (·.1))
  | [], [], _ => rfl
  | (k, v) :: r, (y, d) :: t, ⟨h1, h2, h3⟩ => by
    rw [h1, List.map_cons]
    by_cases e : y = x
    · rw [valV_pos (by rw [e])]
      simp [e]
    · rw [valV_neg (fun q => e (Sum.inr.inj q)), KvsR.has x h3]
      simp [Ne.symm e]
theorem KvsR.known {p : Addr} {ws : List (Key × V)} {kvs kvs' : List (Str × PyData)} (h : H p = some (.dK ws)) (r : KvsR K H' ws kvs') (pm : kvs'.Perm kvs) : Known H p (kvs.map (·.1)) := ⟨ws, h, fun x => by
  rw [r.has x]
  rw [Bool.eq_iff_iff, decide_eq_true_iff, decide_eq_true_iff]
  exact (pm.map (·.1)).mem_iff⟩
end
theorem KvsR.mono {K : PySem.W.Frag} {H H' : Hp} {vs : List (Key × V)} {kvs : List (Str × PyData)} (h : KvsR K H vs kvs) (s : Kp H H') : KvsR K H' vs kvs := KvsR.kp s h
/-- all but x stay -/
def But (x : Addr) (H H' : Hp) : Prop := ∀ b o, H b = some o → b ≠ x → H' b = some o
theorem checkAll_ok {E : Env0} {d : PyData} {c : Chk} (h : checkAll E d = .ok c) : ∃ ds, d = .list ds ∧ chkL E 5 false ds [] chk0 = .ok c ∧ sizes c = none := by
  unfold checkAll at h
  split at h
  · rename_i ds
    refine ⟨ds, rfl, ?_⟩
    split at h
    · cases h
    · rename_i c1 e1
      split at h
      · cases h
      · rename_i e2
        obtain rfl := Except.ok.inj h
        exact ⟨e1, e2⟩
  · cases h
theorem sizes_edits {c : Chk} (h : sizes c = none) : c.edits.length ≤ 4 := by
  unfold sizes at h
  split at h
  · cases h
  · split at h
    · cases h
    · split at h
      · cases h
      · split at h
        · cases h
        · split at h
          · cases h
          · omega
theorem keys_dkT (xs : List Str) : ((dkT xs).map fun kv => kV kv.1) = xs.map V.str := by
  unfold dkT
  rw [List.map_map]
  rfl
section
variable {K : PySem.W.Frag} {H H' H'' : Hp} {x C dx : Addr} {fs : List (Str × V)}
theorem But.kp (b : But x H H') (h : H x = some (.ins C dx fs)) : Kp H H' := fun c o hc ho => b c o hc fun e => by
  rw [e, h] at hc
  cases hc
  cases ho
theorem But.trans (a : But x H H') (b : But x H' H'') : But x H H'' := fun c o h n => b c o (a c o h n) n
theorem Same.but (s : Same H H') : But x H H' := fun c o h _ => s c o h
theorem But.upd {o : HO} (b : But x H H') : But x H (upd H' x o) := fun c u h n => by rw [L2.upd_ne n]; exact b c u h n
theorem ArgV.but {v : V} {a : ArgD} (h : ArgV K H v a) (b : But x H H') (hx : H x = some (.ins C dx fs)) : ArgV K H' v a := by
  cases a with
  | none => exact h
  | other d => exact ⟨h.1.kp (b.kp hx), h.2⟩
  | dict kvs =>
    obtain ⟨p, vs, e, hp, hk, hn⟩ := h
    refine ⟨p, vs, e, b p _ hp fun z => ?_, hk.mono (b.kp hx), hn⟩
    rw [z, hx] at hp
    cases hp
end
structure EdC (K : PySem.W.Frag) (C : Addr) : Prop where
  cls : Cls K C
  n1 : NoAttr K C "ask_table"
  n2 : NoAttr K C "signal_table"
  n3 : NoAttr K C "input_words"
  n4 : NoAttr K C "row_list"
  n5 : NoAttr K C "edit_ids"
section
variable {P : Program} {w : World} {K : PySem.W.Frag} {mg : Str → Option Value} {base : Heap} {pS CI C RC0 : Addr}
def spEdited (K : PySem.W.Frag) (C CI : Addr) (we : Bool) : Sp := fun vs H Q X => ∃ (x dx : Addr) (rv av sv iv : V) (asks sigs : ArgD) (ins rows : PyData), vs = [.ref x, rv, av, sv, iv] ∧ H x = some (.ins C dx []) ∧ ArgV K H av asks ∧ ArgV K H sv sigs ∧ argSmall asks ∧ argSmall sigs ∧ Dp K H iv ins ∧ Dp K H rv rows ∧ small ins = true ∧ wt rows ≤ 30000 ∧
  (∀ c, progCheck we asks sigs ins rows = .ok c → ∀ H', But x H H' → Q .non H') ∧ (∀ part path, progCheck we asks sigs ins rows = .error (part, path) → ∀ H' d, Fr (x :: (argL av ++ argL sv)) H H' → XProg K H' d part path → X (.ref CI) (some d) H')
end
end Op
namespace Op
open PySem L2 PyProof.Rows
/-! ### the mirror: the tables of rows and of sizes -/
def putD {α : Type} (t : List (List Int × α)) (p : List Int) (a : α) : List (List Int × α) := if (t.any fun q => decide (q.1 = p)) = true then t.map (fun q => if q.1 = p then (q.1, a) else q) else t ++ [(p, a)]
abbrev Tb := List (List Int × PyData) × List (List Int × Int)
def addIn (rec : List PyData → List Int → Tb → Tb) (pre : List Int) : List PyData → Nat → Tb → Tb
  | [], _, s => s
  | d :: r, j, s => addIn rec pre r (j + 1) (rec (listOf d) (pre ++ [(j : Int)]) s)
def addRow (rec : List PyData → List Int → Tb → Tb) (pre : List Int) (d : PyData) (i : Nat) (s : Tb) : Tb :=
  match d with
  | .tuple (.str kind :: parts) => addIn rec (pre ++ [(i : Int)]) (innerL kind parts) 0 (putD s.1 (pre ++ [(i : Int)]) d, s.2)
  | _ => s
def addRs (row : PyData → Nat → Tb → Tb) : List PyData → Nat → Tb → Tb
  | [], _, s => s
  | d :: r, i, s => addRs row r (i + 1) (row d i s)
def addL : Nat → List PyData → List Int → Tb → Tb
  | 0, _, _, s => s
  | n + 1, ds, pre, s => addRs (addRow (addL n) pre) ds 0 (s.1, putD s.2 pre (ds.length : Int))
theorem putD_len {α : Type} (t : List (List Int × α)) (p : List Int) (a : α) : (putD t p a).length ≤ t.length + 1 := by
  unfold putD
  split
  · rw [List.length_map]; omega
  · rw [List.length_append]; exact Nat.le_refl _
/-! ### sizes -/
def CapT (s : Tb) (m : Nat) : Prop := s.1.length ≤ m ∧ s.2.length ≤ m
theorem CapT.mono {s : Tb} {m n : Nat} (h : CapT s m) (e : m ≤ n) : CapT s n := ⟨by have := h.1; omega, by have := h.2; omega⟩
theorem wIn1 : ∀ ds : List PyData, ds.length + wIn ds ≤ wts ds
  | [] => by rw [wts_nil]; exact Nat.le_refl _
  | d :: r => by
    have := wIn1 r
    have := wts_listOf d
    rw [wts_cons, List.length_cons]
    show _ + (wts (listOf d) + wIn r) ≤ _
    omega
theorem wts_filter (f : PyData → Bool) : ∀ ds : List PyData, wts (ds.filter f) ≤ wts ds
  | [] => Nat.le_refl _
  | d :: r => by
    have := wts_filter f r
    rw [wts_cons]
    by_cases q : f d = true
    · rw [List.filter_cons_of_pos q, wts_cons]; omega
    · rw [List.filter_cons_of_neg q]; omega
theorem wIn_inner1 (kind : Str) (parts : List PyData) : (innerL kind parts).length + wIn (innerL kind parts) ≤ wts parts := by
  unfold innerL
  split
  · cases parts with
    | nil => exact Nat.zero_le _
    | cons d r =>
      rw [wts_cons]
      cases d with
      | tuple ds =>
        have := wIn1 ds
        rw [wt_tuple]
        show ds.length + wIn ds ≤ _
        omega
      | _ => exact Nat.zero_le _
  · have := wIn1 (parts.filter isList)
    have := wts_filter isList parts
    omega
def CapG (f : List PyData → List Int → Tb → Tb) : Prop := ∀ ds pre s m, CapT s m → CapT (f ds pre s) (m + 1 + wts ds)
theorem addIn_cap {f : List PyData → List Int → Tb → Tb} (hf : CapG f) {pre : List Int} : ∀ (l : List PyData) (j : Nat) (s : Tb) (m : Nat), CapT s m → CapT (addIn f pre l j s) (m + (l.length + wIn l))
  | [], j, s, m, k => k
  | d :: r, j, s, m, k => by
    have h1 := hf (listOf d) (pre ++ [(j : Int)]) s m k
    have h2 := addIn_cap hf (pre := pre) r (j + 1) _ _ h1
    refine h2.mono ?_
    show _ ≤ m + (r.length + 1 + (wts (listOf d) + wIn r))
    omega
theorem addRow_cap {f : List PyData → List Int → Tb → Tb} (hf : CapG f) {pre : List Int} {d : PyData} {i : Nat} {s : Tb} {m : Nat} (k : CapT s m) : CapT (addRow f pre d i s) (m + wt d) := by
  unfold addRow
  split
  · rename_i kind parts
    have h1 := putD_len s.1 (pre ++ [(i : Int)]) (.tuple (.str kind :: parts))
    have h2 := addIn_cap hf (pre := pre ++ [(i : Int)]) (innerL kind parts) 0 (putD s.1 (pre ++ [(i : Int)]) (.tuple (.str kind :: parts)), s.2) (m + 1) ⟨by have := k.1; show (putD _ _ _).length ≤ _; omega, by have := k.2; show s.2.length ≤ _; omega⟩
    have h3 := wIn_inner1 kind parts
    refine h2.mono ?_
    rw [wt_tuple, wts_cons]
    omega
  · exact k.mono (by omega)
theorem addRs_cap {row : PyData → Nat → Tb → Tb} (hr : ∀ d i s m, CapT s m → CapT (row d i s) (m + wt d)) : ∀ (l : List PyData) (i : Nat) (s : Tb) (m : Nat), CapT s m → CapT (addRs row l i s) (m + wts l)
  | [], i, s, m, k => k.mono (by omega)
  | d :: r, i, s, m, k => by
    have h2 := addRs_cap hr r (i + 1) _ _ (hr d i s m k)
    exact h2.mono (by rw [wts_cons]; omega)
theorem addL_cap : ∀ n : Nat, CapG (addL n)
  | 0 => fun ds pre s m k => k.mono (by omega)
  | n + 1 => fun ds pre s m k => by
    have h1 := putD_len s.2 pre (ds.length : Int)
    exact addRs_cap (fun d i s m k => addRow_cap (addL_cap n) k) ds 0 (s.1, putD s.2 pre (ds.length : Int)) (m + 1) ⟨by have := k.1; show s.1.length ≤ _; omega, by have := k.2; show (putD _ _ _).length ≤ _; omega⟩
/-! ### the tables in the heap -/
def kI (p : List Int) : List Key := p.map Sum.inl
theorem kI_inj : ∀ {p q : List Int}, kI p = kI q → p = q
  | [], [], _ => rfl
  | [], _ :: _, h => by cases h
  | _ :: _, [], h => by cases h
  | a :: r, b :: t, h => by
    have h : (Sum.inl a : Key) :: kI r = Sum.inl b :: kI t := h
    obtain ⟨h1, h2⟩ := List.cons.inj h
    rw [Sum.inl.inj h1, kI_inj h2]
theorem kI_kV (p : List Int) : (kI p).map kV = p.map V.int := by
  unfold kI
  rw [List.map_map]
  rfl
def TabR (K : PySem.W.Frag) (H : Hp) : List (List Key × V) → List (List Int × PyData) → Prop
  | [], [] => True
  | (k, v) :: r, (p, d) :: t => k = kI p ∧ Dp K H v d ∧ TabR K H r t
  | _, _ => False
section
variable {K : PySem.W.Frag} {H H' : Hp}
theorem TabR.kp (s : Kp H H') : ∀ {kvs : List (List Key × V)} {t : List (List Int × PyData)}, TabR K H kvs t → TabR K H' kvs t
  | [], [], _ => trivial
  | (k, v) :: r, (p, d) :: t, ⟨h1, h2, h3⟩ => ⟨h1, h2.kp s, TabR.kp s h3⟩
theorem TabR.len : ∀ {kvs : List (List Key × V)} {t : List (List Int × PyData)}, TabR K H kvs t → kvs.length = t.length
  | [], [], _ => rfl
  | (k, v) :: r, (p, d) :: t, ⟨h1, h2, h3⟩ => congrArg Nat.succ (TabR.len h3)
theorem TabR.any {q : List Int} : ∀ {kvs : List (List Key × V)} {t : List (List Int × PyData)}, TabR K H kvs t → (kvs.any fun kv => decide (kv.1 = kI q)) = t.any fun x => decide (x.1 = q)
  | [], [], _ => rfl
  | (k, v) :: r, (p, d) :: t, ⟨h1, h2, h3⟩ => by
    rw [List.any_cons, List.any_cons, TabR.any h3, h1]
    congr 1
    exact decide_eq_decide.mpr ⟨fun e => kI_inj e, fun e => congrArg kI e⟩
theorem TabR.set {q : List Int} {v : V} {d : PyData} (hv : Dp K H v d) : ∀ {kvs : List (List Key × V)} {t : List (List Int × PyData)}, TabR K H kvs t → TabR K H (kvs.map fun kv => if kv.1 = kI q then (kv.1, v) else kv) (t.map fun x => if x.1 = q then (x.1, d) else x)
  | [], [], _ => trivial
  | (k, u) :: r, (p, e) :: t, ⟨h1, h2, h3⟩ => by
    rw [List.map_cons, List.map_cons]
    by_cases z : p = q
    · rw [if_pos z, if_pos (by rw [h1, z])]
      exact ⟨h1, hv, TabR.set hv h3⟩
    · rw [if_neg z, if_neg (fun y => z (kI_inj (h1.symm.trans y)))]
      exact ⟨h1, h2, TabR.set hv h3⟩
theorem TabR.snoc {q : List Int} {v : V} {d : PyData} (hv : Dp K H v d) : ∀ {kvs : List (List Key × V)} {t : List (List Int × PyData)}, TabR K H kvs t → TabR K H (kvs ++ [(kI q, v)]) (t ++ [(q, d)])
  | [], [], _ => ⟨rfl, hv, trivial⟩
  | (k, u) :: r, (p, e) :: t, ⟨h1, h2, h3⟩ => ⟨h1, h2, TabR.snoc hv h3⟩
theorem TabR.put {q : List Int} {v : V} {d : PyData} {kvs : List (List Key × V)} {t : List (List Int × PyData)} (h : TabR K H kvs t) (hv : Dp K H v d) : TabR K H (putK kvs (kI q) v) (putD t q d) := by
  unfold putK putD
  rw [h.any]
  split
  · exact h.set hv
  · exact h.snoc hv
end
def zT (t : List (List Int × Int)) : List (List Key × V) := t.map fun p => (kI p.1, .int p.2)
theorem zT_put (t : List (List Int × Int)) (q : List Int) (n : Int) : putK (zT t) (kI q) (.int n) = zT (putD t q n) := by
  unfold putK putD
  have e : ((zT t).any fun kv => decide (kv.1 = kI q)) = t.any fun x => decide (x.1 = q) := by
    unfold zT
    rw [List.any_map]
    congr 1
    funext x
    exact decide_eq_decide.mpr ⟨fun e => kI_inj e, fun e => congrArg kI e⟩
  rw [e]
  split
  · unfold zT
    rw [List.map_map, List.map_map]
    refine List.map_congr_left fun x _ => ?_
    show (if kI x.1 = kI q then (kI x.1, V.int n) else (kI x.1, .int x.2)) = (kI (if x.1 = q then (x.1, n) else x).1, V.int (if x.1 = q then (x.1, n) else x).2)
    by_cases z : x.1 = q
    · rw [if_pos z, if_pos (by rw [z])]
    · rw [if_neg z, if_neg fun y => z (kI_inj y)]
  · unfold zT
    rw [List.map_append]
    rfl
structure TbA where
  x : Addr
  C : Addr
  dx : Addr
  rt : Addr
  lz : Addr
  fs : List (Str × V)
structure TB (K : PySem.W.Frag) (H : Hp) (A : TbA) (s : Tb) : Prop where
  ob : H A.x = some (.ins A.C A.dx A.fs)
  f1 : A.fs.lookup ("row_table" : Str) = some (.ref A.rt)
  f2 : A.fs.lookup ("list_sizes" : Str) = some (.ref A.lz)
  f3 : A.fs.lookup ("add_rows" : Str) = none
  rt : ∃ kvs, H A.rt = some (.dT kvs) ∧ TabR K H kvs s.1
  lz : H A.lz = some (.dT (zT s.2))
  ne : A.rt ≠ A.lz
section
variable {K : PySem.W.Frag} {H H' : Hp} {A : TbA} {s : Tb}
theorem TB.mono (h : TB K H A s) (m : Same H H') : TB K H' A s := ⟨m _ _ h.ob, h.f1, h.f2, h.f3, let ⟨k, a, b⟩ := h.rt; ⟨k, m _ _ a, b.kp m.kp⟩, m _ _ h.lz, h.ne⟩
theorem TB.kp (h : TB K H A s) (f : Fr [A.rt, A.lz] H H') : Kp H H' := fun b o hb ho => f b o hb fun m => by
  obtain ⟨k, e, _⟩ := h.rt
  rcases List.mem_cons.mp m with z | m
  · rw [z, e] at hb; cases hb; cases ho
  · rw [List.mem_singleton.mp m, h.lz] at hb; cases hb; cases ho
end
theorem kp_upd {H : Hp} {a : Addr} {o o' : HO} (h : H a = some o) (n : seqO o = false) : Kp H (upd H a o') := fun b u hb hu => by
  have : b ≠ a := fun e => by
    rw [e, h] at hb
    cases hb
    rw [n] at hu
    cases hu
  rw [upd_ne this]
  exact hb
section
variable {K : PySem.W.Frag} {H : Hp} {A : TbA} {s : Tb}
theorem TB.nx (h : TB K H A s) : A.x ≠ A.rt ∧ A.x ≠ A.lz := by
  obtain ⟨kvs, e1, _⟩ := h.rt
  exact ⟨fun e => (by have := h.ob; rw [e, e1] at this; cases this), fun e => (by have := h.ob; rw [e, h.lz] at this; cases this)⟩
theorem TB.putZ (h : TB K H A s) (p : List Int) (n : Int) : TB K (upd H A.lz (.dT (putK (zT s.2) (kI p) (.int n)))) A (s.1, putD s.2 p n) := by
  obtain ⟨kvs, e1, e2⟩ := h.rt
  exact ⟨by rw [upd_ne h.nx.2]; exact h.ob, h.f1, h.f2, h.f3, ⟨kvs, by rw [upd_ne h.ne]; exact e1, e2.kp (kp_upd h.lz rfl)⟩, by rw [upd_same, zT_put], h.ne⟩
theorem TB.putT {kvs : List (List Key × V)} {p : List Int} {v : V} {d : PyData} (h : TB K H A s) (e1 : H A.rt = some (.dT kvs)) (e2 : TabR K H kvs s.1) (hv : Dp K H v d) : TB K (upd H A.rt (.dT (putK kvs (kI p) v))) A (putD s.1 p d, s.2) :=
  ⟨by rw [upd_ne h.nx.1]; exact h.ob, h.f1, h.f2, h.f3, ⟨_, upd_same, (e2.put hv).kp (kp_upd e1 rfl)⟩, by rw [upd_ne h.ne.symm]; exact h.lz, h.ne⟩
end
theorem rowOk_form {R : List PyData → Prop} {d : PyData} (h : rowOk R d) : ∃ kind parts, d = .tuple (.str kind :: parts) ∧ parts.length ≤ 4 ∧ (kind = "both" → ∃ ds, parts = [.tuple ds] ∧ ds ≠ []) ∧ (∀ d ∈ innerL kind parts, isList d = true ∧ R (listOf d)) := by
  unfold rowOk at h
  split at h
  · rename_i kind parts
    exact ⟨kind, parts, rfl, h.1, h.2.1, h.2.2.2⟩
  · exact h.elim
/-- t + u of tuples that are tracked -/
theorem cat_trk {K : PySem.W.Frag} {H : Hp} {a b : Addr} {xs ys : List V} {Q : VK} (ha : H a = some (.tup xs)) (hb : H b = some (.tup ys)) (hz : xs.length + ys.length ≤ sizeLine) (k : ∀ t H', Same H H' → H' t = some (.tup (xs ++ ys)) → Q (.ref t) H') : rCatA K (.ref a) (.ref b) H Q := by
  refine ⟨a, b, xs, ys, rfl, rfl, .inl (.inl ha), .inl (.inl hb), hz, fun e => ?_, fun _ e => ?_, fun _ _ p hp => ?_⟩
  · subst e
    exact k b H (fun _ _ h => h) hb
  · subst e
    exact k a H (fun _ _ h => h) (by rw [List.append_nil]; exact ha)
  · exact k p _ (Same.new hp) upd_same
theorem addRs_cons {row : PyData → Nat → Tb → Tb} {d : PyData} {r : List PyData} {i : Nat} {s : Tb} : addRs row (d :: r) i s = addRs row r (i + 1) (row d i s) := rfl
theorem addIn_cons {rec : List PyData → List Int → Tb → Tb} {pre : List Int} {d : PyData} {r : List PyData} {j : Nat} {s : Tb} : addIn rec pre (d :: r) j s = addIn rec pre r (j + 1) (rec (listOf d) (pre ++ [(j : Int)]) s) := rfl
theorem cut_fr {S : Addr → Prop} {L : List Addr} {H H' : Hp} (f : Fr L H H') : Fr L (cutH S H) (cutH S H') := fun b o h n => by
  unfold cutH at h ⊢
  split at h
  · cases h
  · rename_i z
    rw [if_neg z]
    exact f b o h n
theorem cut_put {S : Addr → Prop} {H : Hp} {a : Addr} {o : HO} (n : ¬ S a) : cutH S (upd H a o) = upd (cutH S H) a o := by
  funext b
  unfold cutH
  by_cases e : b = a
  · subst e
    rw [if_neg n, upd_same, upd_same]
  · rw [upd_ne e, upd_ne e]
theorem cut_has {S : Addr → Prop} {H : Hp} {a : Addr} {o : HO} (h : cutH S H a = some o) : ¬ S a := fun z => by
  unfold cutH at h
  rw [if_pos z] at h
  cases h
theorem cut_at {S : Addr → Prop} {H : Hp} {a : Addr} {o : HO} (h : cutH S H a = some o) : H a = some o := cut_all _ _ h
structure PgC (K : PySem.W.Frag) (C : Addr) : Prop where
  cls : Cls K C
  n1 : NoAttr K C "ask_table"
  n2 : NoAttr K C "signal_table"
  n3 : NoAttr K C "input_words"
  n4 : NoAttr K C "row_list"
  n5 : NoAttr K C "label_names"
  n6 : NoAttr K C "slot_names"
  n7 : NoAttr K C "gate_names"
  n8 : NoAttr K C "row_table"
  n9 : NoAttr K C "list_sizes"
section
variable {P : Program} {w : World} {K : PySem.W.Frag} {mg : Str → Option Value} {base : Heap} {C : Addr}
def spAdd (K : PySem.W.Frag) (C : Addr) (n : Nat) : Sp := fun vs H Q _ => ∃ (S : Addr → Prop) (A : TbA) (s : Tb) (rws pr : Addr) (ds : List PyData) (pre : List Int) (m : Nat), vs = [.ref A.x, .ref rws, .ref pr] ∧ A.C = C ∧ TB K (cutH S H) A s ∧ Dp K (cutH S H) (.ref rws) (.list ds) ∧ rowsOk n ds ∧ H pr = some (.tup (pre.map V.int)) ∧ pre.length + 2 * n ≤ 100 ∧ CapT s m ∧ m + 1 + wts ds ≤ 90000 ∧
  ∀ H', Fr [A.rt, A.lz] H H' → TB K (cutH S H') A (addL n ds pre s) → Q .non H'
theorem sc_Program_add_rows : FnScope ["self", "rows", "prefix", "index", "row", "number", "inner"] ["self", "rows", "prefix"] (defScope s_Program_add_rows) := ⟨rfl, rfl, rfl, by decide +kernel, rfl, by decide +kernel, by decide +kernel⟩
theorem ok_add_rows {f : Addr} {fd : FuncData} (F : Fun K "add_rows" "Program.add_rows" s_Program_add_rows f fd) (T : Txt mg) (pc : PgC K C) (hm : Meth K C "add_rows" f) (hb : Binds K fd ["self", "rows", "prefix"] []) (c_inner_lists : Cal P w K mg base CX0 1 "inner_lists" ["row"] (spInnerG K)) :
    ∀ n : Nat, FnOk P w K mg base CX0 (1 + n + 1) f fd ["self", "rows", "prefix"] (spAdd K C n)
  | 0 => F.ok sc_Program_add_rows (fun vs H Q E h => by obtain ⟨S, A, s, rws, pr, ds, pre, m, rfl, _⟩ := h; rfl) (fun cdv A outer s H vs Q E hr h => by obtain ⟨S, A, s, rws, pr, ds, pre, m, _, _, _, _, hk, _⟩ := h; exact hk.elim)
  | n + 1 => by
    have m_add_rows : Mcal P w K mg base CX0 (1 + n + 1) C "add_rows" ["self", "rows", "prefix"] (spAdd K C n) := ⟨f, fd, hm, hb, ok_add_rows F T pc hm hb c_inner_lists n⟩
    refine F.ok sc_Program_add_rows (fun vs H Q E h => ?_) (fun cdv A outer s H vs Q E hr h => ?_)
    · obtain ⟨S, A, s, rws, pr, ds, pre, m, rfl, _⟩ := h
      rfl
    · obtain ⟨S, R, s0, rws, pr, ds, pre, m, rfl, hC, Oc, hd, hok, hpr, hpl, hcap, hw, k⟩ := h
      have hu := hu_of hr
      have c_Program := pc.cls
      subst hC
      have O := Oc.mono cut_all
      have nlz := cut_has Oc.lz
      have nrt : ¬ S R.rt := let ⟨_, e, _⟩ := Oc.rt; cut_has e
      refine ⟨_, (pss_cons (ps_dput hu (pe_fld (pv 0) rfl) (pv 2) (pe_callB call_len_seq (by rfl) T.b_len (by decide +kernel) (pa_cons (pv 1) pa_nil)) rfl)
      (pss_one (ps_for PassesOwn.never rfl (pi_enum (by rfl) T.b_enumerate (pa_cons (pv 1) pa_nil)) (pg_tup rfl (pgs_cons (pg_name (i := 3) sc_Program_add_rows.nd rfl (.inl rfl)) (pgs_cons (pg_name (i := 4) sc_Program_add_rows.nd rfl (.inl rfl)) pgs_nil))) (pss_cons (ps_dput hu (pe_fld (pv 0) rfl) (pe_op op_catA (pv 2) (pe_tup (pa_cons (pv 3) pa_nil))) (pv 4) rfl)
      (pss_one (ps_for PassesOwn.never rfl (pi_enum (by rfl) T.b_enumerate (pa_cons (pe_cal c_inner_lists (hr.mono (by omega)) rfl pass0 (pa_cons (pv 4) pa_nil)) pa_nil)) (pg_tup rfl (pgs_cons (pg_name (i := 5) sc_Program_add_rows.nd rfl (.inl rfl)) (pgs_cons (pg_name (i := 6) sc_Program_add_rows.nd rfl (.inl rfl)) pgs_nil))) (pss_one (ps_expr (pe_mcal (pv 0) c_Program m_add_rows (hr.mono (by omega)) pass0 (pa_cons (pv 6) (pa_cons (pe_op op_catA (pv 2) (pe_tup (pa_cons (pv 3) (pa_cons (pv 5) pa_nil)))) pa_nil))))))))))), ?_⟩
      cases hd with
      | @lst _ xs _ hq ha =>
      have hxl := ha.len
      have hcz : (zT s0.2).length ≤ m := by unfold zT; rw [List.length_map]; exact hcap.2
      refine ⟨_, rfl, rws, xs, rfl, .inl (hq.mono cut_all), _, rfl, _, _, _, _, _, rfl, O.ob, pc.cls, pc.n9, O.f2, _, rfl, R.lz, _, rfl, DPut.t (k := kI pre) O.lz (by rw [kI_kV]; exact hpr) (lt_sz (by omega)), ?_⟩
      have O1 := Oc.putZ pre (xs.length : Nat)
      rw [← cut_put nlz] at O1
      have fr1 : Fr [R.rt, R.lz] H (upd H R.lz (.dT (putK (zT s0.2) (kI pre) (.int (xs.length : Nat))))) := Fr.refl.upd (by simp)
      have cap1 : CapT (s0.1, putD s0.2 pre ((xs.length : Nat) : Int)) (m + 1) := ⟨by have := hcap.1; show s0.1.length ≤ _; omega, by have := putD_len s0.2 pre ((xs.length : Nat) : Int); have := hcap.2; show (putD _ _ _).length ≤ _; omega⟩
      revert O1 fr1
      generalize upd H R.lz _ = H1
      intro O1 fr1
      have e0 : addL (n + 1) ds pre s0 = addRs (addRow (addL n) pre) ds 0 (s0.1, putD s0.2 pre ((xs.length : Nat) : Int)) := by rw [hxl]; rfl
      refine ⟨_, rfl, rws, xs, rfl, (hq.mono cut_all).kp (O.kp fr1), ?_⟩
      refine for_it walk_enum (fun i σ H' => (∃ y3 y4 y5 y6 : Option V, σ = [some (.ref R.x), some (.ref rws), some (.ref pr), y3, y4, y5, y6]) ∧ ∃ si mi, TB K (cutH S H') R si ∧ Fr [R.rt, R.lz] H H' ∧ CapT si mi ∧ mi + wts (ds.drop i) ≤ 90000 ∧ addL (n + 1) ds pre s0 = addRs (addRow (addL n) pre) (ds.drop i) i si) ⟨⟨_, _, _, _, rfl⟩, _, m + 1, O1, fr1, cap1, by rw [List.drop_zero]; omega, e0⟩ (fun i σ H' _ p => by
        obtain ⟨_, si, mi, O2, fr, _⟩ := p
        exact (hq.mono cut_all).kp (O.kp fr)) ?_ ?_
      · rintro i v σ H2 H3 hi ⟨⟨y3, y4, y5, y6, rfl⟩, si, mi, O2, fr2, cap2, hw2, hres⟩ ⟨T0, x0, y, rfl, hT0, rfl, hx0, hy⟩
        obtain rfl : x0 = .int (i : Nat) := (Option.some.inj hx0).symm
        obtain ⟨d, hd1, hdy⟩ := ha.get hy
        have hdrop : ds.drop i = d :: ds.drop (i + 1) := by
          obtain ⟨h1, h2⟩ := List.getElem?_eq_some_iff.mp hd1
          rw [List.drop_eq_getElem_cons h1, h2]
        rw [hdrop] at hw2 hres
        rw [wts_cons] at hw2
        refine ⟨T0, _, rfl, .inl (.inl upd_same), rfl, _, _, rfl, _, _, rfl, rfl, ?_⟩
        have sm3 : Same H2 (upd H2 T0 (.tup [.int (i : Nat), y])) := Same.new hT0
        have O3 := O2.mono (cut_same (S := S) sm3)
        have fr3 : Fr [R.rt, R.lz] H (upd H2 T0 (.tup [.int (i : Nat), y])) := fr2.trans sm3.fr
        revert O3 fr3
        generalize upd H2 T0 (.tup [.int (i : Nat), y]) = H3
        intro O3 fr3
        obtain ⟨kind, parts, rfl, hp4, hboth, hinn⟩ := rowOk_form (hok d (List.mem_of_getElem? hd1))
        have hpr3 : H3 pr = some (.tup (pre.map V.int)) := O.kp fr3 _ _ hpr rfl
        obtain ⟨kvs, e1, e2⟩ := O3.rt
        have hkl := e2.len
        have hc1 := cap2.1
        refine ⟨_, rfl, _, rfl, _, _, _, _, _, rfl, cut_at O3.ob, pc.cls, pc.n8, O3.f1, _, rfl, _, rfl, sz1 _, fun p hp => cat_trk (Same.new hp _ _ hpr3) upd_same (sz_lit (by rw [List.length_map]; show _ + 1 ≤ _; omega)) fun t H4 s4 ht => ⟨R.rt, _, rfl, DPut.t (kvs := kvs) (k := kI (pre ++ [(i : Int)])) (s4 _ _ (Same.new hp _ _ (cut_at e1))) (by rw [kI_kV, ← map_snoc]; exact ht) (lt_sz (by omega)), ?_⟩⟩
        have s34 := (Same.new (o := .tup [.int (i : Nat)]) hp).trans s4
        have c34 := cut_same (S := S) s34
        have O4 := (O3.mono c34).putT (p := pre ++ [(i : Int)]) (c34 _ _ e1) (e2.kp c34.kp) ((hdy.kp (Oc.kp (cut_fr fr3))).mono c34)
        rw [← cut_put nrt] at O4
        have fr4 : Fr [R.rt, R.lz] H (upd H4 R.rt (.dT (putK kvs (kI (pre ++ [(i : Int)])) y))) := (fr3.trans s34.fr).upd (by simp)
        have cap4 : CapT (putD si.1 (pre ++ [(i : Int)]) (.tuple (.str kind :: parts)), si.2) (mi + 1) := ⟨by have := putD_len si.1 (pre ++ [(i : Int)]) (.tuple (.str kind :: parts)); show (putD _ _ _).length ≤ _; omega, by have := cap2.2; show si.2.length ≤ _; omega⟩
        revert O4 fr4
        generalize upd H4 R.rt _ = H5
        intro O4 fr4
        have hd5 := hdy.kp (Oc.kp (cut_fr fr4))
        obtain ⟨ty, rfl⟩ : ∃ ty, y = .ref ty := by
          cases hdy with
          | tup _ _ => exact ⟨_, rfl⟩
        refine ⟨_, rfl, _, ty, kind, parts, rfl, cut_all, hd5, by omega, fun e => ?_, fun p' xs' H6 s6 _ hp6 hdp6 => ?_⟩
        · obtain ⟨ds', e', _⟩ := hboth e
          exact ⟨ds', [], e'⟩
        refine ⟨p', xs', rfl, .inl (.inl hp6), ?_⟩
        have O6 := O4.mono (cut_same (S := S) s6)
        have fr6 : Fr [R.rt, R.lz] H H6 := fr4.trans s6.fr
        have hlen6 := hdp6.len
        have hwi := wIn_inner1 kind parts
        have hres' : addL (n + 1) ds pre s0 = addRs (addRow (addL n) pre) (ds.drop (i + 1)) (i + 1) (addIn (addL n) (pre ++ [(i : Int)]) (innerL kind parts) 0 (putD si.1 (pre ++ [(i : Int)]) (.tuple (.str kind :: parts)), si.2)) := hres
        rw [wt_tuple, wts_cons] at hw2
        refine for_it walk_enum (fun j σ H' => (∃ y5' y6' : Option V, σ = [some (.ref R.x), some (.ref rws), some (.ref pr), some (.int (i : Nat)), some (.ref ty), y5', y6']) ∧ ∃ sj mj, TB K (cutH S H') R sj ∧ Fr [R.rt, R.lz] H6 H' ∧ CapT sj mj ∧ mj + (((innerL kind parts).drop j).length + wIn ((innerL kind parts).drop j)) + wts (ds.drop (i + 1)) ≤ 90000 ∧ addL (n + 1) ds pre s0 = addRs (addRow (addL n) pre) (ds.drop (i + 1)) (i + 1) (addIn (addL n) (pre ++ [(i : Int)]) ((innerL kind parts).drop j) j sj)) ⟨⟨_, _, rfl⟩, _, mi + 1, O6, Fr.refl, cap4, by rw [List.drop_zero]; omega, hres'⟩ (fun j σ H' _ q => by
          obtain ⟨_, sj, mj, O7, fr7, _⟩ := q
          exact SqL.kp (.inl (.inl hp6)) ((O6.mono cut_all).kp fr7)) ?_ ?_
        · rintro j v σ H7 H8 hj ⟨⟨y5', y6', rfl⟩, sj, mj, O7, fr7, cap7, hw7, hres7⟩ ⟨T1, x1, y1, rfl, hT1, rfl, hx1, hy1⟩
          obtain rfl : x1 = .int (j : Nat) := (Option.some.inj hx1).symm
          obtain ⟨d1, hd1', hdy1⟩ := hdp6.get hy1
          have hdrop1 : (innerL kind parts).drop j = d1 :: (innerL kind parts).drop (j + 1) := by
            obtain ⟨h1, h2⟩ := List.getElem?_eq_some_iff.mp hd1'
            rw [List.drop_eq_getElem_cons h1, h2]
          rw [hdrop1] at hw7 hres7
          have hw7 : mj + (((innerL kind parts).drop (j + 1)).length + 1 + (wts (listOf d1) + wIn ((innerL kind parts).drop (j + 1)))) + wts (ds.drop (i + 1)) ≤ 90000 := hw7
          obtain ⟨hl1, hr1⟩ := hinn d1 (List.mem_of_getElem? hd1')
          obtain ⟨dl, rfl⟩ : ∃ dl, d1 = .list dl := by
            cases d1 with
            | list dl => exact ⟨dl, rfl⟩
            | _ => cases hl1
          refine ⟨T1, _, rfl, .inl (.inl upd_same), rfl, _, _, rfl, _, _, rfl, rfl, ?_⟩
          have sm8 : Same H7 (upd H7 T1 (.tup [.int (j : Nat), y1])) := Same.new hT1
          have O8 := O7.mono (cut_same (S := S) sm8)
          have fr8 : Fr [R.rt, R.lz] H6 (upd H7 T1 (.tup [.int (j : Nat), y1])) := fr7.trans sm8.fr
          revert O8 fr8
          generalize upd H7 T1 (.tup [.int (j : Nat), y1]) = H8
          intro O8 fr8
          have frA : Fr [R.rt, R.lz] H H8 := fr6.trans fr8
          have hdl : Dp K (cutH S H8) y1 (.list dl) := (hdy1.mono (cut_same s6)).kp (O6.kp (cut_fr fr8))
          have hp8 : H8 pr = some (.tup (pre.map V.int)) := O.kp frA _ _ hpr rfl
          obtain ⟨q1, rfl⟩ : ∃ q1, y1 = .ref q1 := by
            cases hdl with
            | lst _ _ => exact ⟨_, rfl⟩
          refine ⟨_, rfl, _, _, _, rfl, cut_at O8.ob, O8.f3, _, rfl, _, rfl, _, rfl, _, rfl, sz2 _ _, fun p9 hp9 => cat_trk (Same.new hp9 _ _ hp8) upd_same (sz_lit (by rw [List.length_map]; show _ + 2 ≤ _; omega)) fun t9 H9 s9 ht9 => ?_⟩
          have s89 : Same H8 H9 := (Same.new hp9).trans s9
          rw [map_snoc2] at ht9
          refine ⟨S, R, sj, q1, t9, dl, pre ++ [(i : Int)] ++ [(j : Int)], mj, rfl, rfl, O8.mono (cut_same s89), hdl.mono (cut_same s89), hr1, ht9, ?_, cap7, ?_, fun H' fr' O' => ?_⟩
          · rw [List.length_append, List.length_append]
            show pre.length + 1 + 1 + 2 * n ≤ 100
            omega
          · have : wts (listOf (.list dl)) = wts dl := rfl
            omega
          · refine ⟨⟨_, _, rfl⟩, _, mj + 1 + wts dl, O', fr8.trans (s89.fr.trans fr'), addL_cap n _ _ _ _ cap7, ?_, ?_⟩
            · have : wts (listOf (.list dl)) = wts dl := rfl
              omega
            · rw [hres7, addIn_cons]
              rfl
        · rintro σ H7 ⟨⟨y5', y6', rfl⟩, sj, mj, O7, fr7, cap7, hw7, hres7⟩
          rw [List.drop_of_length_le (l := innerL kind parts) (by omega)] at hres7
          exact ⟨⟨_, _, _, _, rfl⟩, sj, mj, O7, fr6.trans fr7, cap7, by omega, hres7⟩
      · rintro σ H' ⟨_, si, mi, O2, fr, _, _, e⟩
        rw [List.drop_of_length_le (by omega)] at e
        exact k H' fr (e ▸ O2)
end
end Op
namespace L2
theorem cut_kpS {S : PySem.Addr → Prop} {H H' : Hp} (s : Kp H H') : Kp (cutH S H) (cutH S H') := fun b o h ho => by
  unfold cutH at h ⊢
  split at h
  · cases h
  · rename_i n
    rw [if_neg n]
    exact s b o h ho
end L2
namespace Op
open PySem L2 PyProof.Rows
theorem at_new {H : Hp} {a : Addr} {o : HO} (_ : H a = none) : upd H a o a = some o := upd_same
theorem sizes_small {c : Chk} (h : sizes c = none) : c.labels.length < 64 ∧ c.slots.length < 64 ∧ c.gates.length < 64 := by
  unfold sizes at h
  split at h
  · cases h
  · split at h
    · cases h
    · split at h
      · cases h
      · split at h
        · cases h
        · omega
theorem dkT_keys (xs : List Str) : (dkT xs).map (·.1) = xs.map Sum.inr := by
  unfold dkT
  rw [List.map_map]
  rfl
theorem okTab_mem {ok : PyData → Bool} {most : Nat} {a : ArgD} {kvs : List (Str × PyData)} (h : okTab ok most a = some kvs) : ∀ q ∈ kvs, ok q.2 = true := by
  cases a with
  | none => 
    obtain rfl := Option.some.inj h
    exact fun q hq => (List.not_mem_nil hq).elim
  | other d => cases h
  | dict kv =>
    have h : (if kv.length ≤ most ∧ (kv.all fun p => isWordS p.1 && ok p.2) = true then some kv else none) = some kvs := h
    split at h
    · rename_i z
      obtain rfl := Option.some.inj h
      exact fun q hq => (Bool.and_eq_true_iff.mp (List.all_eq_true.mp z.2 q hq)).2
    · cases h
theorem noL_box {d : PyData} (h : isBox d = true) : noL d = true := by
  unfold isBox at h
  split at h
  · rename_i n d
    have := noL_words (Bool.and_eq_true_iff.mp h).2
    unfold noL
    refine noLs_mem.mpr fun z hz => ?_
    rcases List.mem_cons.mp hz with rfl | hz
    · unfold noL; rfl
    · rw [List.mem_singleton.mp hz]; exact this
  · cases h
theorem KvsR.cutN {K : PySem.W.Frag} {H : Hp} {S : Addr → Prop} (hs : ∀ b, S b → LstAt H b) : ∀ {vs : List (Key × V)} {kvs : List (Str × PyData)}, KvsR K H vs kvs → (∀ q ∈ kvs, noL q.2 = true) → KvsR K (cutH S H) vs kvs
  | [], [], _, _ => trivial
  | (k, v) :: r, (x, d) :: t, ⟨h1, h2, h3⟩, hn => ⟨h1, noL_cut hs h2 (hn _ List.mem_cons_self), KvsR.cutN hs h3 fun q hq => hn q (List.mem_cons_of_mem _ hq)⟩
/-! ### a program -/
structure Pg where
  asks : List (Str × PyData)
  sigs : List (Str × PyData)
  ins : PyData
  rows : List PyData
  labels : List Str
  slots : List Str
  gates : List Str
structure PgA where
  x : Addr
  C : Addr
  dx : Addr
  pa : Addr
  ps : Addr
  pr : Addr
  l1 : Addr
  l2 : Addr
  l3 : Addr
  rt : Addr
  lz : Addr
  iv : V
def pgF (A : PgA) : List (Str × V) := [("ask_table", .ref A.pa), ("signal_table", .ref A.ps), ("input_words", A.iv), ("row_list", .ref A.pr), ("label_names", .ref A.l1), ("slot_names", .ref A.l2), ("gate_names", .ref A.l3), ("row_table", .ref A.rt), ("list_sizes", .ref A.lz)]
structure PgO (K : PySem.W.Frag) (H : Hp) (A : PgA) (g : Pg) : Prop where
  ob : H A.x = some (.ins A.C A.dx (pgF A))
  da : ∃ ws, H A.pa = some (.dK ws) ∧ KvsR K H ws g.asks
  ds : ∃ ws, H A.ps = some (.dK ws) ∧ KvsR K H ws g.sigs
  di : Dp K H A.iv g.ins
  dr : Dp K H (.ref A.pr) (.list g.rows)
  n1 : H A.l1 = some (.lst (g.labels.map V.str))
  n2 : H A.l2 = some (.lst (g.slots.map V.str))
  n3 : H A.l3 = some (.lst (g.gates.map V.str))
  tb : TB K H ⟨A.x, A.C, A.dx, A.rt, A.lz, pgF A⟩ (addL 5 g.rows [] ([], []))
theorem PgO.mono {K : PySem.W.Frag} {H H' : Hp} {A : PgA} {g : Pg} (h : PgO K H A g) (s : Same H H') : PgO K H' A g :=
  ⟨s _ _ h.ob, let ⟨w, a, b⟩ := h.da; ⟨w, s _ _ a, b.mono s.kp⟩, let ⟨w, a, b⟩ := h.ds; ⟨w, s _ _ a, b.mono s.kp⟩, h.di.mono s, h.dr.mono s, s _ _ h.n1, s _ _ h.n2, s _ _ h.n3, h.tb.mono s⟩
section
variable {P : Program} {w : World} {K : PySem.W.Frag} {mg : Str → Option Value} {base : Heap} {pS CI C RC0 : Addr}
def spProg (K : PySem.W.Frag) (C CI : Addr) : Sp := fun vs H Q X => ∃ (x dx : Addr) (rv av sv iv : V) (asks sigs : ArgD) (ins rows : PyData), vs = [.ref x, rv, av, sv, iv] ∧ H x = some (.ins C dx []) ∧ ArgV K H av asks ∧ ArgV K H sv sigs ∧ argSmall asks ∧ argSmall sigs ∧ Dp K H iv ins ∧ Dp K H rv rows ∧ small ins = true ∧ wt rows ≤ 30000 ∧
  (∀ ka ks ds c, okTab (areWords 4) 6 asks = some ka → okTab isBox 3 sigs = some ks → areWords 3 ins = true → rows = .list ds → checkAll ⟨ka.map (·.1), ks.map (·.1), false⟩ (.list ds) = .ok c → ∀ H' A kva kvs ls ss gs, But x H H' → A.x = x → A.C = C → kva.Perm ka → sortedS (kva.map (·.1)) = true → kvs.Perm ks → sortedS (kvs.map (·.1)) = true → ls.Perm c.labels → sortedS ls = true → ss.Perm c.slots → sortedS ss = true → gs.Perm c.gates → sortedS gs = true → PgO K (cutH (LstAt H) H') A ⟨kva, kvs, ins, ds, ls, ss, gs⟩ → Q .non H') ∧
  (∀ part path, progCheck false asks sigs ins rows = .error (part, path) → ∀ H' d, Fr (x :: (argL av ++ argL sv)) H H' → XProg K H' d part path → X (.ref CI) (some d) H')
theorem sc_Program___init__ : FnScope ["self", "rows", "asks", "signals", "inputs", "found"] ["self", "rows", "asks", "signals", "inputs"] (defScope s_Program___init__) := ⟨rfl, rfl, rfl, by decide +kernel, rfl, by decide +kernel, by decide +kernel⟩
theorem ok_prog {f : Addr} {fd : FuncData} (F : Fun K "__init__" "Program.__init__" s_Program___init__ f fd) (T : TxtC P w K mg pS CI) (pc : PgC K C) (rc : RcC K RC0)
    (c_checked_asks : Cal P w K mg base (L2.CX P w) 3 "checked_asks" ["value"] (spTab K CI "asks" (areWords 4) 6)) (c_checked_signals : Cal P w K mg base (L2.CX P w) 4 "checked_signals" ["value"] (spTab K CI "signals" isBox 3)) (c_checked_inputs : Cal P w K mg base (L2.CX P w) 3 "checked_inputs" ["value"] (spInputs K CI))
    (k_RowCheck : Kcal P w K mg base CX0 1 "RowCheck" RC0 ["self", "asks", "signals", "with_edits"] (spRcInit K RC0)) (m_check : Mcal P w K mg base (L2.CX P w) 12 RC0 "check" ["self", "rows"] (spCheck K RC0 CI)) (c_copy_rows : Cal P w K mg base CX0 11 "copy_rows" ["rows"] (spCRows K 5)) (m_add_rows : Mcal P w K mg base CX0 7 C "add_rows" ["self", "rows", "prefix"] (spAdd K C 5)) :
    FnOk P w K mg base (L2.CX P w) 13 f fd ["self", "rows", "asks", "signals", "inputs"] (spProg K C CI) := by
  refine F.okX sc_Program___init__ (fun vs H Q E h => ?_) (fun cdv A outer s H vs Q E hr h => ?_)
  · obtain ⟨x, dx, rv, av, sv, iv, asks, sigs, ins, rows, rfl, _⟩ := h
    rfl
  · obtain ⟨x, dx, rv, av, sv, iv, asks, sigs, ins, rows, rfl, hx, hav, hsv, hsa, hss, hiv, hrv, hsi, hwr, k1, k2⟩ := h
    have c_RowCheck := rc.cls
    have c_Program := pc.cls
    refine ⟨_, (pss_cons (ps_fld (pv 0) (pe_cal c_checked_asks (hr.mono (by omega)) rfl (passes_call (takes_of rfl rfl rfl rfl) (fun _ _ _ _ h => h)) (pa_cons (pv 2) pa_nil)) rfl)
      (pss_cons (ps_fld (pv 0) (pe_cal c_checked_signals (hr.mono (by omega)) rfl (passes_call (takes_of rfl rfl rfl rfl) (fun _ _ _ _ h => h)) (pa_cons (pv 3) pa_nil)) rfl)
      (pss_cons (ps_fld (pv 0) (pe_cal c_checked_inputs (hr.mono (by omega)) rfl (passes_call (takes_of rfl rfl rfl rfl) (fun _ _ _ _ h => h)) (pa_cons (pv 4) pa_nil)) rfl)
      (pss_cons (ps_set (i := 5) sc_Program___init__.nd rfl (.inl rfl) (pe_kcal k_RowCheck (hr.mono (by omega)) rfl pass0 (pa_cons (pe_fld (pv 0) rfl) (pa_cons (pe_fld (pv 0) rfl) (pa_cons pe_bl pa_nil)))))
      (pss_cons (ps_expr (pe_mcal (pv 5) c_RowCheck m_check (hr.mono (by omega)) (passes_call (takes_of rfl rfl rfl rfl) (fun _ _ _ _ h => h)) (pa_cons (pv 1) pa_nil)))
      (pss_cons (ps_fld (pv 0) (pe_cal c_copy_rows (hr.mono (by omega)) rfl pass0 (pa_cons (pv 1) pa_nil)) rfl)
      (pss_cons (ps_fld (pv 0) (pe_callB (call_sortedKV rfl) (by rfl) T.b_sorted (by decide +kernel) (pa_cons (pe_bm0 PySem.F.plainAttrs_dict PySem.F.slot_dict_keys PySem.F.type_dict_keys mt_keysV (pe_fld (pv 5) rfl)) pa_nil)) rfl)
      (pss_cons (ps_fld (pv 0) (pe_callB (call_sortedKV rfl) (by rfl) T.b_sorted (by decide +kernel) (pa_cons (pe_bm0 PySem.F.plainAttrs_dict PySem.F.slot_dict_keys PySem.F.type_dict_keys mt_keysV (pe_fld (pv 5) rfl)) pa_nil)) rfl)
      (pss_cons (ps_fld (pv 0) (pe_callB (call_sortedKV rfl) (by rfl) T.b_sorted (by decide +kernel) (pa_cons (pe_bm0 PySem.F.plainAttrs_dict PySem.F.slot_dict_keys PySem.F.type_dict_keys mt_keysV (pe_fld (pv 5) rfl)) pa_nil)) rfl)
      (pss_cons (ps_fld (pv 0) pe_dnewT rfl)
      (pss_cons (ps_fld (pv 0) pe_dnewT rfl)
      (pss_one (ps_expr (pe_mcal (pv 0) c_Program m_add_rows (hr.mono (by omega)) pass0 (pa_cons (pe_fld (pv 0) rfl) (pa_cons (pe_tup pa_nil) pa_nil)))))))))))))))), ?_⟩
    unfold progCheck at k2
    refine ⟨_, rfl, av, asks, rfl, hav, hsa, fun ka hka pa H1 wsa kva s1 hpa hpa1 pma srta hra => ?_, fun hn H1 d f1 hxp => ?_⟩
    · rw [hka] at k2
      have nxa : pa ≠ x := fun e => by rw [e, hx] at hpa; cases hpa
      refine ⟨_, rfl, x, C, dx, _, rfl, s1 _ _ hx, pc.cls, pc.n1, (by show 0 < 1000; decide), ?_⟩
      have b2 : But x H (upd H1 x (.ins C dx (putF "ask_table" (.ref pa) []))) := (Same.but s1).upd
      have x2 : upd H1 x (.ins C dx (putF "ask_table" (.ref pa) [])) x = some (.ins C dx [("ask_table", .ref pa)]) := upd_same
      have b12' : But x H1 (upd H1 x (.ins C dx (putF "ask_table" (.ref pa) []))) := (Same.but fun _ _ z => z).upd
      have pa2 : upd H1 x (.ins C dx (putF "ask_table" (.ref pa) [])) pa = some (.dK wsa) := by rw [upd_ne nxa]; exact hpa1
      revert b2 x2 pa2 b12'
      generalize upd H1 x (.ins C dx (putF "ask_table" (.ref pa) [])) = H2
      intro b2 x2 b12' pa2
      refine ⟨_, rfl, sv, sigs, rfl, hsv.but b2 hx, hss, fun ks hks ps H3 wss kvs s3 hps hps3 pms srts hrs => ?_, fun hn H3 d f3 hxp => ?_⟩
      · rw [hks] at k2
        have nxs : ps ≠ x := fun e => by rw [e, x2] at hps; cases hps
        have nas : pa ≠ ps := fun e => by rw [← e, pa2] at hps; cases hps
        refine ⟨_, rfl, x, C, dx, _, rfl, s3 _ _ x2, pc.cls, pc.n2, (by show 1 < 1000; decide), ?_⟩
        have b4 : But x H (upd H3 x (.ins C dx (putF "signal_table" (.ref ps) [("ask_table", .ref pa)]))) := (b2.trans (Same.but s3)).upd
        have x4 : upd H3 x (.ins C dx (putF "signal_table" (.ref ps) [("ask_table", .ref pa)])) x = some (.ins C dx [("ask_table", .ref pa), ("signal_table", .ref ps)]) := upd_same
        have b34 : But x H3 (upd H3 x (.ins C dx (putF "signal_table" (.ref ps) [("ask_table", .ref pa)]))) := (Same.but fun _ _ z => z).upd
        have pa4 : upd H3 x (.ins C dx (putF "signal_table" (.ref ps) [("ask_table", .ref pa)])) pa = some (.dK wsa) := by rw [upd_ne nxa]; exact s3 _ _ pa2
        have ps4 : upd H3 x (.ins C dx (putF "signal_table" (.ref ps) [("ask_table", .ref pa)])) ps = some (.dK wss) := by rw [upd_ne nxs]; exact hps3
        revert b4 x4 pa4 ps4 b34
        generalize upd H3 x (.ins C dx (putF "signal_table" (.ref ps) [("ask_table", .ref pa)])) = H4
        intro b4 x4 b34 pa4 ps4
        refine ⟨_, rfl, iv, ins, rfl, hiv.kp (b4.kp hx), hsi, fun hi => ?_, fun hi H5 d s5 hxp => ?_⟩
        · simp only [hi, if_true] at k2
          refine ⟨_, rfl, x, C, dx, _, rfl, x4, pc.cls, pc.n3, (by show 2 < 1000; decide), ?_⟩
          have b5 : But x H (upd H4 x (.ins C dx (putF "input_words" iv [("ask_table", .ref pa), ("signal_table", .ref ps)]))) := b4.upd
          have x5 : upd H4 x (.ins C dx (putF "input_words" iv [("ask_table", .ref pa), ("signal_table", .ref ps)])) x = some (.ins C dx [("ask_table", .ref pa), ("signal_table", .ref ps), ("input_words", iv)]) := upd_same
          have b45 : But x H4 (upd H4 x (.ins C dx (putF "input_words" iv [("ask_table", .ref pa), ("signal_table", .ref ps)]))) := (Same.but fun _ _ z => z).upd
          have pa5 : upd H4 x (.ins C dx (putF "input_words" iv [("ask_table", .ref pa), ("signal_table", .ref ps)])) pa = some (.dK wsa) := by rw [upd_ne nxa]; exact pa4
          have ps5 : upd H4 x (.ins C dx (putF "input_words" iv [("ask_table", .ref pa), ("signal_table", .ref ps)])) ps = some (.dK wss) := by rw [upd_ne nxs]; exact ps4
          revert b5 x5 pa5 ps5 b45
          generalize upd H4 x (.ins C dx (putF "input_words" iv [("ask_table", .ref pa), ("signal_table", .ref ps)])) = H5
          intro b5 x5 b45 pa5 ps5
          have b35 : But x H3 H5 := b34.trans b45
          have b25 : But x H2 H5 := (Same.but s3).trans b35
          refine ⟨_, rfl, x, C, dx, _, _, rfl, x5, pc.cls, pc.n1, rfl, _, rfl, x, C, dx, _, _, rfl, x5, pc.cls, pc.n2, rfl, fun y dy hy hdy hne => ?_⟩
          have s6 : Same H5 (upd (upd H5 dy (.own y)) y (.ins RC0 dy [])) := (Same.new hdy).trans (Same.new (by rw [upd_ne hne.symm]; exact hy))
          have y6 : upd (upd H5 dy (.own y)) y (.ins RC0 dy []) y = some (.ins RC0 dy []) := upd_same
          revert s6 y6
          generalize upd (upd H5 dy (.own y)) y (.ins RC0 dy []) = H6
          intro s6 y6
          refine ⟨y, dy, pa, ps, ⟨ka.map (·.1), ks.map (·.1), false⟩, rfl, y6, KvsR.known (s6 _ _ pa5) hra pma, KvsR.known (s6 _ _ ps5) hrs pms, fun H7 R eR1 eR2 hfree O7 but7 => ⟨rfl, ?_⟩⟩
          subst eR1
          have but57 : Same H5 H7 := fun b o hb => but7 b o (s6 b o hb) fun e => by rw [e, hy] at hb; cases hb
          have b7 : But x H H7 := b5.trans (Same.but but57)
          have outL : ∀ b o, H5 b = some o → b ∉ R.L := fun b o hb hm => by
            have hm : b = R.a ∨ b ∈ [R.l, R.s, R.g, R.e] := by simpa [RcA.L] using hm
            rcases hm with e | hm
            · rw [e, hy] at hb; cases hb
            · have := hfree b hm
              rw [s6 b o hb] at this
              cases this
          refine ⟨_, rfl, _, _, _, rfl, by rw [← eR2]; exact O7.ob, rfl, _, rfl, R, _, rv, rows, rfl, eR2, O7, hrv.kp (b7.kp hx), hwr, fun c hc H8 f8 O8 => ?_, fun part path he H8 d f8 hxp => ?_⟩
          · have s8 : Same H5 H8 := fun b o hb => f8 b o (but57 b o hb) (outL b o hb)
            have b8 : But x H H8 := b5.trans (Same.but s8)
            obtain ⟨ds, rfl, hchk, hsz⟩ := checkAll_ok hc
            have hwd : wts ds ≤ 30000 := by rw [wt_list] at hwr; omega
            have hrok := rowsOk_of _ 5 _ _ _ _ _ hchk (by decide)
            refine ⟨_, rfl, rv, ds, rfl, hrv.kp (b8.kp hx), hrok, hwd, fun p xs H9 s9 hp hp9 hdp => ?_⟩
            have x9 := s9 _ _ (s8 _ _ x5)
            refine ⟨_, rfl, x, C, dx, _, rfl, x9, pc.cls, pc.n4, (by show 3 < 1000; decide), ?_⟩
            have O9 := O8.mono s9
            have ob9 : H9 R.a = some (.ins R.C R.dx (rcF R ⟨ka.map (·.1), ks.map (·.1), false⟩ c)) := O9.ob
            have nRx : R.a ≠ x := fun e => by rw [e, x9] at ob9; simp [rcF] at ob9
            have nLx : R.l ≠ x := fun e => by have := O9.dl; rw [e, x9] at this; cases this
            have nSx : R.s ≠ x := fun e => by have := O9.ds; rw [e, x9] at this; cases this
            have nGx : R.g ≠ x := fun e => by have := O9.dg; rw [e, x9] at this; cases this
            have npx : p ≠ x := fun e => by rw [e, x9] at hp9; cases hp9
            have b10 : But x H9 (upd H9 x (.ins C dx (putF "row_list" (.ref p) [("ask_table", .ref pa), ("signal_table", .ref ps), ("input_words", iv)]))) := (Same.but fun _ _ z => z).upd
            have x10 : upd H9 x (.ins C dx (putF "row_list" (.ref p) [("ask_table", .ref pa), ("signal_table", .ref ps), ("input_words", iv)])) x = some (.ins C dx [("ask_table", .ref pa), ("signal_table", .ref ps), ("input_words", iv), ("row_list", .ref p)]) := upd_same
            revert b10 x10
            generalize upd H9 x (.ins C dx _) = H10
            intro b10 x10
            obtain ⟨z1, z2, z3⟩ := sizes_small hsz
            refine ⟨_, rfl, R.a, R.C, R.dx, _, _, rfl, b10 _ _ ob9 nRx, eR2 ▸ rc.cls, eR2 ▸ rc.n5, rfl, tyV_dK (b10 _ _ O9.dl nLx), R.l, dkT c.labels, rfl, rfl, .inl (b10 _ _ O9.dl nLx), fun q0 hq0 => ?_⟩
            refine ⟨q0, R.l, dkT c.labels, c.labels, rfl, upd_same, .inl (Same.new hq0 _ _ (b10 _ _ O9.dl nLx)), dkT_keys c.labels, by omega, fun y0 l0 perm0 sort0 hl0 => ?_⟩
            have s10 := (Same.new (o := keysO q0 R.l) hq0).trans (Same.new (o := .lst (y0.map V.str)) hl0)
            have el0 := at_new (o := .lst (y0.map V.str)) hl0
            have free0 : H10 l0 = none := (Same.new (o := keysO q0 R.l) hq0).free hl0
            revert s10 el0
            generalize upd (upd H10 q0 _) l0 _ = G0
            intro s10 el0
            refine ⟨_, rfl, x, C, dx, _, rfl, s10 _ _ x10, pc.cls, pc.n5, (by show 4 < 1000; decide), ?_⟩
            have b11 : But x H9 (upd G0 x (.ins C dx (putF "label_names" (.ref l0) [("ask_table", .ref pa), ("signal_table", .ref ps), ("input_words", iv), ("row_list", .ref p)]))) := (b10.trans (Same.but s10)).upd
            have x11 : upd G0 x (.ins C dx (putF "label_names" (.ref l0) [("ask_table", .ref pa), ("signal_table", .ref ps), ("input_words", iv), ("row_list", .ref p)])) x = some (.ins C dx [("ask_table", .ref pa), ("signal_table", .ref ps), ("input_words", iv), ("row_list", .ref p), ("label_names", .ref l0)]) := upd_same
            have nl0 : l0 ≠ x := fun e => by rw [e, x10] at free0; cases free0
            have c10 : But x H10 (upd G0 x (.ins C dx (putF "label_names" (.ref l0) [("ask_table", .ref pa), ("signal_table", .ref ps), ("input_words", iv), ("row_list", .ref p)]))) := (Same.but s10).upd
            have fl0 : upd G0 x (.ins C dx (putF "label_names" (.ref l0) [("ask_table", .ref pa), ("signal_table", .ref ps), ("input_words", iv), ("row_list", .ref p)])) l0 = some (.lst (y0.map V.str)) := by rw [upd_ne nl0]; exact el0
            revert b11 x11 c10 fl0
            generalize upd G0 x (.ins C dx _) = H11
            intro b11 x11 c10 fl0
            refine ⟨_, rfl, R.a, R.C, R.dx, _, _, rfl, b11 _ _ ob9 nRx, eR2 ▸ rc.cls, eR2 ▸ rc.n6, rfl, tyV_dK (b11 _ _ O9.ds nSx), R.s, dkT c.slots, rfl, rfl, .inl (b11 _ _ O9.ds nSx), fun q1 hq1 => ?_⟩
            refine ⟨q1, R.s, dkT c.slots, c.slots, rfl, upd_same, .inl (Same.new hq1 _ _ (b11 _ _ O9.ds nSx)), dkT_keys c.slots, by omega, fun y1 l1 perm1 sort1 hl1 => ?_⟩
            have s11 := (Same.new (o := keysO q1 R.s) hq1).trans (Same.new (o := .lst (y1.map V.str)) hl1)
            have el1 := at_new (o := .lst (y1.map V.str)) hl1
            have free1 : H11 l1 = none := (Same.new (o := keysO q1 R.s) hq1).free hl1
            revert s11 el1
            generalize upd (upd H11 q1 _) l1 _ = G1
            intro s11 el1
            refine ⟨_, rfl, x, C, dx, _, rfl, s11 _ _ x11, pc.cls, pc.n6, (by show 5 < 1000; decide), ?_⟩
            have b12 : But x H9 (upd G1 x (.ins C dx (putF "slot_names" (.ref l1) [("ask_table", .ref pa), ("signal_table", .ref ps), ("input_words", iv), ("row_list", .ref p), ("label_names", .ref l0)]))) := (b11.trans (Same.but s11)).upd
            have x12 : upd G1 x (.ins C dx (putF "slot_names" (.ref l1) [("ask_table", .ref pa), ("signal_table", .ref ps), ("input_words", iv), ("row_list", .ref p), ("label_names", .ref l0)])) x = some (.ins C dx [("ask_table", .ref pa), ("signal_table", .ref ps), ("input_words", iv), ("row_list", .ref p), ("label_names", .ref l0), ("slot_names", .ref l1)]) := upd_same
            have nl1 : l1 ≠ x := fun e => by rw [e, x11] at free1; cases free1
            have c11 : But x H11 (upd G1 x (.ins C dx (putF "slot_names" (.ref l1) [("ask_table", .ref pa), ("signal_table", .ref ps), ("input_words", iv), ("row_list", .ref p), ("label_names", .ref l0)]))) := (Same.but s11).upd
            have fl1 : upd G1 x (.ins C dx (putF "slot_names" (.ref l1) [("ask_table", .ref pa), ("signal_table", .ref ps), ("input_words", iv), ("row_list", .ref p), ("label_names", .ref l0)])) l1 = some (.lst (y1.map V.str)) := by rw [upd_ne nl1]; exact el1
            revert b12 x12 c11 fl1
            generalize upd G1 x (.ins C dx _) = H12
            intro b12 x12 c11 fl1
            refine ⟨_, rfl, R.a, R.C, R.dx, _, _, rfl, b12 _ _ ob9 nRx, eR2 ▸ rc.cls, eR2 ▸ rc.n7, rfl, tyV_dK (b12 _ _ O9.dg nGx), R.g, dkT c.gates, rfl, rfl, .inl (b12 _ _ O9.dg nGx), fun q2 hq2 => ?_⟩
            refine ⟨q2, R.g, dkT c.gates, c.gates, rfl, upd_same, .inl (Same.new hq2 _ _ (b12 _ _ O9.dg nGx)), dkT_keys c.gates, by omega, fun y2 l2 perm2 sort2 hl2 => ?_⟩
            have s12 := (Same.new (o := keysO q2 R.g) hq2).trans (Same.new (o := .lst (y2.map V.str)) hl2)
            have el2 := at_new (o := .lst (y2.map V.str)) hl2
            have free2 : H12 l2 = none := (Same.new (o := keysO q2 R.g) hq2).free hl2
            revert s12 el2
            generalize upd (upd H12 q2 _) l2 _ = G2
            intro s12 el2
            refine ⟨_, rfl, x, C, dx, _, rfl, s12 _ _ x12, pc.cls, pc.n7, (by show 6 < 1000; decide), ?_⟩
            have b13 : But x H9 (upd G2 x (.ins C dx (putF "gate_names" (.ref l2) [("ask_table", .ref pa), ("signal_table", .ref ps), ("input_words", iv), ("row_list", .ref p), ("label_names", .ref l0), ("slot_names", .ref l1)]))) := (b12.trans (Same.but s12)).upd
            have x13 : upd G2 x (.ins C dx (putF "gate_names" (.ref l2) [("ask_table", .ref pa), ("signal_table", .ref ps), ("input_words", iv), ("row_list", .ref p), ("label_names", .ref l0), ("slot_names", .ref l1)])) x = some (.ins C dx [("ask_table", .ref pa), ("signal_table", .ref ps), ("input_words", iv), ("row_list", .ref p), ("label_names", .ref l0), ("slot_names", .ref l1), ("gate_names", .ref l2)]) := upd_same
            have nl2 : l2 ≠ x := fun e => by rw [e, x12] at free2; cases free2
            have c12 : But x H12 (upd G2 x (.ins C dx (putF "gate_names" (.ref l2) [("ask_table", .ref pa), ("signal_table", .ref ps), ("input_words", iv), ("row_list", .ref p), ("label_names", .ref l0), ("slot_names", .ref l1)]))) := (Same.but s12).upd
            have fl2 : upd G2 x (.ins C dx (putF "gate_names" (.ref l2) [("ask_table", .ref pa), ("signal_table", .ref ps), ("input_words", iv), ("row_list", .ref p), ("label_names", .ref l0), ("slot_names", .ref l1)])) l2 = some (.lst (y2.map V.str)) := by rw [upd_ne nl2]; exact el2
            revert b13 x13 c12 fl2
            generalize upd G2 x (.ins C dx _) = H13
            intro b13 x13 c12 fl2
            intro rt hrt
            refine ⟨_, rfl, x, C, dx, _, rfl, Same.new hrt _ _ x13, pc.cls, pc.n8, (by show 7 < 1000; decide), ?_⟩
            have nrt : rt ≠ x := fun e => by rw [e, x13] at hrt; cases hrt
            have c13 : But x H13 (upd (upd H13 rt (.dT [])) x (.ins C dx (putF "row_table" (.ref rt) [("ask_table", .ref pa), ("signal_table", .ref ps), ("input_words", iv), ("row_list", .ref p), ("label_names", .ref l0), ("slot_names", .ref l1), ("gate_names", .ref l2)]))) := (Same.but (Same.new hrt)).upd
            have x14 : upd (upd H13 rt (.dT [])) x (.ins C dx (putF "row_table" (.ref rt) [("ask_table", .ref pa), ("signal_table", .ref ps), ("input_words", iv), ("row_list", .ref p), ("label_names", .ref l0), ("slot_names", .ref l1), ("gate_names", .ref l2)])) x = some (.ins C dx [("ask_table", .ref pa), ("signal_table", .ref ps), ("input_words", iv), ("row_list", .ref p), ("label_names", .ref l0), ("slot_names", .ref l1), ("gate_names", .ref l2), ("row_table", .ref rt)]) := upd_same
            have ert : upd (upd H13 rt (.dT [])) x (.ins C dx (putF "row_table" (.ref rt) [("ask_table", .ref pa), ("signal_table", .ref ps), ("input_words", iv), ("row_list", .ref p), ("label_names", .ref l0), ("slot_names", .ref l1), ("gate_names", .ref l2)])) rt = some (.dT []) := by rw [upd_ne nrt]; exact upd_same
            revert c13 x14 ert
            generalize upd (upd H13 rt (.dT [])) x (.ins C dx _) = H14
            intro c13 x14 ert
            intro lz hlz
            refine ⟨_, rfl, x, C, dx, _, rfl, Same.new hlz _ _ x14, pc.cls, pc.n9, (by show 8 < 1000; decide), ?_⟩
            have nlz : lz ≠ x := fun e => by rw [e, x14] at hlz; cases hlz
            have c14 : But x H14 (upd (upd H14 lz (.dT [])) x (.ins C dx (putF "list_sizes" (.ref lz) [("ask_table", .ref pa), ("signal_table", .ref ps), ("input_words", iv), ("row_list", .ref p), ("label_names", .ref l0), ("slot_names", .ref l1), ("gate_names", .ref l2), ("row_table", .ref rt)]))) := (Same.but (Same.new hlz)).upd
            have x15 : upd (upd H14 lz (.dT [])) x (.ins C dx (putF "list_sizes" (.ref lz) [("ask_table", .ref pa), ("signal_table", .ref ps), ("input_words", iv), ("row_list", .ref p), ("label_names", .ref l0), ("slot_names", .ref l1), ("gate_names", .ref l2), ("row_table", .ref rt)])) x = some (.ins C dx [("ask_table", .ref pa), ("signal_table", .ref ps), ("input_words", iv), ("row_list", .ref p), ("label_names", .ref l0), ("slot_names", .ref l1), ("gate_names", .ref l2), ("row_table", .ref rt), ("list_sizes", .ref lz)]) := upd_same
            have elz : upd (upd H14 lz (.dT [])) x (.ins C dx (putF "list_sizes" (.ref lz) [("ask_table", .ref pa), ("signal_table", .ref ps), ("input_words", iv), ("row_list", .ref p), ("label_names", .ref l0), ("slot_names", .ref l1), ("gate_names", .ref l2), ("row_table", .ref rt)])) lz = some (.dT []) := by rw [upd_ne nlz]; exact upd_same
            revert c14 x15 elz
            generalize upd (upd H14 lz (.dT [])) x (.ins C dx _) = H15
            intro c14 x15 elz
            refine ⟨_, rfl, x, dx, _, rfl, x15, rfl, _, rfl, x, C, dx, _, _, rfl, x15, pc.cls, pc.n4, rfl, sz_lit (by show 0 ≤ 100000; decide), fun e0 he0 => ?_⟩
            have s15 := Same.new (o := .tup []) he0
            have l15 := at_new (o := .tup []) he0
            revert s15 l15
            generalize upd H15 e0 _ = H16
            intro s15 l15
            have b14 : But x H9 H14 := b13.trans c13
            have b15 : But x H9 H15 := b14.trans c14
            have b16 : But x H9 H16 := b15.trans (Same.but s15)
            have bH : But x H H16 := (b8.trans (Same.but s9)).trans b16
            have lst16 : ∀ b, LstAt H b → LstAt H16 b := fun b hb => by
              obtain ⟨zs, hz⟩ := hb
              exact ⟨zs, bH b _ hz fun e => by rw [e, hx] at hz; cases hz⟩
            have nS : ∀ b, b ≠ x → ∀ G, But x H G → G b = none → ¬ LstAt H b := fun b hb G hG hn hl => by
              obtain ⟨zs, hz⟩ := hl
              rw [hG b _ hz hb] at hn
              cases hn
            have nxS : ¬ LstAt H x := fun hl => by obtain ⟨zs, hz⟩ := hl; rw [hx] at hz; cases hz
            have b9H : But x H H9 := b8.trans (Same.but s9)
            have npS : ¬ LstAt H p := nS p npx H8 b8 hp
            have nrtS : ¬ LstAt H rt := nS rt nrt H13 (b9H.trans b13) hrt
            have nlzS : ¬ LstAt H lz := nS lz nlz H14 (b9H.trans b14) hlz
            have nl0S : ¬ LstAt H l0 := nS l0 nl0 H10 (b9H.trans b10) free0
            have nl1S : ¬ LstAt H l1 := nS l1 nl1 H11 (b9H.trans b11) free1
            have nl2S : ¬ LstAt H l2 := nS l2 nl2 H12 (b9H.trans b12) free2
            have kp16 : Kp H9 H16 := b16.kp x9
            have hdp16 : DpAll K (cutH (LstAt H) H16) xs ds := by
              refine DpAll.kp (cut_kpS kp16) (DpAll.mono (cut_sub fun b hb => ?_) hdp)
              obtain ⟨zs, hz⟩ := hb
              exact .inl ⟨zs, b8 b _ hz fun e => by rw [e, hx] at hz; cases hz⟩
            have row16 : Dp K (cutH (LstAt H) H16) (.ref p) (.list ds) := .lst (.inl (.inl (by rw [cut_not npS]; exact b16 _ _ hp9 npx))) hdp16
            have nrl : rt ≠ lz := fun e => by rw [← e, ert] at hlz; cases hlz
            have tb16 : TB K (cutH (LstAt H) H16) ⟨x, C, dx, rt, lz, [("ask_table", .ref pa), ("signal_table", .ref ps), ("input_words", iv), ("row_list", .ref p), ("label_names", .ref l0), ("slot_names", .ref l1), ("gate_names", .ref l2), ("row_table", .ref rt), ("list_sizes", .ref lz)]⟩ ([], []) := ⟨by rw [cut_not nxS]; exact s15 _ _ x15, rfl, rfl, rfl, ⟨[], by rw [cut_not nrtS]; exact s15 _ _ (c14 _ _ ert nrt), trivial⟩, by rw [cut_not nlzS]; exact s15 _ _ elz, nrl⟩
            refine ⟨LstAt H, ⟨x, C, dx, rt, lz, [("ask_table", .ref pa), ("signal_table", .ref ps), ("input_words", iv), ("row_list", .ref p), ("label_names", .ref l0), ("slot_names", .ref l1), ("gate_names", .ref l2), ("row_table", .ref rt), ("list_sizes", .ref lz)]⟩, ([], []), p, e0, ds, [], 0, rfl, rfl, tb16, row16, hrok, l15, by decide, ⟨Nat.le_refl _, Nat.le_refl _⟩, by omega, fun H17 fr17 tb17 => ?_⟩
            have kp17 : Kp H16 H17 := (tb16.mono cut_all).kp fr17
            have at17 : ∀ b o, H16 b = some o → b ≠ rt → b ≠ lz → H17 b = some o := fun b o hb h1 h2 => fr17 b o hb fun m => by
              rcases List.mem_cons.mp m with e | m
              · exact h1 e
              · exact h2 (List.mem_singleton.mp m)
            have bH17 : But x H H17 := fun b o hb hn => at17 b o (bH b o hb hn) (fun e => by rw [e] at hb; have := (b9H.trans b13) rt o hb nrt; rw [this] at hrt; cases hrt) (fun e => by rw [e] at hb; have := (b9H.trans b14) lz o hb nlz; rw [this] at hlz; cases hlz)
            have lst17 : ∀ b, LstAt H b → LstAt H17 b := fun b hb => by
              obtain ⟨zs, hz⟩ := hb
              exact ⟨zs, bH17 b _ hz fun e => by rw [e, hx] at hz; cases hz⟩
            have s59 : Same H5 H9 := s8.trans s9
            have pa9 := s59 _ _ pa5
            have ps9 := s59 _ _ ps5
            have nrta : pa ≠ rt := fun e => by have := b13 _ _ pa9 nxa; rw [e, hrt] at this; cases this
            have nlza : pa ≠ lz := fun e => by have := b14 _ _ pa9 nxa; rw [e, hlz] at this; cases this
            have nrts : ps ≠ rt := fun e => by have := b13 _ _ ps9 nxs; rw [e, hrt] at this; cases this
            have nlzs : ps ≠ lz := fun e => by have := b14 _ _ ps9 nxs; rw [e, hlz] at this; cases this
            have pa17 : H17 pa = some (.dK wsa) := at17 _ _ (b16 _ _ pa9 nxa) nrta nlza
            have ps17 : H17 ps = some (.dK wss) := at17 _ _ (b16 _ _ ps9 nxs) nrts nlzs
            have dS : ∀ b kv, H17 b = some (.dK kv) → ¬ LstAt H b := fun b kv hb hl => by
              obtain ⟨zs, hz⟩ := lst17 b hl
              rw [hb] at hz
              cases hz
            have k517 : Kp H5 H17 := (s59.kp.trans kp16).trans kp17
            have k117 : Kp H1 H17 := fun b o hb ho => by
              have hbx : b ≠ x := fun e => by rw [e, s1 _ _ hx] at hb; cases hb; cases ho
              exact k517 b o (b25 b o (b12' b o hb hbx) hbx) ho
            have k317 : Kp H3 H17 := fun b o hb ho => by
              have hbx : b ≠ x := fun e => by rw [e, s3 _ _ x2] at hb; cases hb; cases ho
              exact k517 b o (b35 b o hb hbx) ho
            have noA : ∀ q ∈ kva, noL q.2 = true := fun q hq => noL_words (okTab_mem hka q (pma.mem_iff.mp hq))
            have noB : ∀ q ∈ kvs, noL q.2 = true := fun q hq => noL_box (okTab_mem hks q (pms.mem_iff.mp hq))
            refine k1 ka ks ds c hka hks hi rfl hc H17 ⟨x, C, dx, pa, ps, p, l0, l1, l2, rt, lz, iv⟩ kva kvs y0 y1 y2 bH17 rfl rfl pma srta pms srts perm0 sort0 perm1 sort1 perm2 sort2 ?_
            refine ⟨by rw [cut_not nxS]; exact at17 _ _ (s15 _ _ x15) nrt.symm nlz.symm, ⟨wsa, by rw [cut_not (dS _ _ pa17)]; exact pa17, (hra.mono k117).cutN lst17 noA⟩, ⟨wss, by rw [cut_not (dS _ _ ps17)]; exact ps17, (hrs.mono k317).cutN lst17 noB⟩, noL_cut lst17 (hiv.kp (bH17.kp hx)) (noL_words hi), ?_, ?_, ?_, ?_, tb17⟩
            · exact row16.kp (cut_kpS kp17)
            · show cutH (LstAt H) H17 l0 = _
              rw [cut_not nl0S]
              exact kp17 _ _ (s15 _ _ (c14 _ _ (c13 _ _ (c12 _ _ (c11 _ _ fl0 nl0) nl0) nl0) nl0)) rfl
            · show cutH (LstAt H) H17 l1 = _
              rw [cut_not nl1S]
              exact kp17 _ _ (s15 _ _ (c14 _ _ (c13 _ _ (c12 _ _ fl1 nl1) nl1) nl1)) rfl
            · show cutH (LstAt H) H17 l2 = _
              rw [cut_not nl2S]
              exact kp17 _ _ (s15 _ _ (c14 _ _ (c13 _ _ fl2 nl2) nl2)) rfl
          · refine k2 part path he H8 d (fun b o hb hn => ?_) hxp
            have hbx : b ≠ x := fun e => hn (by rw [e]; exact List.mem_cons_self)
            have h5 := b5 b o hb hbx
            exact f8 b o (but57 b o h5) (outL b o h5)
        · simp only [hi, if_false, Bool.false_eq_true] at k2
          exact k2 _ _ rfl H5 d (fun b o hb hn => s5 b o (b4 b o hb fun e => hn (by rw [e]; exact List.mem_cons_self))) hxp
      · rw [hn] at k2
        exact k2 _ _ rfl H3 d (fun b o hb hn => f3 b o (b2 b o hb fun e => hn (by rw [e]; exact List.mem_cons_self)) fun m => hn (List.mem_cons_of_mem _ (List.mem_append_right _ m))) hxp
    · rw [hn] at k2
      exact k2 _ _ rfl H1 d (fun b o hb hn => f1 b o hb fun m => hn (List.mem_cons_of_mem _ (List.mem_append_left _ m))) hxp
end
end Op
namespace Op
open PySem L2 PyProof.Rows
/-! ### a text, repeated -/
theorem op_mulS {X : Cx} : OpR X (binaryOp .Mult) (fun x y H Q => ∃ (z : Str) (n : Int), x = .str z ∧ y = .int n ∧ 0 ≤ n ∧ n ≤ 1000 ∧ z.length ≤ 100 ∧ Q (.str (Txt.mul z n)) H) := by
  intro pins s σ H x y v u Q I rx ry h
  obtain ⟨z, n, rfl, rfl, h0, h1, h2, q⟩ := h
  obtain ⟨t, rfl⟩ := rx
  obtain ⟨t', rfl⟩ := ry
  refine PySem.SB.mul ?_ fun t'' k => ⟨.str (Txt.mul z n), H, I.tok _, ⟨_, rfl⟩, q⟩
  refine ⟨?_, fun _ _ => ?_, fun _ _ => ?_⟩
  · rw [decide_eq_false (by omega), decide_eq_false (by omega)]
    rfl
  · have : (1000 : Int) ≤ (2 ^ 63 - 1) / n := (Int.le_ediv_iff_mul_le (by omega)).mpr (by omega)
    omega
  · unfold Builtin.Str.tooLong
    have h3 : z.length * n.toNat ≤ 100 * 1000 := Nat.mul_le_mul h2 (by omega)
    exact decide_eq_false (Nat.not_lt.mpr (sz_lit h3))
theorem nodup_inr {xs : List Str} (h : xs.Nodup) : (xs.map (Sum.inr : Str → Key)).Nodup := by
  refine List.Pairwise.map _ (fun a b hab e => hab (Sum.inr.inj e)) h
theorem valV_at : ∀ {ws : List (Key × V)} {i : Nat} {k : Key} {v : V}, (ws.map (·.1)).Nodup → ws[i]? = some (k, v) → valV ws k = some v
  | [], i, k, v, _, h => by simp at h
  | (a, b) :: r, 0, k, v, _, h => by
    obtain ⟨rfl, rfl⟩ := Prod.mk.inj (Option.some.inj h)
    exact valV_pos rfl
  | (a, b) :: r, i + 1, k, v, hn, h => by
    have h : r[i]? = some (k, v) := h
    obtain ⟨h1, h2⟩ := List.nodup_cons.mp hn
    have : a ≠ k := fun e => h1 (List.mem_map.mpr ⟨(k, v), List.mem_of_getElem? h, e.symm⟩)
    rw [valV_neg this]
    exact valV_at h2 h
theorem valV_take : ∀ {ws : List (Key × V)} {i : Nat} {k : Key} {v : V}, (ws.map (·.1)).Nodup → ws[i]? = some (k, v) → valV (ws.take i) k = none
  | [], i, k, v, _, h => by simp at h
  | (a, b) :: r, 0, k, v, _, h => rfl
  | (a, b) :: r, i + 1, k, v, hn, h => by
    have h : r[i]? = some (k, v) := h
    obtain ⟨h1, h2⟩ := List.nodup_cons.mp hn
    have : a ≠ k := fun e => h1 (List.mem_map.mpr ⟨(k, v), List.mem_of_getElem? h, e.symm⟩)
    rw [List.take_succ_cons, valV_neg this]
    exact valV_take h2 h
/-- what the class must have for isinstance -/
structure PgI (K : PySem.W.Frag) (C : Addr) : Prop where
  cls : Cls K C
  ha : PySem.W.findIn K (.ref C) "__class__" = some (some (.builtin "object.__class__"))
  hn : PySem.W.specialIn K (.builtin "object.__class__") "__get__" = some (some (.builtin "getset_descriptor.__get__"))
  ht : PySem.W.takesIn K (.builtin "object.__class__") = some true
  hm : PySem.W.mroIn K C (.type "object") = some true
structure TxtP (mg : Str → Option Value) (C : Addr) : Prop extends Txt mg where
  g_Program : mg "Program" = some (.ref C)
theorem kit_self {K : PySem.W.Frag} {C : Addr} : PySem.W.kitOne K (.ref C) (.ref C) = some true := by
  unfold PySem.W.kitOne
  rw [if_pos (by simp)]
section
variable {P : Program} {w : World} {K : PySem.W.Frag} {mg : Str → Option Value} {base : Heap} {C : Addr}
def spInputsM (K : PySem.W.Frag) (C : Addr) : Sp := fun vs H Q _ => ∃ A g, vs = [.ref A.x] ∧ A.C = C ∧ PgO K H A g ∧ Q A.iv H
theorem sc_Program_inputs : FnScope ["self"] ["self"] (defScope s_Program_inputs) := ⟨rfl, rfl, rfl, by decide +kernel, rfl, by decide +kernel, by decide +kernel⟩
theorem ok_pinputs {f : Addr} {fd : FuncData} (F : Fun K "inputs" "Program.inputs" s_Program_inputs f fd) (pc : PgC K C) : FnOk P w K mg base CX0 1 f fd ["self"] (spInputsM K C) := by
  refine F.ok sc_Program_inputs (fun vs H Q E h => ?_) (fun cdv A outer s H vs Q E hr h => ?_)
  · obtain ⟨A, g, rfl, _⟩ := h
    rfl
  · obtain ⟨A, g, rfl, rfl, O, k⟩ := h
    refine ⟨_, (pss_one (ps_ret (pe_fld (pv 0) rfl))), ?_⟩
    exact ⟨_, rfl, _, _, _, _, _, rfl, O.ob, pc.cls, pc.n3, rfl, k⟩
def spRowsM (K : PySem.W.Frag) (C : Addr) : Sp := fun vs H Q _ => ∃ A g, vs = [.ref A.x] ∧ A.C = C ∧ PgO K H A g ∧ rowsOk 5 g.rows ∧ wts g.rows ≤ 30000 ∧ ∀ p xs H', Same H H' → H p = none → H' p = some (.lst xs) → DpAll K (cutH (fun b => LstAt H b ∨ b = p) H') xs g.rows → Q (.ref p) H'
theorem sc_Program_rows : FnScope ["self"] ["self"] (defScope s_Program_rows) := ⟨rfl, rfl, rfl, by decide +kernel, rfl, by decide +kernel, by decide +kernel⟩
theorem ok_prows {f : Addr} {fd : FuncData} (F : Fun K "rows" "Program.rows" s_Program_rows f fd) (pc : PgC K C) (c_copy_rows : Cal P w K mg base CX0 11 "copy_rows" ["rows"] (spCRows K 5)) : FnOk P w K mg base CX0 12 f fd ["self"] (spRowsM K C) := by
  refine F.ok sc_Program_rows (fun vs H Q E h => ?_) (fun cdv A outer s H vs Q E hr h => ?_)
  · obtain ⟨A, g, rfl, _⟩ := h
    rfl
  · obtain ⟨A, g, rfl, rfl, O, h1, h2, k⟩ := h
    refine ⟨_, (pss_one (ps_ret (pe_cal c_copy_rows (hr.mono (by omega)) rfl pass0 (pa_cons (pe_fld (pv 0) rfl) pa_nil)))), ?_⟩
    exact ⟨_, rfl, _, _, _, _, _, rfl, O.ob, pc.cls, pc.n4, rfl, _, g.rows, rfl, O.dr, h1, h2, k⟩
def spTabM (K : PySem.W.Frag) (C : Addr) (sel : Pg → List (Str × PyData)) : Sp := fun vs H Q _ => ∃ A g, vs = [.ref A.x] ∧ A.C = C ∧ PgO K H A g ∧ ((sel g).map (·.1)).Nodup ∧ (sel g).length ≤ 60 ∧ ∀ p ws H', Same H H' → H p = none → H' p = some (.dK ws) → KvsR K H' ws (sel g) → Q (.ref p) H'
theorem sc_Program_asks : FnScope ["self", "name"] ["self"] (defScope s_Program_asks) := ⟨rfl, rfl, rfl, by decide +kernel, rfl, by decide +kernel, by decide +kernel⟩
theorem ok_pasks {f : Addr} {fd : FuncData} (F : Fun K "asks" "Program.asks" s_Program_asks f fd) (pc : PgC K C) : FnOk P w K mg base CX0 1 f fd ["self"] (spTabM K C Pg.asks) := by
  refine F.ok sc_Program_asks (fun vs H Q E h => ?_) (fun cdv A outer s H vs Q E hr h => ?_)
  · obtain ⟨A, g, rfl, _⟩ := h
    rfl
  · obtain ⟨A, g, rfl, rfl, O, hnd, hl, k⟩ := h
    have hu := hu_of hr
    obtain ⟨ws, hpa, hkv⟩ := O.da
    refine ⟨_, (pss_one (ps_ret (pe_lock (pe_dc (own := [("name", 1)]) (g := gName 1) (tt := tYes) (tv := tDGet (tFld K (tVar 0) "ask_table") (tVar 1)) rfl sc_Program_asks.nd (pi_keys (pe_fld (pv 0) rfl)) (blkOk_by (own := [("name", 1)]) (N := ["self", "name"]) (sc := defScope s_Program_asks) (by decide +kernel)) (fun _ _ _ _ _ => (pg_name (i := 1) sc_Program_asks.nd rfl (.inl rfl))) (fun _ _ _ _ _ => pts_nil) (fun _ _ _ _ _ => (pv 1)) (fun _ _ _ _ _ => (pe_dget hu (pe_fld (pv 0) rfl) (pv 1) (fun _ _ => rfl))))))), ?_⟩
    have nx : A.x ≠ A.pa := fun e => by have := O.ob; rw [e, hpa] at this; cases this
    have hl' := hkv.len
    have hkn : (ws.map (·.1)).Nodup := by
      rw [hkv.keys]
      exact nodup_inr hnd
    refine ⟨A.pa, _, hpa, trivial, fun od => ⟨_, rfl, A.x, A.C, A.dx, pgF A, .ref A.pa, rfl, by rw [upd_ne nx]; exact O.ob, pc.cls, pc.n1, rfl, A.pa, od, rfl, .inl ⟨ws, upd_same, fun D hD => ?_⟩⟩⟩
    have ob1 : upd H A.pa (.frz od (.dK ws)) A.x = some (.ins A.C A.dx (pgF A)) := by rw [upd_ne nx]; exact O.ob
    have pp1 : upd H A.pa (.frz od (.dK ws)) A.pa = some (.frz od (.dK ws)) := upd_same
    have nD : D ≠ A.pa := fun e => by rw [e, upd_same] at hD; cases hD
    have hDH : H D = none := by rw [upd_ne nD] at hD; exact hD
    have s01 : ∀ b o, H b = some o → b ≠ A.pa → upd H A.pa (.frz od (.dK ws)) b = some o := fun b o hb hn => by rw [upd_ne hn]; exact hb
    revert ob1 pp1 hD s01
    generalize upd H A.pa (.frz od (.dK ws)) = H1
    intro hD ob1 pp1 s01
    refine dc_it (walk_keys (kvs := ws)) (fun i H' => H' D = some (.dK (ws.take i)) ∧ Same H1 H') ⟨upd_same, Same.new hD⟩ (fun i H' _ q => q.2 _ _ pp1) ?_ ?_
    · rintro i x H2 H3 hi ⟨hDi, sm⟩ ⟨rfl, kk, v, hkvi, rfl⟩
      refine ⟨rfl, _, rfl, _, rfl, A.x, A.C, A.dx, pgF A, .ref A.pa, rfl, sm _ _ ob1, pc.cls, pc.n1, rfl, _, rfl, A.pa, v, rfl, .inl ⟨ws, kk, .inr ⟨od, sm _ _ pp1⟩, rfl, (valV_at hkn hkvi).symm⟩, ws.take i, kk, rfl, hDi, lt_sz (by rw [List.length_take]; omega), ?_, ?_⟩
      · rw [upd_same, putK_new _ (valV_take hkn hkvi), TS.take_one hkvi]
      · intro b o hb
        rw [upd_ne (ne_of_none hb hD)]
        exact sm b o hb
    · rintro H2 ⟨hDi, sm⟩
      refine ⟨sm _ _ pp1, k D ws _ (fun b o hb => ?_) hDH ?_ ?_⟩
      · by_cases e : b = A.pa
        · rw [e, upd_same, ← hpa, ← e, hb]
        · rw [upd_ne e]
          exact sm b o (s01 b o hb e)
      · rw [upd_ne nD, hDi, List.take_of_length_le (Nat.le_refl _)]
      · refine hkv.mono fun b o hb ho => ?_
        have e : b ≠ A.pa := fun e => by rw [e, hpa] at hb; cases hb; cases ho
        rw [upd_ne e]
        exact sm b o (s01 b o hb e)
theorem sc_Program_signals : FnScope ["self", "name"] ["self"] (defScope s_Program_signals) := ⟨rfl, rfl, rfl, by decide +kernel, rfl, by decide +kernel, by decide +kernel⟩
theorem ok_psignals {f : Addr} {fd : FuncData} (F : Fun K "signals" "Program.signals" s_Program_signals f fd) (pc : PgC K C) : FnOk P w K mg base CX0 1 f fd ["self"] (spTabM K C Pg.sigs) := by
  refine F.ok sc_Program_signals (fun vs H Q E h => ?_) (fun cdv A outer s H vs Q E hr h => ?_)
  · obtain ⟨A, g, rfl, _⟩ := h
    rfl
  · obtain ⟨A, g, rfl, rfl, O, hnd, hl, k⟩ := h
    have hu := hu_of hr
    obtain ⟨ws, hpa, hkv⟩ := O.ds
    refine ⟨_, (pss_one (ps_ret (pe_lock (pe_dc (own := [("name", 1)]) (g := gName 1) (tt := tYes) (tv := tDGet (tFld K (tVar 0) "signal_table") (tVar 1)) rfl sc_Program_signals.nd (pi_keys (pe_fld (pv 0) rfl)) (blkOk_by (own := [("name", 1)]) (N := ["self", "name"]) (sc := defScope s_Program_signals) (by decide +kernel)) (fun _ _ _ _ _ => (pg_name (i := 1) sc_Program_signals.nd rfl (.inl rfl))) (fun _ _ _ _ _ => pts_nil) (fun _ _ _ _ _ => (pv 1)) (fun _ _ _ _ _ => (pe_dget hu (pe_fld (pv 0) rfl) (pv 1) (fun _ _ => rfl))))))), ?_⟩
    have nx : A.x ≠ A.ps := fun e => by have := O.ob; rw [e, hpa] at this; cases this
    have hl' := hkv.len
    have hkn : (ws.map (·.1)).Nodup := by
      rw [hkv.keys]
      exact nodup_inr hnd
    refine ⟨A.ps, _, hpa, trivial, fun od => ⟨_, rfl, A.x, A.C, A.dx, pgF A, .ref A.ps, rfl, by rw [upd_ne nx]; exact O.ob, pc.cls, pc.n2, rfl, A.ps, od, rfl, .inl ⟨ws, upd_same, fun D hD => ?_⟩⟩⟩
    have ob1 : upd H A.ps (.frz od (.dK ws)) A.x = some (.ins A.C A.dx (pgF A)) := by rw [upd_ne nx]; exact O.ob
    have pp1 : upd H A.ps (.frz od (.dK ws)) A.ps = some (.frz od (.dK ws)) := upd_same
    have nD : D ≠ A.ps := fun e => by rw [e, upd_same] at hD; cases hD
    have hDH : H D = none := by rw [upd_ne nD] at hD; exact hD
    have s01 : ∀ b o, H b = some o → b ≠ A.ps → upd H A.ps (.frz od (.dK ws)) b = some o := fun b o hb hn => by rw [upd_ne hn]; exact hb
    revert ob1 pp1 hD s01
    generalize upd H A.ps (.frz od (.dK ws)) = H1
    intro hD ob1 pp1 s01
    refine dc_it (walk_keys (kvs := ws)) (fun i H' => H' D = some (.dK (ws.take i)) ∧ Same H1 H') ⟨upd_same, Same.new hD⟩ (fun i H' _ q => q.2 _ _ pp1) ?_ ?_
    · rintro i x H2 H3 hi ⟨hDi, sm⟩ ⟨rfl, kk, v, hkvi, rfl⟩
      refine ⟨rfl, _, rfl, _, rfl, A.x, A.C, A.dx, pgF A, .ref A.ps, rfl, sm _ _ ob1, pc.cls, pc.n2, rfl, _, rfl, A.ps, v, rfl, .inl ⟨ws, kk, .inr ⟨od, sm _ _ pp1⟩, rfl, (valV_at hkn hkvi).symm⟩, ws.take i, kk, rfl, hDi, lt_sz (by rw [List.length_take]; omega), ?_, ?_⟩
      · rw [upd_same, putK_new _ (valV_take hkn hkvi), TS.take_one hkvi]
      · intro b o hb
        rw [upd_ne (ne_of_none hb hD)]
        exact sm b o hb
    · rintro H2 ⟨hDi, sm⟩
      refine ⟨sm _ _ pp1, k D ws _ (fun b o hb => ?_) hDH ?_ ?_⟩
      · by_cases e : b = A.ps
        · rw [e, upd_same, ← hpa, ← e, hb]
        · rw [upd_ne e]
          exact sm b o (s01 b o hb e)
      · rw [upd_ne nD, hDi, List.take_of_length_le (Nat.le_refl _)]
      · refine hkv.mono fun b o hb ho => ?_
        have e : b ≠ A.ps := fun e => by rw [e, hpa] at hb; cases hb; cases ho
        rw [upd_ne e]
        exact sm b o (s01 b o hb e)
theorem sc_check_program : FnScope ["value", "part"] ["value", "part"] (defScope s_check_program) := ⟨rfl, rfl, rfl, by decide +kernel, rfl, by decide +kernel, by decide +kernel⟩
/-- the value is a program -/
def spIsProg (C : Addr) : Sp := fun vs H Q _ => ∃ (x dx : Addr) (fs : List (Str × V)) (z : Str), vs = [.ref x, .str z] ∧ H x = some (.ins C dx fs) ∧ Q .non H
theorem ok_check_program {f : Addr} {fd : FuncData} (F : Fun K "check_program" "check_program" s_check_program f fd) (T : TxtP mg C) (pi : PgI K C) : FnOk P w K mg base CX0 1 f fd ["value", "part"] (spIsProg C) := by
  refine F.ok sc_check_program (fun vs H Q E h => ?_) (fun cdv A outer s H vs Q E hr h => ?_)
  · obtain ⟨x, dx, fs, z, rfl, _⟩ := h
    rfl
  · obtain ⟨x, dx, fs, z, rfl, hx, k⟩ := h
    refine ⟨_, (pss_one (ps_if (pt_not (pt_val (pe_callB call_isi (by rfl) T.b_isinstance (by decide +kernel) (pa_cons (pv 0) (pa_cons (pe_gref rfl T.g_Program) pa_nil))))) (pss_one ps_never) pss_nil)), ?_⟩
    refine ⟨_, rfl, .ref x, .ref C, .ref C, .ref C, true, rfl, .own C, .base (.ins hx pi.cls pi.ha pi.hn pi.ht pi.hm), kit_self, _, rfl, ifF rfl k⟩
end
end Op
namespace Op
open PySem L2 PyProof.Rows
/-! ### the mirror: the lines of rows -/
def wordsOf : PyData → List Str
  | .tuple ds => ds.map strOf
  | _ => []
def itemsOf : PyData → List PyData
  | .tuple ds => ds
  | _ => []
def jn (ws : List Str) : Str := Txt.join " " ws
def mar (lv : Nat) : Str := Txt.mul "  " (lv : Int)
def pt (ps : List PyData) (i : Nat) : PyData := ps.getD i .none
def sideL (blk : Nat → List PyData → List Str) (lv : Nat) : List PyData → List Str
  | [] => []
  | d :: r => (mar lv ++ "  side") :: (blk (lv + 2) (listOf d) ++ sideL blk lv r)
def rowL (blk : Nat → List PyData → List Str) (lv : Nat) (kind : Str) (ps : List PyData) : List Str :=
  if kind = "first" then [mar lv ++ jn ("first" :: (wordsOf (pt ps 0) ++ [strOf (pt ps 1)]))]
  else if kind = "note" then [mar lv ++ jn ("note" :: strOf (pt ps 0) :: wordsOf (pt ps 1))]
  else if kind = "if" then ((mar lv ++ jn ["if", strOf (pt ps 0), strOf (pt ps 1)]) :: blk (lv + 1) (listOf (pt ps 2))) ++ ((mar lv ++ "else") :: blk (lv + 1) (listOf (pt ps 3)))
  else if kind = "gate" then ((mar lv ++ jn ["gate", strOf (pt ps 0)]) :: blk (lv + 1) (listOf (pt ps 1))) ++ ((mar lv ++ "old") :: blk (lv + 1) (listOf (pt ps 2)))
  else if kind = "loop" ∨ kind = "part" then (mar lv ++ kind) :: blk (lv + 1) (listOf (pt ps 0))
  else if kind = "past" then (mar lv ++ jn ["past", strOf (pt ps 0)]) :: blk (lv + 1) (listOf (pt ps 1))
  else if kind = "both" then (mar lv ++ "both") :: sideL blk lv (itemsOf (pt ps 0))
  else [mar lv ++ jn (kind :: ps.map strOf)]
def rowT (blk : Nat → List PyData → List Str) (lv : Nat) : PyData → List Str
  | .tuple (.str kind :: ps) => rowL blk lv kind ps
  | _ => []
def rowsT (blk : Nat → List PyData → List Str) (lv : Nat) : List PyData → List Str
  | [] => []
  | d :: r => rowT blk lv d ++ rowsT blk lv r
def blkL : Nat → Nat → List PyData → List Str
  | 0, _, _ => []
  | n + 1, lv, ds => rowsT (blkL n) lv ds
theorem rowsT_app (blk : Nat → List PyData → List Str) (lv : Nat) : ∀ a b : List PyData, rowsT blk lv (a ++ b) = rowsT blk lv a ++ rowsT blk lv b
  | [], b => rfl
  | d :: r, b => by
    show rowT blk lv d ++ rowsT blk lv (r ++ b) = _
    rw [rowsT_app blk lv r b, ← List.append_assoc]
    rfl
theorem sideL_app (blk : Nat → List PyData → List Str) (lv : Nat) : ∀ a b : List PyData, sideL blk lv (a ++ b) = sideL blk lv a ++ sideL blk lv b
  | [], b => rfl
  | d :: r, b => by
    show _ :: (blk (lv + 2) (listOf d) ++ sideL blk lv (r ++ b)) = _
    rw [sideL_app blk lv r b, ← List.append_assoc]
    rfl
/-! ### the forms of rows -/
/-- a row as the check leaves it -/
def rowF (R : List PyData → Prop) (d : PyData) : Prop := ∃ (E : Env0) (kind sh : Str) (ps : List PyData), d = .tuple (.str kind :: ps) ∧ kind ≠ "edit" ∧ shapes.lookup kind = some sh ∧ Fitted E sh ps ∧ ∀ x ∈ innerL kind ps, isList x = true ∧ R (listOf x)
def rowsF : Nat → List PyData → Prop
  | 0, _ => False
  | n + 1, ds => ∀ d ∈ ds, rowF (rowsF n) d
theorem rowF_of {rec : Bool → List PyData → List Int → Chk → Out} {R : List PyData → Prop} {E : Env0} (hE : E.we = false) {depth : Int} (hrec : depth < 5 → ∀ lp ds pre c c', rec lp ds pre c = .ok c' → R ds) {lp : Bool} {pre : List Int} {d : PyData} {i : Nat} {c c' : Chk} (h : chkRow rec E depth lp pre d i c = .ok c') : rowF R d := by
  unfold chkRow at h
  split at h
  · rename_i kind parts
    split at h
    · rename_i hf
      obtain ⟨hs, hF, _⟩ := fits_shape hf
      refine ⟨E, kind, _, parts, rfl, fun e => ?_, hs, hF, fun d hd => ⟨inner_lists_all hf d hd, ?_⟩⟩
      · subst e
        have hf : (match shapes.lookup ("edit" : Str) with | none => false | some sh => fitRow E c "edit" parts depth lp sh) = true := hf
        rw [hs] at hf
        have hf : fitRow E c "edit" parts depth lp (shapeOf "edit") = true := hf
        unfold fitRow at hf
        rw [if_pos ⟨rfl, hE⟩] at hf
        cases hf
      have hdep : depth < 5 := Decidable.byContradiction fun z => by
        rw [inner_deep hf (by omega)] at hd
        cases hd
      have key : ∀ (l : List PyData) (j : Nat) (c : Chk), chkIn (rec (inside lp kind)) (pre ++ [(i : Int)]) l j c = .ok c' → ∀ d ∈ l, R (listOf d) := by
        intro l
        induction l with
        | nil => intro j c _ d hd; cases hd
        | cons x r ih =>
          intro j c h d hd
          rw [chkIn_cons] at h
          cases q : rec (inside lp kind) (listOf x) (pre ++ [(i : Int)] ++ [(j : Int)]) c with
          | error p => rw [q] at h; cases h
          | ok c1 =>
            rw [q] at h
            rcases List.mem_cons.mp hd with rfl | hd
            · exact hrec hdep _ _ _ _ _ q
            · exact ih _ _ h d hd
      exact key _ _ _ h d hd
    · cases h
  · cases h
theorem rowsF_of (E : Env0) (hE : E.we = false) : ∀ (n : Nat) (lp : Bool) (ds : List PyData) (pre : List Int) (c c' : Chk), chkL E n lp ds pre c = .ok c' → 1 ≤ n → rowsF n ds
  | 0, _, _, _, _, _, _, h => absurd h (by omega)
  | n + 1, lp, ds, pre, c, c', h, _ => by
    have key : ∀ (l : List PyData) (j : Nat) (c : Chk), chkRows (chkRow (chkL E n) E (5 - (n : Int)) lp pre) l j c = .ok c' → ∀ d ∈ l, rowF (rowsF n) d := by
      intro l
      induction l with
      | nil => intro j c _ d hd; cases hd
      | cons x r ih =>
        intro j c h d hd
        rw [chkRows_cons] at h
        cases q : chkRow (chkL E n) E (5 - (n : Int)) lp pre x j c with
        | error p => rw [q] at h; cases h
        | ok c1 =>
          rw [q] at h
          rcases List.mem_cons.mp hd with rfl | hd
          · exact rowF_of hE (fun hdep lp ds pre c c' h => rowsF_of E hE n lp ds pre c c' h (by omega)) q
          · exact ih _ _ h d hd
    exact key ds 0 c h
/-- words of at most eight signs -/
def w8 (z : Str) : Prop := z.length ≤ 8
theorem w8_of {z : Str} (h : isWordS z = true) : w8 z := (of_decide_eq_true (Bool.and_eq_true_iff.mp h).1).2
section
variable {E : Env0} {ps : List PyData}
theorem part_word {ch : Nat} {d : PyData} (h : partFits E ⟨#[ch]⟩ d = true) (n : ch ≠ 109 ∧ ch ≠ 118 ∧ ch ≠ 98 ∧ ch ≠ 116) : ∃ z, d = .str z ∧ w8 z := by
  have ne : ∀ (a : Nat), ch ≠ a → ¬ (⟨#[ch]⟩ : Str) = ⟨#[a]⟩ := fun a ha z => ha (by simpa using z)
  have hw := pf_word h ⟨fun z => z.elim (ne 109 n.1) (ne 118 n.2.1), ne 98 n.2.2.1, ne 116 n.2.2.2⟩
  cases d with
  | str z => exact ⟨z, rfl, w8_of hw⟩
  | _ => cases hw
theorem part_words {ch : Nat} {d : PyData} (h : partFits E ⟨#[ch]⟩ d = true) (n : ch = 109 ∨ ch = 118) : ∃ zs : List Str, d = .tuple (zs.map PyData.str) ∧ zs.length ≤ 3 ∧ ∀ z ∈ zs, w8 z := by
  have h3 : areWords 3 d = true := by
    rcases n with rfl | rfl
    · unfold partFits at h
      rw [if_neg (by decide +kernel), if_neg (by decide +kernel), if_neg (by decide +kernel), if_pos (by decide +kernel)] at h
      exact h
    · unfold partFits at h
      rw [if_neg (by decide +kernel), if_neg (by decide +kernel), if_neg (by decide +kernel), if_pos (by decide +kernel)] at h
      exact h
  obtain ⟨zs, rfl, h1, h2, _⟩ := aw_tup h3
  exact ⟨zs, rfl, by omega, fun z hz => w8_of (h2 z hz)⟩
theorem part_list {d : PyData} (h : partFits E ⟨#[98]⟩ d = true) : ∃ ds, d = .list ds := by
  unfold partFits at h
  rw [if_neg (by decide +kernel), if_neg (by decide +kernel), if_neg (by decide +kernel), if_neg (by decide +kernel), if_pos (by decide +kernel)] at h
  cases d with
  | list ds => exact ⟨ds, rfl⟩
  | _ => cases h
theorem part_br {d : PyData} (h : partFits E ⟨#[116]⟩ d = true) : ∃ ds, d = .tuple ds ∧ ds.length ≤ 3 ∧ ∀ x ∈ ds, isList x = true := by
  unfold partFits at h
  rw [if_neg (by decide +kernel), if_neg (by decide +kernel), if_neg (by decide +kernel), if_neg (by decide +kernel), if_neg (by decide +kernel), if_pos (by decide +kernel)] at h
  cases d with
  | tuple ds =>
    obtain ⟨h1, h2⟩ := Bool.and_eq_true_iff.mp h
    exact ⟨ds, rfl, (of_decide_eq_true h1).2, fun x hx => List.all_eq_true.mp h2 x hx⟩
  | _ => cases h
theorem fit_len {sh : Str} {n : Nat} (h : Fitted E sh ps) (hs : sh.cps.size = n) : ps.length = n := h.1.symm.trans hs
theorem fit1 {a : Nat} (h : Fitted E ⟨#[a]⟩ ps) : ∃ x, ps = [x] ∧ partFits E ⟨#[a]⟩ x = true := by
  have := fit_len h (n := 1) rfl
  match ps, this, h with
  | [x], _, h => exact ⟨x, rfl, h.2 0 a x rfl rfl⟩
theorem fit2 {a b : Nat} (h : Fitted E ⟨#[a, b]⟩ ps) : ∃ x y, ps = [x, y] ∧ partFits E ⟨#[a]⟩ x = true ∧ partFits E ⟨#[b]⟩ y = true := by
  have := fit_len h (n := 2) rfl
  match ps, this, h with
  | [x, y], _, h => exact ⟨x, y, rfl, h.2 0 a x rfl rfl, h.2 1 b y rfl rfl⟩
theorem fit3 {a b c : Nat} (h : Fitted E ⟨#[a, b, c]⟩ ps) : ∃ x y z, ps = [x, y, z] ∧ partFits E ⟨#[a]⟩ x = true ∧ partFits E ⟨#[b]⟩ y = true ∧ partFits E ⟨#[c]⟩ z = true := by
  have := fit_len h (n := 3) rfl
  match ps, this, h with
  | [x, y, z], _, h => exact ⟨x, y, z, rfl, h.2 0 a x rfl rfl, h.2 1 b y rfl rfl, h.2 2 c z rfl rfl⟩
theorem fit4 {a b c e : Nat} (h : Fitted E ⟨#[a, b, c, e]⟩ ps) : ∃ x y z u, ps = [x, y, z, u] ∧ partFits E ⟨#[a]⟩ x = true ∧ partFits E ⟨#[b]⟩ y = true ∧ partFits E ⟨#[c]⟩ z = true ∧ partFits E ⟨#[e]⟩ u = true := by
  have := fit_len h (n := 4) rfl
  match ps, this, h with
  | [x, y, z, u], _, h => exact ⟨x, y, z, u, rfl, h.2 0 a x rfl rfl, h.2 1 b y rfl rfl, h.2 2 c z rfl rfl, h.2 3 e u rfl rfl⟩
end
/-- the forms of a row by its kind -/
inductive RowK (R : List PyData → Prop) : Str → List PyData → Prop
  | first {zs : List Str} {s : Str} : zs.length ≤ 3 → (∀ z ∈ zs, w8 z) → w8 s → RowK R "first" [.tuple (zs.map .str), .str s]
  | note {zs : List Str} {s : Str} : zs.length ≤ 3 → (∀ z ∈ zs, w8 z) → w8 s → RowK R "note" [.str s, .tuple (zs.map .str)]
  | cond {r v : Str} {a b : List PyData} : w8 r → w8 v → R a → R b → RowK R "if" [.str r, .str v, .list a, .list b]
  | gate {i : Str} {a b : List PyData} : w8 i → R a → R b → RowK R "gate" [.str i, .list a, .list b]
  | loop {a : List PyData} : R a → RowK R "loop" [.list a]
  | part {a : List PyData} : R a → RowK R "part" [.list a]
  | past {i : Str} {a : List PyData} : w8 i → R a → RowK R "past" [.str i, .list a]
  | both {ls : List PyData} : ls.length ≤ 3 → (∀ x ∈ ls, isList x = true ∧ R (listOf x)) → RowK R "both" [.tuple ls]
  | plain {kind : Str} {zs : List Str} : (kind = "ask" ∨ kind = "timer" ∨ kind = "await" ∨ kind = "drop" ∨ kind = "take" ∨ kind = "put" ∨ kind = "leave" ∨ kind = "end" ∨ kind = "anew") → zs.length ≤ 2 → (∀ z ∈ zs, w8 z) → RowK R kind (zs.map .str)
theorem look_shape {kind sh : Str} : shapes.lookup kind = some sh → (kind, sh) ∈ shapes := by
  generalize shapes = l
  induction l with
  | nil => intro h; cases h
  | cons p r ih =>
    intro h
    rw [List.lookup_cons] at h
    cases q : kind == p.1 with
    | true =>
      rw [q] at h
      have e : kind = p.1 := by simpa using q
      rw [e, ← Option.some.inj h]
      exact List.mem_cons_self
    | false =>
      rw [q] at h
      exact List.mem_cons_of_mem _ (ih h)
end Op
namespace Op
open PySem L2 PyProof.Rows
theorem rowK_of {R : List PyData → Prop} {d : PyData} (h : rowF R d) : ∃ kind ps, d = .tuple (.str kind :: ps) ∧ RowK R kind ps := by
  obtain ⟨E, kind, sh, ps, rfl, hne, hs, hF, hin⟩ := h
  refine ⟨kind, ps, rfl, ?_⟩
  have hL : ∀ a, kind ≠ "both" → PyData.list a ∈ ps → R a := fun a hk ha => (hin (.list a) (by
    unfold innerL
    rw [if_neg hk]
    exact List.mem_filter.mpr ⟨ha, rfl⟩)).2
  have hm := look_shape hs
  simp only [shapes, List.mem_cons, Prod.mk.injEq, List.not_mem_nil, or_false] at hm
  rcases hm with ⟨rfl, rfl⟩ | ⟨rfl, rfl⟩ | ⟨rfl, rfl⟩ | ⟨rfl, rfl⟩ | ⟨rfl, rfl⟩ | ⟨rfl, rfl⟩ | ⟨rfl, rfl⟩ | ⟨rfl, rfl⟩ | ⟨rfl, rfl⟩ | ⟨rfl, rfl⟩ | ⟨rfl, rfl⟩ | ⟨rfl, rfl⟩ | ⟨rfl, rfl⟩ | ⟨rfl, rfl⟩ | ⟨rfl, rfl⟩ | ⟨rfl, rfl⟩ | ⟨rfl, rfl⟩ | ⟨rfl, rfl⟩
  · obtain ⟨x, y, rfl, hx, hy⟩ := fit2 (a := 97) (b := 108) hF
    obtain ⟨wx, rfl, qx⟩ := part_word hx (by decide)
    obtain ⟨wy, rfl, qy⟩ := part_word hy (by decide)
    exact .plain (zs := [wx, wy]) (by simp) (Nat.le_of_ble_eq_true rfl) (fun z hz => by
      simp only [List.mem_cons, List.not_mem_nil, or_false] at hz
      rcases hz with rfl | rfl
      · exact qx
      · exact qy)
  · obtain ⟨x, rfl, hx⟩ := fit1 (a := 108) hF
    obtain ⟨wx, rfl, qx⟩ := part_word hx (by decide)
    exact .plain (zs := [wx]) (by simp) (Nat.le_of_ble_eq_true rfl) (fun z hz => by
      simp only [List.mem_cons, List.not_mem_nil, or_false] at hz
      rcases hz with rfl
      · exact qx)
  · obtain ⟨x, y, rfl, hx, hy⟩ := fit2 (a := 108) (b := 115) hF
    obtain ⟨wx, rfl, qx⟩ := part_word hx (by decide)
    obtain ⟨wy, rfl, qy⟩ := part_word hy (by decide)
    exact .plain (zs := [wx, wy]) (by simp) (Nat.le_of_ble_eq_true rfl) (fun z hz => by
      simp only [List.mem_cons, List.not_mem_nil, or_false] at hz
      rcases hz with rfl | rfl
      · exact qx
      · exact qy)
  · obtain ⟨x, y, rfl, hx, hy⟩ := fit2 (a := 109) (b := 115) hF
    obtain ⟨wx, rfl, lx, qx⟩ := part_words hx (by decide)
    obtain ⟨wy, rfl, qy⟩ := part_word hy (by decide)
    exact .first lx qx qy
  · obtain ⟨x, rfl, hx⟩ := fit1 (a := 108) hF
    obtain ⟨wx, rfl, qx⟩ := part_word hx (by decide)
    exact .plain (zs := [wx]) (by simp) (Nat.le_of_ble_eq_true rfl) (fun z hz => by
      simp only [List.mem_cons, List.not_mem_nil, or_false] at hz
      rcases hz with rfl
      · exact qx)
  · obtain ⟨x, y, rfl, hx, hy⟩ := fit2 (a := 103) (b := 115) hF
    obtain ⟨wx, rfl, qx⟩ := part_word hx (by decide)
    obtain ⟨wy, rfl, qy⟩ := part_word hy (by decide)
    exact .plain (zs := [wx, wy]) (by simp) (Nat.le_of_ble_eq_true rfl) (fun z hz => by
      simp only [List.mem_cons, List.not_mem_nil, or_false] at hz
      rcases hz with rfl | rfl
      · exact qx
      · exact qy)
  · obtain ⟨x, y, rfl, hx, hy⟩ := fit2 (a := 115) (b := 118) hF
    obtain ⟨wx, rfl, qx⟩ := part_word hx (by decide)
    obtain ⟨wy, rfl, ly, qy⟩ := part_words hy (by decide)
    exact .note ly qy qx
  · obtain ⟨x, y, rfl, hx, hy⟩ := fit2 (a := 115) (b := 119) hF
    obtain ⟨wx, rfl, qx⟩ := part_word hx (by decide)
    obtain ⟨wy, rfl, qy⟩ := part_word hy (by decide)
    exact .plain (zs := [wx, wy]) (by simp) (Nat.le_of_ble_eq_true rfl) (fun z hz => by
      simp only [List.mem_cons, List.not_mem_nil, or_false] at hz
      rcases hz with rfl | rfl
      · exact qx
      · exact qy)
  · obtain ⟨x, y, z, u, rfl, hx, hy, hz, hu⟩ := fit4 (a := 114) (b := 119) (c := 98) (e := 98) hF
    obtain ⟨wx, rfl, qx⟩ := part_word hx (by decide)
    obtain ⟨wy, rfl, qy⟩ := part_word hy (by decide)
    obtain ⟨wz, rfl⟩ := part_list hz
    obtain ⟨wu, rfl⟩ := part_list hu
    exact .cond qx qy (hL wz (by decide +kernel) (by simp)) (hL wu (by decide +kernel) (by simp))
  · obtain ⟨x, rfl, hx⟩ := fit1 (a := 98) hF
    obtain ⟨wx, rfl⟩ := part_list hx
    exact .loop (hL wx (by decide +kernel) (by simp))
  · have := fit_len hF (n := 0) (by decide +kernel)
    obtain rfl : ps = [] := List.length_eq_zero_iff.mp this
    exact .plain (zs := []) (by simp) (by decide) (fun z hz => (List.not_mem_nil hz).elim)
  · obtain ⟨x, rfl, hx⟩ := fit1 (a := 98) hF
    obtain ⟨wx, rfl⟩ := part_list hx
    exact .part (hL wx (by decide +kernel) (by simp))
  · obtain ⟨x, rfl, hx⟩ := fit1 (a := 116) hF
    obtain ⟨wx, rfl, lx, qx⟩ := part_br hx
    exact .both lx fun x hx => hin x (by unfold innerL; rw [if_pos rfl]; exact hx)
  · obtain ⟨x, y, z, rfl, hx, hy, hz⟩ := fit3 (a := 105) (b := 98) (c := 98) hF
    obtain ⟨wx, rfl, qx⟩ := part_word hx (by decide)
    obtain ⟨wy, rfl⟩ := part_list hy
    obtain ⟨wz, rfl⟩ := part_list hz
    exact .gate qx (hL wy (by decide +kernel) (by simp)) (hL wz (by decide +kernel) (by simp))
  · obtain ⟨x, y, rfl, hx, hy⟩ := fit2 (a := 105) (b := 98) hF
    obtain ⟨wx, rfl, qx⟩ := part_word hx (by decide)
    obtain ⟨wy, rfl⟩ := part_list hy
    exact .past qx (hL wy (by decide +kernel) (by simp))
  · exact absurd rfl hne
  · obtain ⟨x, rfl, hx⟩ := fit1 (a := 114) hF
    obtain ⟨wx, rfl, qx⟩ := part_word hx (by decide)
    exact .plain (zs := [wx]) (by simp) (Nat.le_of_ble_eq_true rfl) (fun z hz => by
      simp only [List.mem_cons, List.not_mem_nil, or_false] at hz
      rcases hz with rfl
      · exact qx)
  · obtain ⟨x, rfl, hx⟩ := fit1 (a := 114) hF
    obtain ⟨wx, rfl, qx⟩ := part_word hx (by decide)
    exact .plain (zs := [wx]) (by simp) (Nat.le_of_ble_eq_true rfl) (fun z hz => by
      simp only [List.mem_cons, List.not_mem_nil, or_false] at hz
      rcases hz with rfl
      · exact qx)
section
variable {blk : Nat → List PyData → List Str} {lv : Nat} {R : List PyData → Prop}
theorem rowL_first {zs : List Str} {s : Str} : rowL blk lv "first" [.tuple (zs.map .str), .str s] = [mar lv ++ jn ("first" :: (zs ++ [s]))] := by
  unfold rowL
  rw [if_pos rfl]
  show [mar lv ++ jn ("first" :: ((zs.map PyData.str).map strOf ++ [s]))] = _
  rw [map_strOf]
theorem rowL_note {zs : List Str} {s : Str} : rowL blk lv "note" [.str s, .tuple (zs.map .str)] = [mar lv ++ jn ("note" :: s :: zs)] := by
  unfold rowL
  rw [if_neg (by decide +kernel), if_pos rfl]
  show [mar lv ++ jn ("note" :: s :: (zs.map PyData.str).map strOf)] = _
  rw [map_strOf]
theorem rowL_if {r v : Str} {a b : List PyData} : rowL blk lv "if" [.str r, .str v, .list a, .list b] = ((mar lv ++ jn ["if", r, v]) :: blk (lv + 1) a) ++ ((mar lv ++ "else") :: blk (lv + 1) b) := by
  unfold rowL
  rw [if_neg (by decide +kernel), if_neg (by decide +kernel), if_pos rfl]
  rfl
theorem rowL_gate {i : Str} {a b : List PyData} : rowL blk lv "gate" [.str i, .list a, .list b] = ((mar lv ++ jn ["gate", i]) :: blk (lv + 1) a) ++ ((mar lv ++ "old") :: blk (lv + 1) b) := by
  unfold rowL
  rw [if_neg (by decide +kernel), if_neg (by decide +kernel), if_neg (by decide +kernel), if_pos rfl]
  rfl
theorem rowL_loop {kind : Str} {a : List PyData} (h : kind = "loop" ∨ kind = "part") : rowL blk lv kind [.list a] = (mar lv ++ kind) :: blk (lv + 1) a := by
  unfold rowL
  rw [if_neg (by rcases h with rfl | rfl <;> decide +kernel), if_neg (by rcases h with rfl | rfl <;> decide +kernel), if_neg (by rcases h with rfl | rfl <;> decide +kernel), if_neg (by rcases h with rfl | rfl <;> decide +kernel), if_pos h]
  rfl
theorem rowL_past {i : Str} {a : List PyData} : rowL blk lv "past" [.str i, .list a] = (mar lv ++ jn ["past", i]) :: blk (lv + 1) a := by
  unfold rowL
  rw [if_neg (by decide +kernel), if_neg (by decide +kernel), if_neg (by decide +kernel), if_neg (by decide +kernel), if_neg (by decide +kernel), if_pos rfl]
  rfl
theorem rowL_both {ls : List PyData} : rowL blk lv "both" [.tuple ls] = (mar lv ++ "both") :: sideL blk lv ls := by
  unfold rowL
  rw [if_neg (by decide +kernel), if_neg (by decide +kernel), if_neg (by decide +kernel), if_neg (by decide +kernel), if_neg (by decide +kernel), if_neg (by decide +kernel), if_pos rfl]
  rfl
def plainK (kind : Str) : Prop := kind = "ask" ∨ kind = "timer" ∨ kind = "await" ∨ kind = "drop" ∨ kind = "take" ∨ kind = "put" ∨ kind = "leave" ∨ kind = "end" ∨ kind = "anew"
theorem plain_ne {kind : Str} (h : plainK kind) : ¬ kind = "first" ∧ ¬ kind = "note" ∧ ¬ kind = "if" ∧ ¬ kind = "gate" ∧ ¬ kind = "loop" ∧ ¬ kind = "part" ∧ ¬ kind = "past" ∧ ¬ kind = "both" ∧ kind.length ≤ 20 := by
  rcases h with rfl | rfl | rfl | rfl | rfl | rfl | rfl | rfl | rfl <;> decide +kernel
theorem rowL_plain {kind : Str} {zs : List Str} (h : plainK kind) : rowL blk lv kind (zs.map .str) = [mar lv ++ jn (kind :: zs)] := by
  obtain ⟨h1, h2, h3, h4, h5, h6, h7, h8, _⟩ := plain_ne h
  unfold rowL
  rw [if_neg h1, if_neg h2, if_neg h3, if_neg h4, if_neg (fun z => z.elim h5 h6), if_neg h7, if_neg h8, map_strOf]
end
/-! ### sizes -/
theorem mar_len : ∀ lv : Nat, lv < 30 → (mar lv).length ≤ 60 := by decide +kernel
theorem sum_le {B : Nat} : ∀ {ys : List Str}, (∀ y ∈ ys, y.length ≤ B) → (ys.map (·.length)).sum ≤ ys.length * B
  | [], _ => Nat.zero_le _
  | y :: r, h => by
    have h1 := h y List.mem_cons_self
    have h2 := sum_le (ys := r) fun z hz => h z (List.mem_cons_of_mem _ hz)
    rw [List.map_cons, List.sum_cons, List.length_cons, Nat.succ_mul]
    omega
theorem jn_fits {ys : List Str} (h1 : ys.length ≤ 10) (h2 : ∀ y ∈ ys, y.length ≤ 20) : (ys.map (·.length)).sum + ys.length * (" " : Str).length ≤ 16777216 := by
  have := sum_le h2
  have e : (" " : Str).length = 1 := by decide +kernel
  rw [e]
  have : ys.length * 20 ≤ 200 := by omega
  omega
theorem jn_len {ys : List Str} (h1 : ys.length ≤ 10) (h2 : ∀ y ∈ ys, y.length ≤ 20) : (jn ys).length ≤ 210 := by
  have a := sum_le h2
  have b : (jn ys).length ≤ (ys.map (·.length)).sum + ys.length * (" " : Str).length := by
    show (PySem.Builtin.Str.glued " " ys).length ≤ _
    rw [StrLaws.glued_eq_join]
    exact StrLaws.join_length_le " " ys
  have e : (" " : Str).length = 1 := by decide +kernel
  rw [e] at b
  have : ys.length * 20 ≤ 200 := by omega
  omega
end Op
namespace Op
open PySem L2 PyProof.Rows
theorem wt_str (x : Str) : wt (.str x) = 1 + x.length := by rw [wt]
theorem line_ok {lv : Nat} {x : Str} (h1 : lv < 30) (h2 : x.length ≤ 210) : (mar lv ++ x).length ≤ 300 := by
  have := mar_len lv h1
  rw [Str.length_append]
  omega
theorem mem20 {zs : List Str} (h : ∀ z ∈ zs, w8 z) : ∀ z ∈ zs, z.length ≤ 20 := fun z hz => Nat.le_trans (h z hz) (by decide)
theorem cons20 {x : Str} {zs : List Str} (h1 : x.length ≤ 20) (h : ∀ z ∈ zs, z.length ≤ 20) : ∀ z ∈ x :: zs, z.length ≤ 20 := fun z hz => by
  rcases List.mem_cons.mp hz with rfl | hz
  · exact h1
  · exact h z hz
theorem nil20 : ∀ z ∈ ([] : List Str), z.length ≤ 20 := fun z hz => (List.not_mem_nil hz).elim
theorem w20 {x : Str} (h : w8 x) : x.length ≤ 20 := Nat.le_trans h (by decide)
theorem app20 {a b : List Str} (h1 : ∀ z ∈ a, z.length ≤ 20) (h2 : ∀ z ∈ b, z.length ≤ 20) : ∀ z ∈ a ++ b, z.length ≤ 20 := fun z hz => by
  rcases List.mem_append.mp hz with hz | hz
  · exact h1 z hz
  · exact h2 z hz
def Lok (ys : List Str) (n : Nat) : Prop := ys.length ≤ n ∧ ∀ y ∈ ys, y.length ≤ 300
theorem Lok.one {y : Str} {n : Nat} (h : y.length ≤ 300) (hn : 1 ≤ n) : Lok [y] n := ⟨hn, fun z hz => by rw [List.mem_singleton.mp hz]; exact h⟩
theorem Lok.cons {y : Str} {ys : List Str} {n : Nat} (h : y.length ≤ 300) (k : Lok ys n) : Lok (y :: ys) (1 + n) := ⟨by have := k.1; rw [List.length_cons]; omega, fun z hz => by
  rcases List.mem_cons.mp hz with rfl | hz
  · exact h
  · exact k.2 z hz⟩
theorem Lok.app {a b : List Str} {n m : Nat} (h : Lok a n) (k : Lok b m) : Lok (a ++ b) (n + m) := ⟨by have := h.1; have := k.1; rw [List.length_append]; omega, fun z hz => by
  rcases List.mem_append.mp hz with hz | hz
  · exact h.2 z hz
  · exact k.2 z hz⟩
theorem Lok.mono {a : List Str} {n m : Nat} (h : Lok a n) (k : n ≤ m) : Lok a m := ⟨Nat.le_trans h.1 k, h.2⟩
section
variable {blk : Nat → List PyData → List Str} {lv : Nat} {R : List PyData → Prop}
theorem side_ok (hb : ∀ lv' ds, lv' ≤ lv + 2 → R ds → Lok (blk lv' ds) (wts ds)) (hlv : lv < 30) : ∀ ls : List PyData, (∀ x ∈ ls, isList x = true ∧ R (listOf x)) → Lok (sideL blk lv ls) (wts ls)
  | [], _ => ⟨Nat.zero_le _, fun z hz => (List.not_mem_nil hz).elim⟩
  | d :: r, h => by
    have h1 := hb (lv + 2) (listOf d) (Nat.le_refl _) (h d List.mem_cons_self).2
    have h2 := side_ok hb hlv r fun x hx => h x (List.mem_cons_of_mem _ hx)
    have h3 := wts_listOf d
    have h4 := Lok.cons (line_ok (x := "  side") hlv (by decide +kernel)) (h1.app h2)
    exact h4.mono (by rw [wts_cons]; omega)
theorem rowL_ok (hb : ∀ lv' ds, lv' ≤ lv + 2 → R ds → Lok (blk lv' ds) (wts ds)) (hlv : lv < 30) {kind : Str} {ps : List PyData} (h : RowK R kind ps) : Lok (rowL blk lv kind ps) (1 + wts (.str kind :: ps)) := by
  cases h with
  | @first zs s h1 h2 h3 =>
    rw [rowL_first]
    exact .one (line_ok hlv (jn_len (by rw [List.length_cons, List.length_append]; show zs.length + 1 + 1 ≤ 10; omega) (cons20 (by decide +kernel) (app20 (mem20 h2) (cons20 (w20 h3) nil20))))) (by omega)
  | @note zs s h1 h2 h3 =>
    rw [rowL_note]
    exact .one (line_ok hlv (jn_len (by rw [List.length_cons, List.length_cons]; omega) (cons20 (by decide +kernel) (cons20 (w20 h3) (mem20 h2))))) (by omega)
  | @cond r v a b h1 h2 h3 h4 =>
    rw [rowL_if]
    have q := (Lok.cons (line_ok hlv (jn_len (ys := ["if", r, v]) (by show 3 ≤ 10; decide) (cons20 (by decide +kernel) (cons20 (w20 h1) (cons20 (w20 h2) nil20))))) (hb (lv + 1) a (by omega) h3)).app (Lok.cons (line_ok (x := "else") hlv (by decide +kernel)) (hb (lv + 1) b (by omega) h4))
    exact q.mono (by rw [wts_cons, wts_cons, wts_cons, wts_cons, wts_cons, wts_nil, wt_list, wt_list]; omega)
  | @gate i a b h1 h3 h4 =>
    rw [rowL_gate]
    have q := (Lok.cons (line_ok hlv (jn_len (ys := ["gate", i]) (by show 2 ≤ 10; decide) (cons20 (by decide +kernel) (cons20 (w20 h1) nil20)))) (hb (lv + 1) a (by omega) h3)).app (Lok.cons (line_ok (x := "old") hlv (by decide +kernel)) (hb (lv + 1) b (by omega) h4))
    exact q.mono (by rw [wts_cons, wts_cons, wts_cons, wts_cons, wts_nil, wt_list, wt_list]; omega)
  | @loop a h3 =>
    rw [rowL_loop (.inl rfl)]
    have q := Lok.cons (line_ok (x := "loop") hlv (by decide +kernel)) (hb (lv + 1) a (by omega) h3)
    exact q.mono (by rw [wts_cons, wts_cons, wts_nil, wt_list]; omega)
  | @part a h3 =>
    rw [rowL_loop (.inr rfl)]
    have q := Lok.cons (line_ok (x := "part") hlv (by decide +kernel)) (hb (lv + 1) a (by omega) h3)
    exact q.mono (by rw [wts_cons, wts_cons, wts_nil, wt_list]; omega)
  | @past i a h1 h3 =>
    rw [rowL_past]
    have q := Lok.cons (line_ok hlv (jn_len (ys := ["past", i]) (by show 2 ≤ 10; decide) (cons20 (by decide +kernel) (cons20 (w20 h1) nil20)))) (hb (lv + 1) a (by omega) h3)
    exact q.mono (by rw [wts_cons, wts_cons, wts_cons, wts_nil, wt_list]; omega)
  | @both ls h1 h2 =>
    rw [rowL_both]
    have q := Lok.cons (line_ok (x := "both") hlv (by decide +kernel)) (side_ok hb hlv ls h2)
    exact q.mono (by rw [wts_cons, wts_cons, wts_nil, wt_tuple]; omega)
  | @plain _ zs hk h1 h2 =>
    rw [rowL_plain hk]
    exact .one (line_ok hlv (jn_len (by rw [List.length_cons]; omega) (cons20 (plain_ne hk).2.2.2.2.2.2.2.2 (mem20 h2)))) (by omega)
end
theorem blk_ok : ∀ (n lv : Nat) (ds : List PyData), lv + 2 * n ≤ 25 → rowsF n ds → Lok (blkL n lv ds) (wts ds)
  | 0, _, _, _, h => h.elim
  | n + 1, lv, ds, hl, h => by
    have key : ∀ l : List PyData, (∀ d ∈ l, rowF (rowsF n) d) → Lok (rowsT (blkL n) lv l) (wts l) := by
      intro l
      induction l with
      | nil => intro _; exact ⟨Nat.zero_le _, fun z hz => (List.not_mem_nil hz).elim⟩
      | cons d r ih =>
        intro h
        obtain ⟨kind, ps, rfl, hk⟩ := rowK_of (h d List.mem_cons_self)
        have h1 := rowL_ok (blk := blkL n) (lv := lv) (fun lv' ds hl' hd => blk_ok n lv' ds (by omega) hd) (by omega) hk
        have h2 := h1.app (ih fun d hd => h d (List.mem_cons_of_mem _ hd))
        rw [wts_cons, wt_tuple]
        exact h2
    exact key ds h
theorem wts_append : ∀ a b : List PyData, wts (a ++ b) = wts a + wts b
  | [], b => by rw [List.nil_append, wts_nil, Nat.zero_add]
  | x :: r, b => by rw [List.cons_append, wts_cons, wts_cons, wts_append r b]; omega
theorem wts_take_le : ∀ (n : Nat) (ds : List PyData), wts (ds.take n) ≤ wts ds
  | 0, ds => by rw [List.take_zero, wts_nil]; exact Nat.zero_le _
  | n + 1, [] => Nat.le_refl _
  | n + 1, d :: r => by
    have := wts_take_le n r
    rw [List.take_succ_cons, wts_cons, wts_cons]
    omega
end Op
namespace Op
open PySem L2 PyProof.Rows
section
variable {P : Program} {w : World} {K : PySem.W.Frag} {mg : Str → Option Value} {base : Heap}
def spBlk (K : PySem.W.Frag) (n : Nat) : Sp := fun vs H Q _ => ∃ (v : V) (lv : Nat) (ds : List PyData), vs = [v, .int (lv : Int)] ∧ Dp K H v (.list ds) ∧ rowsF n ds ∧ lv + 2 * n ≤ 25 ∧ wts ds ≤ 30000 ∧ ∀ p H', Same H H' → H p = none → H' p = some (.lst ((blkL n lv ds).map V.str)) → Q (.ref p) H'
def spRowT (K : PySem.W.Frag) (n : Nat) : Sp := fun vs H Q _ => ∃ (v : V) (lv : Nat) (kind : Str) (ps : List PyData), vs = [v, .int (lv : Int)] ∧ Dp K H v (.tuple (.str kind :: ps)) ∧ RowK (rowsF n) kind ps ∧ lv + 2 * n + 2 ≤ 25 ∧ wts ps ≤ 30000 ∧ ∀ p H', Same H H' → H p = none → H' p = some (.lst ((rowL (blkL n) lv kind ps).map V.str)) → Q (.ref p) H'
theorem sc_block_lines : FnScope ["rows", "level", "lines", "row"] ["rows", "level"] (defScope s_block_lines) := ⟨rfl, rfl, rfl, by decide +kernel, rfl, by decide +kernel, by decide +kernel⟩
theorem ok_block_lines {f : Addr} {fd : FuncData} {k n : Nat} (F : Fun K "block_lines" "block_lines" s_block_lines f fd) (T : Txt mg) (c_row_lines : Cal P w K mg base CX0 (k + 1) "row_lines" ["row", "level"] (spRowT K n)) : FnOk P w K mg base CX0 (k + 2) f fd ["rows", "level"] (spBlk K (n + 1)) := by
  refine F.ok sc_block_lines (fun vs H Q E h => ?_) (fun cdv A outer s H vs Q E hr h => ?_)
  · obtain ⟨v, lv, ds, rfl, _⟩ := h
    rfl
  · obtain ⟨v, lv, ds, rfl, hd, hF, hlv, hw, kk⟩ := h
    refine ⟨_, (pss_cons (ps_set (i := 2) sc_block_lines.nd rfl (.inl rfl) (pe_lst pa_nil))
      (pss_cons (ps_for PassesOwn.never rfl (pi_list (pv 0)) (pg_name (i := 3) sc_block_lines.nd rfl (.inl rfl)) (pss_one (ps_expr (pe_bm PySem.F.plainAttrs_list PySem.F.slot_list_extend PySem.F.type_list_extend mt_extend (pv 2) (pa_cons (pe_cal c_row_lines (hr.mono (by omega)) rfl pass0 (pa_cons (pv 3) (pa_cons (pv 1) pa_nil))) pa_nil)))))
      (pss_one (ps_ret (pv 2))))), ?_⟩
    cases hd with
    | @lst rws xs _ hq ha =>
    have hxl := ha.len
    have hdl := wts_len ds
    refine ⟨sz_lit (by show 0 ≤ 100000; decide), fun l hl => ?_⟩
    have s1 := Same.new (o := .lst []) hl
    have l1 := at_new (o := .lst []) hl
    revert s1 l1
    generalize upd H l _ = H1
    intro s1 l1
    refine ⟨_, rfl, rws, rfl, ⟨_, hq.mono s1⟩, ?_⟩
    refine for_it (walk_list (xs := xs)) (fun i σ H' => (∃ y3 : Option V, σ = [some (.ref rws), some (.int (lv : Int)), some (.ref l), y3]) ∧ Same H H' ∧ H' l = some (.lst ((rowsT (blkL n) lv (ds.take i)).map V.str)) ∧ (rowsT (blkL n) lv (ds.take i)).length ≤ wts (ds.take i)) ⟨⟨_, rfl⟩, s1, l1, Nat.zero_le _⟩ (fun i σ H' _ p => hq.mono p.2.1) ?_ ?_
    · rintro i x σ H2 H3 hi ⟨⟨y3, rfl⟩, sm, hl2, hlen⟩ ⟨rfl, hx⟩
      obtain ⟨d, hd1, hdx⟩ := ha.get hx
      obtain ⟨kind, ps, rfl, hk⟩ := rowK_of (hF d (List.mem_of_getElem? hd1))
      have hwd := wts_mem (List.mem_of_getElem? hd1)
      rw [wt_tuple, wts_cons] at hwd
      have hRok := rowL_ok (blk := blkL n) (lv := lv) (fun lv' ds hl' hd => blk_ok n lv' ds (by omega) hd) (by omega) hk
      have htk : wts (ds.take (i + 1)) = wts (ds.take i) + wt (.tuple (.str kind :: ps)) := by rw [TS.take_one hd1, wts_append, wts_cons, wts_nil]; omega
      have htl := wts_take_le (i + 1) ds
      rw [wt_tuple, wts_cons] at htk
      have hR1 := hRok.1
      rw [wts_cons] at hR1
      refine ⟨_, rfl, .inl ⟨rfl, _, .inl (.inl hl2)⟩, _, rfl, _, rfl, x, lv, kind, ps, rfl, hdx.mono sm, hk, by omega, by omega, fun p H4 s4 hp hp4 => ?_⟩
      refine ⟨l, p, _, _, rfl, rfl, s4 _ _ hl2, hp4, sz_lit (by rw [List.length_map, List.length_map]; omega), ⟨_, rfl⟩, fun b o hb => ?_, ?_, ?_⟩
      · rw [upd_ne (ne_of_none hb hl)]
        exact s4 b o (sm b o hb)
      · rw [upd_same, TS.take_one hd1, rowsT_app, List.map_append]
        show _ = some (HO.lst (_ ++ List.map V.str (rowL (blkL n) lv kind ps ++ [])))
        rw [List.append_nil]
      · rw [TS.take_one hd1, rowsT_app, List.length_append, ← TS.take_one hd1, htk]
        show _ + (rowL (blkL n) lv kind ps ++ []).length ≤ _
        rw [List.append_nil]
        omega
    · rintro σ H2 ⟨⟨y3, rfl⟩, sm, hl2, _⟩
      rw [List.take_of_length_le (by omega)] at hl2
      exact ⟨_, rfl, kk l H2 sm hl hl2⟩
end
end Op
namespace Op
open PySem L2 PyProof.Rows
theorem strs_dp {K : PySem.W.Frag} {H : Hp} : ∀ {zs : List Str} {xs : List V}, DpAll K H xs (zs.map PyData.str) → xs = zs.map V.str
  | [], _, h => by cases h; rfl
  | n :: r, _, h => by
    cases h with
    | cons a b =>
      cases a
      rw [strs_dp b]
      rfl
section
variable {P : Program} {w : World} {K : PySem.W.Frag} {mg : Str → Option Value} {base : Heap}
theorem sc_row_lines : FnScope ["row", "level", "margin", "kind", "lines", "branch"] ["row", "level"] (defScope s_row_lines) := ⟨rfl, rfl, rfl, by decide +kernel, rfl, by decide +kernel, by decide +kernel⟩
theorem ok_row_lines {f : Addr} {fd : FuncData} {k n : Nat} (F : Fun K "row_lines" "row_lines" s_row_lines f fd) (T : Txt mg) (c_block_lines : Cal P w K mg base CX0 (k + 1) "block_lines" ["rows", "level"] (spBlk K n)) : FnOk P w K mg base CX0 (k + 2) f fd ["row", "level"] (spRowT K n) := by
  refine F.ok sc_row_lines (fun vs H Q E h => ?_) (fun cdv A outer s H vs Q E hr h => ?_)
  · obtain ⟨v, lv, kind, ps, rfl, _⟩ := h
    rfl
  · obtain ⟨v, lv, kind, ps, rfl, hd, hk, hlv, hw, kk⟩ := h
    refine ⟨_, (pss_cons (ps_set (i := 2) sc_row_lines.nd rfl (.inl rfl) (pe_op op_mulS pe_str (pv 1)))
      (pss_cons (ps_set (i := 3) sc_row_lines.nd rfl (.inl rfl) (pe_ix ix_tup (pv 0) pe_int (fun _ _ => rfl)))
      (pss_cons (ps_if (pt_cmpR op_eq (pv 3) pe_str (nomark _)) (pss_one (ps_ret (pe_lst (pa_cons (pe_op op_add_str (pv 2) (pe_join pe_str (pe_lst (pa_cons pe_str (StX.pa_star (pe_ix ix_tup (pv 0) pe_int (fun _ _ => rfl)) (pa_cons (pe_ix ix_tup (pv 0) pe_int (fun _ _ => rfl)) pa_nil)))))) pa_nil)))) pss_nil)
      (pss_cons (ps_if (pt_cmpR op_eq (pv 3) pe_str (nomark _)) (pss_one (ps_ret (pe_lst (pa_cons (pe_op op_add_str (pv 2) (pe_join pe_str (pe_lst (pa_cons pe_str (pa_cons (pe_ix ix_tup (pv 0) pe_int (fun _ _ => rfl)) (StX.pa_star (pe_ix ix_tup (pv 0) pe_int (fun _ _ => rfl)) pa_nil)))))) pa_nil)))) pss_nil)
      (pss_cons (ps_if (pt_cmpR op_eq (pv 3) pe_str (nomark _)) (pss_cons (ps_set (i := 4) sc_row_lines.nd rfl (.inl rfl) (pe_op op_cat (pe_lst (pa_cons (pe_op op_add_str (pv 2) (pe_join pe_str (pe_slice sl_tupA (pv 0) po_none (po_some pe_int)))) pa_nil)) (pe_cal c_block_lines (hr.mono (by omega)) rfl pass0 (pa_cons (pe_ix ix_tup (pv 0) pe_int (fun _ _ => rfl)) (pa_cons (pe_op op_add (pv 1) pe_int) pa_nil)))))
      (pss_one (ps_ret (pe_op op_cat (pe_op op_cat (pv 4) (pe_lst (pa_cons (pe_op op_add_str (pv 2) pe_str) pa_nil))) (pe_cal c_block_lines (hr.mono (by omega)) rfl pass0 (pa_cons (pe_ix ix_tup (pv 0) pe_int (fun _ _ => rfl)) (pa_cons (pe_op op_add (pv 1) pe_int) pa_nil))))))) pss_nil)
      (pss_cons (ps_if (pt_cmpR op_eq (pv 3) pe_str (nomark _)) (pss_cons (ps_set (i := 4) sc_row_lines.nd rfl (.inl rfl) (pe_op op_cat (pe_lst (pa_cons (pe_op op_add_str (pv 2) (pe_join pe_str (pe_slice sl_tupA (pv 0) po_none (po_some pe_int)))) pa_nil)) (pe_cal c_block_lines (hr.mono (by omega)) rfl pass0 (pa_cons (pe_ix ix_tup (pv 0) pe_int (fun _ _ => rfl)) (pa_cons (pe_op op_add (pv 1) pe_int) pa_nil)))))
      (pss_one (ps_ret (pe_op op_cat (pe_op op_cat (pv 4) (pe_lst (pa_cons (pe_op op_add_str (pv 2) pe_str) pa_nil))) (pe_cal c_block_lines (hr.mono (by omega)) rfl pass0 (pa_cons (pe_ix ix_tup (pv 0) pe_int (fun _ _ => rfl)) (pa_cons (pe_op op_add (pv 1) pe_int) pa_nil))))))) pss_nil)
      (pss_cons (ps_if (PW.pt (pw_or (pt_cmpR op_eq (pv 3) pe_str (nomark _)) (pw_or1 (pt_cmpR op_eq (pv 3) pe_str (nomark _))))) (pss_one (ps_ret (pe_op op_cat (pe_lst (pa_cons (pe_op op_add_str (pv 2) (pv 3)) pa_nil)) (pe_cal c_block_lines (hr.mono (by omega)) rfl pass0 (pa_cons (pe_ix ix_tup (pv 0) pe_int (fun _ _ => rfl)) (pa_cons (pe_op op_add (pv 1) pe_int) pa_nil)))))) pss_nil)
      (pss_cons (ps_if (pt_cmpR op_eq (pv 3) pe_str (nomark _)) (pss_one (ps_ret (pe_op op_cat (pe_lst (pa_cons (pe_op op_add_str (pv 2) (pe_join pe_str (pe_slice sl_tupA (pv 0) po_none (po_some pe_int)))) pa_nil)) (pe_cal c_block_lines (hr.mono (by omega)) rfl pass0 (pa_cons (pe_ix ix_tup (pv 0) pe_int (fun _ _ => rfl)) (pa_cons (pe_op op_add (pv 1) pe_int) pa_nil)))))) pss_nil)
      (pss_cons (ps_if (pt_cmpR op_eq (pv 3) pe_str (nomark _)) (pss_cons (ps_set (i := 4) sc_row_lines.nd rfl (.inl rfl) (pe_lst (pa_cons (pe_op op_add_str (pv 2) pe_str) pa_nil)))
      (pss_cons (ps_for PassesOwn.never rfl (pi_tup (pe_ix ix_tup (pv 0) pe_int (fun _ _ => rfl))) (pg_name (i := 5) sc_row_lines.nd rfl (.inl rfl)) (pss_one (ps_set (i := 4) sc_row_lines.nd rfl (.inl rfl) (pe_op op_cat (pe_op op_cat (pv 4) (pe_lst (pa_cons (pe_op op_add_str (pv 2) pe_str) pa_nil))) (pe_cal c_block_lines (hr.mono (by omega)) rfl pass0 (pa_cons (pv 5) (pa_cons (pe_op op_add (pv 1) pe_int) pa_nil)))))))
      (pss_one (ps_ret (pv 4))))) pss_nil)
      (pss_one (ps_ret (pe_lst (pa_cons (pe_op op_add_str (pv 2) (pe_join pe_str (pv 0))) pa_nil))))))))))))), ?_⟩
    cases hd with
    | @tup t xs _ hq ha =>
    cases ha with
    | @cons v0 vr _ _ h0 hr0 =>
    cases h0
    have hml := mar_len lv (by omega)
    refine ⟨_, rfl, "  ", lv, rfl, rfl, by omega, by omega, by decide +kernel, _, rfl, t, _, 0, _, rfl, rfl, hq, atI_zero _ _, ?_⟩
    cases hk with
    | @first zs s0 h1 h2 h3 =>
      cases hr0 with
      | @cons v1 r1 _ _ g1 hr1 =>
      cases hr1 with
      | @cons v2 r2 _ _ g2 hr2 =>
      cases hr2
      cases g2
      cases g1 with
      | @tup t1 ws _ hq1 hw1 =>
      obtain rfl := strs_dp hw1
      rw [rowL_first] at kk
      refine ⟨_, rfl, rfl, _, rfl, ifT (by decide +kernel) ?_⟩
      refine ⟨_, rfl, ⟨_, rfl⟩, _, rfl, t, _, 1, _, rfl, rfl, hq, atI_one _ _ _, t1, _, rfl, .inl hq1, _, rfl, t, _, 2, _, rfl, rfl, hq, rfl, sz_lit (by rw [List.length_cons, List.length_append, List.length_map]; show _ + 1 + 1 ≤ _; omega), fun l hl => ?_⟩
      have hln : (("first" : Str) :: (zs ++ [s0])).length ≤ 10 := by rw [List.length_cons, List.length_append]; show _ + 1 + 1 ≤ 10; omega
      have hal : ∀ z ∈ (("first" : Str) :: (zs ++ [s0])), z.length ≤ 20 := cons20 (by decide +kernel) (app20 (mem20 h2) (cons20 (w20 h3) nil20))
      refine ⟨" ", l, (("first" : Str) :: (zs ++ [s0])), rfl, rfl, .inl (.inl (.inl (by rw [upd_same, List.map_cons, List.map_append]; rfl))), jn_fits (hln) (hal), mar lv, jn ((("first" : Str) :: (zs ++ [s0]))), rfl, rfl, sz_lit (by have := jn_len (ys := (("first" : Str) :: (zs ++ [s0]))) (hln) (hal); omega), sz1 _, fun q hq' => ?_⟩
      exact kk q _ ((Same.new hl).trans (Same.new hq')) ((Same.new hl).free hq') upd_same
    | @note zs s0 h1 h2 h3 =>
      cases hr0 with
      | @cons v1 r1 _ _ g1 hr1 =>
      cases hr1 with
      | @cons v2 r2 _ _ g2 hr2 =>
      cases hr2
      cases g1
      cases g2 with
      | @tup t1 ws _ hq1 hw1 =>
      obtain rfl := strs_dp hw1
      rw [rowL_note] at kk
      refine ⟨_, rfl, rfl, _, rfl, ifF (by decide +kernel) ⟨_, rfl, rfl, _, rfl, ifT (by decide +kernel) ?_⟩⟩
      refine ⟨_, rfl, ⟨_, rfl⟩, _, rfl, t, _, 1, _, rfl, rfl, hq, atI_one _ _ _, _, rfl, t, _, 2, _, rfl, rfl, hq, rfl, t1, _, rfl, .inl hq1, sz_lit (by rw [List.length_cons, List.length_cons, List.length_append, List.length_map]; show _ + 0 + 1 + 1 ≤ _; omega), fun l hl => ?_⟩
      have hln : (("note" : Str) :: s0 :: zs).length ≤ 10 := by rw [List.length_cons, List.length_cons]; omega
      have hal : ∀ z ∈ (("note" : Str) :: s0 :: zs), z.length ≤ 20 := cons20 (by decide +kernel) (cons20 (w20 h3) (mem20 h2))
      refine ⟨" ", l, (("note" : Str) :: s0 :: zs), rfl, rfl, .inl (.inl (.inl (by rw [upd_same, List.append_nil]; rfl))), jn_fits (hln) (hal), mar lv, jn ((("note" : Str) :: s0 :: zs)), rfl, rfl, sz_lit (by have := jn_len (ys := (("note" : Str) :: s0 :: zs)) (hln) (hal); omega), sz1 _, fun q hq' => ?_⟩
      exact kk q _ ((Same.new hl).trans (Same.new hq')) ((Same.new hl).free hq') upd_same
    | @cond r0 v0 a b h1 h2 h3 h4 =>
      cases hr0 with
      | @cons v1 r1 _ _ g1 hr1 =>
      cases hr1 with
      | @cons v2 r2 _ _ g2 hr2 =>
      cases hr2 with
      | @cons v3 r3 _ _ g3 hr3 =>
      cases hr3 with
      | @cons v4 r4 _ _ g4 hr4 =>
      cases hr4
      cases g1
      cases g2
      rw [rowL_if] at kk
      rw [wts_cons, wts_cons, wts_cons, wts_cons, wts_nil, wt_list, wt_list] at hw
      have ba := (blk_ok n (lv + 1) a (by omega) h3).1
      have bb := (blk_ok n (lv + 1) b (by omega) h4).1
      refine ⟨_, rfl, rfl, _, rfl, ifF (by decide +kernel) ⟨_, rfl, rfl, _, rfl, ifF (by decide +kernel) ⟨_, rfl, rfl, _, rfl, ifT (by decide +kernel) ?_⟩⟩⟩
      have hal : ∀ z ∈ (["if", r0, v0] : List Str), z.length ≤ 20 := cons20 (by decide +kernel) (cons20 (w20 h1) (cons20 (w20 h2) nil20))
      refine ⟨_, rfl, ⟨_, rfl⟩, _, rfl, _, rfl, t, _, rfl, hq, (fun z => absurd z.2 (by rw [show (3 : Int) = ((3 : Nat) : Int) from rfl, HT.sIx_nat]; simp)), fun _ l hl => ?_⟩
      have hln : (["if", r0, v0] : List Str).length ≤ 10 := by show 3 ≤ 10; decide
      refine ⟨" ", l, ["if", r0, v0], rfl, rfl, .inr (.inl (.inl upd_same)), jn_fits hln hal, mar lv, jn ["if", r0, v0], rfl, rfl, sz_lit (by have := jn_len hln hal; omega), sz1 _, fun q1 hq1 => ?_⟩
      have sA := (Same.new (o := .tup _) hl).trans (Same.new (o := .lst [.str (mar lv ++ jn ["if", r0, v0])]) hq1)
      have lA := at_new (o := .lst [.str (mar lv ++ jn ["if", r0, v0])]) hq1
      have fA := (Same.new (o := .tup _) hl).free hq1
      revert sA lA fA
      generalize upd (upd H l _) q1 _ = HA
      intro sA lA fA
      refine ⟨_, rfl, t, _, 3, _, rfl, rfl, (hq.mono sA), rfl, _, rfl, _, _, rfl, rfl, _, lv + 1, a, rfl, (g3.mono sA), h3, by omega, by omega, fun pB HB sB fB lB => ?_⟩
      refine ⟨q1, pB, _, _, rfl, rfl, sB _ _ lA, lB, sz_lit (by rw [List.length_map]; show 1 + _ ≤ _; omega), fun q2 hq2 => ?_⟩
      have sC := sB.trans (Same.new (o := .lst ([.str (mar lv ++ jn ["if", r0, v0])] ++ (blkL n (lv + 1) a).map V.str)) hq2)
      have lC := at_new (o := .lst ([.str (mar lv ++ jn ["if", r0, v0])] ++ (blkL n (lv + 1) a).map V.str)) hq2
      revert sC lC
      generalize upd HB q2 _ = HC
      intro sC lC
      have sAC := sA.trans sC
      refine ⟨_, rfl, _, rfl, mar lv, "else", rfl, rfl, sz_lit (by show _ + 4 ≤ _; omega), sz1 _, fun q3 hq3 => ?_⟩
      refine ⟨q2, q3, _, _, rfl, rfl, Same.new hq3 _ _ lC, upd_same, sz_lit (by rw [List.length_append, List.length_map]; show 1 + _ + 1 ≤ _; omega), fun q4 hq4 => ?_⟩
      have sD := (Same.new (o := .lst [.str (mar lv ++ "else")]) hq3).trans (Same.new (o := .lst ([.str (mar lv ++ jn ["if", r0, v0])] ++ (blkL n (lv + 1) a).map V.str ++ [.str (mar lv ++ "else")])) hq4)
      have lD := at_new (o := .lst ([.str (mar lv ++ jn ["if", r0, v0])] ++ (blkL n (lv + 1) a).map V.str ++ [.str (mar lv ++ "else")])) hq4
      revert sD lD
      generalize upd (upd HC q3 _) q4 _ = HD
      intro sD lD
      have sAD := sAC.trans sD
      refine ⟨_, rfl, t, _, 4, _, rfl, rfl, (hq.mono sAD), rfl, _, rfl, _, _, rfl, rfl, _, lv + 1, b, rfl, (g4.mono sAD), h4, by omega, by omega, fun pE HE sE fE lE => ?_⟩
      refine ⟨q4, pE, _, _, rfl, rfl, sE _ _ lD, lE, sz_lit (by rw [List.length_append, List.length_append, List.length_map, List.length_map]; show 1 + _ + 1 + _ ≤ _; omega), fun q5 hq5 => ?_⟩
      have sZ := sAD.trans (sE.trans (Same.new (o := .lst ([.str (mar lv ++ jn ["if", r0, v0])] ++ (blkL n (lv + 1) a).map V.str ++ [.str (mar lv ++ "else")] ++ (blkL n (lv + 1) b).map V.str)) hq5))
      refine kk q5 _ sZ (sAD.free (sE.free hq5)) ?_
      rw [upd_same, List.map_append, List.map_cons, List.map_cons, List.append_assoc]
      rfl
    | @gate i0 a b h1 h3 h4 =>
      cases hr0 with
      | @cons v1 r1 _ _ g1 hr1 =>
      cases hr1 with
      | @cons v2 r2 _ _ g2 hr2 =>
      cases hr2 with
      | @cons v3 r3 _ _ g3 hr3 =>
      cases hr3
      cases g1
      rw [rowL_gate] at kk
      rw [wts_cons, wts_cons, wts_cons, wts_nil, wt_list, wt_list] at hw
      have ba := (blk_ok n (lv + 1) a (by omega) h3).1
      have bb := (blk_ok n (lv + 1) b (by omega) h4).1
      refine ⟨_, rfl, rfl, _, rfl, ifF (by decide +kernel) ⟨_, rfl, rfl, _, rfl, ifF (by decide +kernel) ⟨_, rfl, rfl, _, rfl, ifF (by decide +kernel) ⟨_, rfl, rfl, _, rfl, ifT (by decide +kernel) ?_⟩⟩⟩⟩
      have hal : ∀ z ∈ (["gate", i0] : List Str), z.length ≤ 20 := cons20 (by decide +kernel) (cons20 (w20 h1) nil20)
      refine ⟨_, rfl, ⟨_, rfl⟩, _, rfl, _, rfl, t, _, rfl, hq, (fun z => absurd z.2 (by rw [show (2 : Int) = ((2 : Nat) : Int) from rfl, HT.sIx_nat]; simp)), fun _ l hl => ?_⟩
      have hln : (["gate", i0] : List Str).length ≤ 10 := by show 2 ≤ 10; decide
      refine ⟨" ", l, ["gate", i0], rfl, rfl, .inr (.inl (.inl upd_same)), jn_fits hln hal, mar lv, jn ["gate", i0], rfl, rfl, sz_lit (by have := jn_len hln hal; omega), sz1 _, fun q1 hq1 => ?_⟩
      have sA := (Same.new (o := .tup _) hl).trans (Same.new (o := .lst [.str (mar lv ++ jn ["gate", i0])]) hq1)
      have lA := at_new (o := .lst [.str (mar lv ++ jn ["gate", i0])]) hq1
      have fA := (Same.new (o := .tup _) hl).free hq1
      revert sA lA fA
      generalize upd (upd H l _) q1 _ = HA
      intro sA lA fA
      refine ⟨_, rfl, t, _, 2, _, rfl, rfl, (hq.mono sA), rfl, _, rfl, _, _, rfl, rfl, _, lv + 1, a, rfl, (g2.mono sA), h3, by omega, by omega, fun pB HB sB fB lB => ?_⟩
      refine ⟨q1, pB, _, _, rfl, rfl, sB _ _ lA, lB, sz_lit (by rw [List.length_map]; show 1 + _ ≤ _; omega), fun q2 hq2 => ?_⟩
      have sC := sB.trans (Same.new (o := .lst ([.str (mar lv ++ jn ["gate", i0])] ++ (blkL n (lv + 1) a).map V.str)) hq2)
      have lC := at_new (o := .lst ([.str (mar lv ++ jn ["gate", i0])] ++ (blkL n (lv + 1) a).map V.str)) hq2
      revert sC lC
      generalize upd HB q2 _ = HC
      intro sC lC
      have sAC := sA.trans sC
      refine ⟨_, rfl, _, rfl, mar lv, "old", rfl, rfl, sz_lit (by show _ + 3 ≤ _; omega), sz1 _, fun q3 hq3 => ?_⟩
      refine ⟨q2, q3, _, _, rfl, rfl, Same.new hq3 _ _ lC, upd_same, sz_lit (by rw [List.length_append, List.length_map]; show 1 + _ + 1 ≤ _; omega), fun q4 hq4 => ?_⟩
      have sD := (Same.new (o := .lst [.str (mar lv ++ "old")]) hq3).trans (Same.new (o := .lst ([.str (mar lv ++ jn ["gate", i0])] ++ (blkL n (lv + 1) a).map V.str ++ [.str (mar lv ++ "old")])) hq4)
      have lD := at_new (o := .lst ([.str (mar lv ++ jn ["gate", i0])] ++ (blkL n (lv + 1) a).map V.str ++ [.str (mar lv ++ "old")])) hq4
      revert sD lD
      generalize upd (upd HC q3 _) q4 _ = HD
      intro sD lD
      have sAD := sAC.trans sD
      refine ⟨_, rfl, t, _, 3, _, rfl, rfl, (hq.mono sAD), rfl, _, rfl, _, _, rfl, rfl, _, lv + 1, b, rfl, (g3.mono sAD), h4, by omega, by omega, fun pE HE sE fE lE => ?_⟩
      refine ⟨q4, pE, _, _, rfl, rfl, sE _ _ lD, lE, sz_lit (by rw [List.length_append, List.length_append, List.length_map, List.length_map]; show 1 + _ + 1 + _ ≤ _; omega), fun q5 hq5 => ?_⟩
      have sZ := sAD.trans (sE.trans (Same.new (o := .lst ([.str (mar lv ++ jn ["gate", i0])] ++ (blkL n (lv + 1) a).map V.str ++ [.str (mar lv ++ "old")] ++ (blkL n (lv + 1) b).map V.str)) hq5))
      refine kk q5 _ sZ (sAD.free (sE.free hq5)) ?_
      rw [upd_same, List.map_append, List.map_cons, List.map_cons, List.append_assoc]
      rfl
    | @loop a h3 =>
      cases hr0 with
      | @cons v1 r1 _ _ g1 hr1 =>
      cases hr1
      rw [rowL_loop (by simp)] at kk
      rw [wts_cons, wts_nil, wt_list] at hw
      have ba := (blk_ok n (lv + 1) a (by omega) h3).1
      refine ⟨_, rfl, rfl, _, rfl, ifF (by decide +kernel) ⟨_, rfl, rfl, _, rfl, ifF (by decide +kernel) ⟨_, rfl, rfl, _, rfl, ifF (by decide +kernel) ⟨_, rfl, rfl, _, rfl, ifF (by decide +kernel) ⟨_, rfl, rfl, _, rfl, ifT (by decide +kernel) (ifT rfl ?_)⟩⟩⟩⟩⟩
      refine ⟨_, rfl, _, rfl, mar lv, "loop", rfl, rfl, sz_lit (by show _ + 4 ≤ _; omega), sz1 _, fun q1 hq1 => ?_⟩
      have sA := Same.new (o := .lst [.str (mar lv ++ "loop")]) hq1
      have lA := at_new (o := .lst [.str (mar lv ++ "loop")]) hq1
      revert sA lA
      generalize upd H q1 _ = HA
      intro sA lA
      refine ⟨_, rfl, t, _, 1, _, rfl, rfl, (hq.mono sA), rfl, _, rfl, _, _, rfl, rfl, _, lv + 1, a, rfl, (g1.mono sA), h3, by omega, by omega, fun pB HB sB fB lB => ?_⟩
      refine ⟨q1, pB, _, _, rfl, rfl, sB _ _ lA, lB, sz_lit (by rw [List.length_map]; show 1 + _ ≤ _; omega), fun q2 hq2 => ?_⟩
      exact kk q2 _ (sA.trans (sB.trans (Same.new hq2))) (sA.free (sB.free hq2)) upd_same
    | @part a h3 =>
      cases hr0 with
      | @cons v1 r1 _ _ g1 hr1 =>
      cases hr1
      rw [rowL_loop (by simp)] at kk
      rw [wts_cons, wts_nil, wt_list] at hw
      have ba := (blk_ok n (lv + 1) a (by omega) h3).1
      refine ⟨_, rfl, rfl, _, rfl, ifF (by decide +kernel) ⟨_, rfl, rfl, _, rfl, ifF (by decide +kernel) ⟨_, rfl, rfl, _, rfl, ifF (by decide +kernel) ⟨_, rfl, rfl, _, rfl, ifF (by decide +kernel) ⟨_, rfl, rfl, _, rfl, ifF (by decide +kernel) ⟨_, rfl, rfl, _, rfl, ifT (by decide +kernel) ?_⟩⟩⟩⟩⟩⟩
      refine ⟨_, rfl, _, rfl, mar lv, "part", rfl, rfl, sz_lit (by show _ + 4 ≤ _; omega), sz1 _, fun q1 hq1 => ?_⟩
      have sA := Same.new (o := .lst [.str (mar lv ++ "part")]) hq1
      have lA := at_new (o := .lst [.str (mar lv ++ "part")]) hq1
      revert sA lA
      generalize upd H q1 _ = HA
      intro sA lA
      refine ⟨_, rfl, t, _, 1, _, rfl, rfl, (hq.mono sA), rfl, _, rfl, _, _, rfl, rfl, _, lv + 1, a, rfl, (g1.mono sA), h3, by omega, by omega, fun pB HB sB fB lB => ?_⟩
      refine ⟨q1, pB, _, _, rfl, rfl, sB _ _ lA, lB, sz_lit (by rw [List.length_map]; show 1 + _ ≤ _; omega), fun q2 hq2 => ?_⟩
      exact kk q2 _ (sA.trans (sB.trans (Same.new hq2))) (sA.free (sB.free hq2)) upd_same
    | @past i0 a h1 h3 =>
      cases hr0 with
      | @cons v1 r1 _ _ g1 hr1 =>
      cases hr1 with
      | @cons v2 r2 _ _ g2 hr2 =>
      cases hr2
      cases g1
      rw [rowL_past] at kk
      rw [wts_cons, wts_cons, wts_nil, wt_list] at hw
      have ba := (blk_ok n (lv + 1) a (by omega) h3).1
      refine ⟨_, rfl, rfl, _, rfl, ifF (by decide +kernel) ⟨_, rfl, rfl, _, rfl, ifF (by decide +kernel) ⟨_, rfl, rfl, _, rfl, ifF (by decide +kernel) ⟨_, rfl, rfl, _, rfl, ifF (by decide +kernel) ⟨_, rfl, rfl, _, rfl, ifF (by decide +kernel) ⟨_, rfl, rfl, _, rfl, ifF (by decide +kernel) ⟨_, rfl, rfl, _, rfl, ifT (by decide +kernel) ?_⟩⟩⟩⟩⟩⟩⟩
      have hal : ∀ z ∈ (["past", i0] : List Str), z.length ≤ 20 := cons20 (by decide +kernel) (cons20 (w20 h1) nil20)
      refine ⟨_, rfl, ⟨_, rfl⟩, _, rfl, _, rfl, t, _, rfl, hq, (fun z => absurd z.2 (by rw [show (2 : Int) = ((2 : Nat) : Int) from rfl, HT.sIx_nat]; simp)), fun _ l hl => ?_⟩
      have hln : (["past", i0] : List Str).length ≤ 10 := by show 2 ≤ 10; decide
      refine ⟨" ", l, ["past", i0], rfl, rfl, .inr (.inl (.inl upd_same)), jn_fits hln hal, mar lv, jn ["past", i0], rfl, rfl, sz_lit (by have := jn_len hln hal; omega), sz1 _, fun q1 hq1 => ?_⟩
      have sA := (Same.new (o := .tup _) hl).trans (Same.new (o := .lst [.str (mar lv ++ jn ["past", i0])]) hq1)
      have lA := at_new (o := .lst [.str (mar lv ++ jn ["past", i0])]) hq1
      have fA := (Same.new (o := .tup _) hl).free hq1
      revert sA lA fA
      generalize upd (upd H l _) q1 _ = HA
      intro sA lA fA
      refine ⟨_, rfl, t, _, 2, _, rfl, rfl, (hq.mono sA), rfl, _, rfl, _, _, rfl, rfl, _, lv + 1, a, rfl, (g2.mono sA), h3, by omega, by omega, fun pB HB sB fB lB => ?_⟩
      refine ⟨q1, pB, _, _, rfl, rfl, sB _ _ lA, lB, sz_lit (by rw [List.length_map]; show 1 + _ ≤ _; omega), fun q2 hq2 => ?_⟩
      exact kk q2 _ (sA.trans (sB.trans (Same.new hq2))) (sA.free (sB.free hq2)) upd_same
    | @both ls h1 h2 =>
      cases hr0 with
      | @cons v1 r1 _ _ g1 hr1 =>
      cases hr1
      cases g1 with
      | @tup t1 ws _ hqw hw1 =>
      rw [rowL_both] at kk
      rw [wts_cons, wts_nil, wt_tuple] at hw
      have hwl := hw1.len
      have hso := fun m : Nat => side_ok (blk := blkL n) (lv := lv) (fun lv' ds hl' hd => blk_ok n lv' ds (by omega) hd) (by omega) (ls.take m) (fun x hx => h2 x (List.mem_of_mem_take hx))
      refine ⟨_, rfl, rfl, _, rfl, ifF (by decide +kernel) ⟨_, rfl, rfl, _, rfl, ifF (by decide +kernel) ⟨_, rfl, rfl, _, rfl, ifF (by decide +kernel) ⟨_, rfl, rfl, _, rfl, ifF (by decide +kernel) ⟨_, rfl, rfl, _, rfl, ifF (by decide +kernel) ⟨_, rfl, rfl, _, rfl, ifF (by decide +kernel) ⟨_, rfl, rfl, _, rfl, ifF (by decide +kernel) ⟨_, rfl, rfl, _, rfl, ifT (by decide +kernel) ?_⟩⟩⟩⟩⟩⟩⟩⟩
      refine ⟨_, rfl, mar lv, "both", rfl, rfl, sz_lit (by show _ + 4 ≤ _; omega), sz1 _, fun q1 hq1 => ?_⟩
      have sA := Same.new (o := .lst [.str (mar lv ++ "both")]) hq1
      have lA := at_new (o := .lst [.str (mar lv ++ "both")]) hq1
      revert sA lA
      generalize upd H q1 _ = HA
      intro sA lA
      refine ⟨_, rfl, t, _, 1, _, rfl, rfl, hq.mono sA, atI_one _ _ _, t1, rfl, ⟨_, hqw.mono sA⟩, ?_⟩
      refine for_it (walk_tup (xs := ws)) (fun i σ H' => (∃ (y5 : Option V) (q : Addr), σ = [some (.ref t), some (.int (lv : Int)), some (.str (mar lv)), some (.str "both"), some (.ref q), y5] ∧ H q = none ∧ H' q = some (.lst (((mar lv ++ "both") :: sideL (blkL n) lv (ls.take i)).map V.str))) ∧ Same H H') ⟨⟨_, q1, rfl, hq1, lA⟩, sA⟩ (fun i σ H' _ p => hqw.mono p.2) ?_ ?_
      · rintro i x σ H2 H3 hi ⟨⟨y5, q, rfl, hqn, hq2⟩, sm⟩ ⟨rfl, hx⟩
        obtain ⟨d, hd1, hdx⟩ := hw1.get hx
        obtain ⟨hil, hrd⟩ := h2 d (List.mem_of_getElem? hd1)
        obtain ⟨dl, rfl⟩ : ∃ dl, d = .list dl := by
          cases d with
          | list dl => exact ⟨dl, rfl⟩
          | _ => cases hil
        have hmem := wts_mem (List.mem_of_getElem? hd1)
        rw [wt_list] at hmem
        have hrd : rowsF n dl := hrd
        have b1 := (blk_ok n (lv + 2) dl (by omega) hrd).1
        have b2 := (hso i).1
        have b3 := wts_take_le i ls
        refine ⟨_, rfl, _, rfl, mar lv, "  side", rfl, rfl, sz_lit (by show _ + 6 ≤ _; omega), sz1 _, fun q3 hq3 => ?_⟩
        refine ⟨q, q3, _, _, rfl, rfl, Same.new hq3 _ _ hq2, upd_same, sz_lit (by rw [List.length_map, List.length_cons]; show _ + 1 + 1 ≤ _; omega), fun q4 hq4 => ?_⟩
        have sD := (Same.new (o := .lst [.str (mar lv ++ "  side")]) hq3).trans (Same.new (o := .lst (((mar lv ++ "both") :: sideL (blkL n) lv (ls.take i)).map V.str ++ [.str (mar lv ++ "  side")])) hq4)
        have lD := at_new (o := .lst (((mar lv ++ "both") :: sideL (blkL n) lv (ls.take i)).map V.str ++ [.str (mar lv ++ "  side")])) hq4
        revert sD lD
        generalize upd (upd _ q3 _) q4 _ = HD
        intro sD lD
        refine ⟨_, rfl, _, rfl, _, _, rfl, rfl, x, lv + 2, dl, rfl, (hdx.mono sm).mono sD, hrd, by omega, by omega, fun pE HE sE fE lE => ?_⟩
        refine ⟨q4, pE, _, _, rfl, rfl, sE _ _ lD, lE, sz_lit (by rw [List.length_append, List.length_map, List.length_map, List.length_cons]; show _ + 1 + 1 + _ ≤ _; omega), fun q5 hq5 => ?_⟩
        have sZ := sm.trans (sD.trans (sE.trans (Same.new (o := .lst (((mar lv ++ "both") :: sideL (blkL n) lv (ls.take i)).map V.str ++ [.str (mar lv ++ "  side")] ++ (blkL n (lv + 2) dl).map V.str)) hq5)))
        refine ⟨⟨_, q5, rfl, sm.free (sD.free (sE.free hq5)), ?_⟩, sZ⟩
        rw [upd_same, TS.take_one hd1, sideL_app, ← List.cons_append, List.map_append, List.append_assoc]
        show _ = some (HO.lst (_ ++ List.map V.str ((mar lv ++ "  side") :: (blkL n (lv + 2) dl ++ []))))
        rw [List.append_nil]
        rfl
      · rintro σ H2 ⟨⟨y5, q, rfl, hqn, hq2⟩, sm⟩
        rw [List.take_of_length_le (by omega)] at hq2
        exact ⟨_, rfl, kk q H2 sm hqn hq2⟩
    | @plain _ zs hp h1 h2 =>
      obtain ⟨n1, n2, n3, n4, n5, n6, n7, n8, nl⟩ := plain_ne hp
      obtain rfl := strs_dp hr0
      rw [rowL_plain hp] at kk
      refine ⟨_, rfl, rfl, _, rfl, ifF (decide_eq_false fun z => n1 (V.str.inj z)) ⟨_, rfl, rfl, _, rfl, ifF (decide_eq_false fun z => n2 (V.str.inj z)) ⟨_, rfl, rfl, _, rfl, ifF (decide_eq_false fun z => n3 (V.str.inj z)) ⟨_, rfl, rfl, _, rfl, ifF (decide_eq_false fun z => n4 (V.str.inj z)) ⟨_, rfl, rfl, _, rfl, ifF (decide_eq_false fun z => n5 (V.str.inj z)) ⟨_, rfl, rfl, _, rfl, ifF (decide_eq_false fun z => n6 (V.str.inj z)) ⟨_, rfl, rfl, _, rfl, ifF (decide_eq_false fun z => n7 (V.str.inj z)) ⟨_, rfl, rfl, _, rfl, ifF (decide_eq_false fun z => n8 (V.str.inj z)) ?_⟩⟩⟩⟩⟩⟩⟩⟩
      have hln : (kind :: zs).length ≤ 10 := by rw [List.length_cons]; omega
      have hal : ∀ z ∈ kind :: zs, z.length ≤ 20 := cons20 nl (mem20 h2)
      refine ⟨_, rfl, ⟨_, rfl⟩, _, rfl, ?_⟩
      refine ⟨" ", t, kind :: zs, rfl, rfl, .inr hq, jn_fits (hln) (hal), mar lv, jn (kind :: zs), rfl, rfl, sz_lit (by have := jn_len (ys := kind :: zs) (hln) (hal); omega), sz1 _, fun q hq' => ?_⟩
      exact kk q _ (Same.new hq') hq' upd_same
end
end Op
namespace Op
open PySem L2 PyProof.Rows
/-! ### what is sorted is one -/
def leS (a b : Str) : Prop := ¬ b.cps.toList < a.cps.toList
theorem rising_pw : ∀ (l : List Str) (p : Str), risingS p l = true → (p :: l).Pairwise leS
  | [], p, _ => List.pairwise_singleton _ _
  | x :: r, p, h => by
    have h : (!PySem.Spec.ltCps x.cps.toList p.cps.toList && risingS x r) = true := h
    obtain ⟨h1, h2⟩ := Bool.and_eq_true_iff.mp h
    rw [ltCps_eq] at h1
    have h1 : leS p x := by
      have := of_decide_eq_false (Bool.not_eq_true' _ |>.mp h1)
      exact this
    have ih := rising_pw r x h2
    refine List.pairwise_cons.mpr ⟨fun y hy => ?_, ih⟩
    rcases List.mem_cons.mp hy with rfl | hy
    · exact h1
    · have h3 : leS x y := List.rel_of_pairwise_cons ih hy
      exact List.not_lt.mpr (List.le_trans (List.not_lt.mp h1) (List.not_lt.mp h3))
theorem sorted_pw {l : List Str} (h : sortedS l = true) : l.Pairwise leS := by
  cases l with
  | nil => exact .nil
  | cons x r => exact rising_pw r x h
theorem sorted_eq {a b : List Str} (ha : sortedS a = true) (hb : sortedS b = true) (h : a.Perm b) : a = b :=
  h.eq_of_pairwise (fun x y _ _ h1 h2 => by
    have : x.cps.toList = y.cps.toList := List.le_antisymm (List.not_lt.mp h1) (List.not_lt.mp h2)
    obtain ⟨cx⟩ := x
    obtain ⟨cy⟩ := y
    exact congrArg Str.mk (Array.toList_inj.mp this)) (sorted_pw ha) (sorted_pw hb)
end Op
namespace Op
open PySem L2 PyProof.Rows
/-! ### the mirror: the text of a program -/
def askL (p : Str × PyData) : Str := jn ("ask" :: p.1 :: wordsOf p.2)
def roomOf : PyData → Int
  | .tuple (.int n :: _) => n
  | _ => 0
def boxW : PyData → List Str
  | .tuple [_, d] => wordsOf d
  | _ => []
def sigL (p : Str × PyData) : Str := jn ("signal" :: p.1 :: Str.ofString (toString (roomOf p.2)) :: boxW p.2)
def headL (asks sigs : List (Str × PyData)) (ins : PyData) : List Str := asks.map askL ++ sigs.map sigL ++ [jn ("inputs" :: wordsOf ins), "rows"]
def textP (asks sigs : List (Str × PyData)) (ins : PyData) (rows : List PyData) : Str := Txt.join "\n" (headL asks sigs ins ++ blkL 5 1 rows)
/-- a program as its making leaves it -/
structure PgV (g : Pg) : Prop where
  a1 : ∀ p ∈ g.asks, isWordS p.1 = true ∧ areWords 4 p.2 = true
  a2 : g.asks.length ≤ 6
  a3 : (g.asks.map (·.1)).Nodup
  a4 : sortedS (g.asks.map (·.1)) = true
  b1 : ∀ p ∈ g.sigs, isWordS p.1 = true ∧ isBox p.2 = true
  b2 : g.sigs.length ≤ 3
  b3 : (g.sigs.map (·.1)).Nodup
  b4 : sortedS (g.sigs.map (·.1)) = true
  i1 : areWords 3 g.ins = true
  r1 : rowsF 5 g.rows
  r2 : rowsOk 5 g.rows
  r3 : wts g.rows ≤ 30000
theorem words_form {m : Int} {d : PyData} (h : areWords m d = true) : ∃ zs : List Str, d = .tuple (zs.map PyData.str) ∧ (zs.length : Int) ≤ m ∧ ∀ z ∈ zs, w8 z := by
  obtain ⟨zs, rfl, h1, h2, _⟩ := aw_tup h
  exact ⟨zs, rfl, h1, fun z hz => w8_of (h2 z hz)⟩
theorem box_form {d : PyData} (h : isBox d = true) : ∃ (n : Int) (zs : List Str), d = .tuple [.int n, .tuple (zs.map PyData.str)] ∧ 1 ≤ n ∧ n ≤ 3 ∧ zs.length ≤ 3 ∧ ∀ z ∈ zs, w8 z := by
  unfold isBox at h
  split at h
  · rename_i n d
    obtain ⟨h1, h2⟩ := Bool.and_eq_true_iff.mp h
    obtain ⟨zs, rfl, h3, h4⟩ := words_form h2
    have h1 := of_decide_eq_true h1
    exact ⟨n, zs, rfl, h1.1, h1.2, by omega, h4⟩
  · cases h
theorem wordsOf_map (zs : List Str) : wordsOf (.tuple (zs.map .str)) = zs := map_strOf zs
theorem room_len : ∀ n : Int, 1 ≤ n → n ≤ 3 → (Str.ofString (toString n)).length ≤ 20 := fun n h1 h2 => by
  have : n = 1 ∨ n = 2 ∨ n = 3 := by omega
  rcases this with rfl | rfl | rfl <;> decide +kernel
theorem askL_ok {p : Str × PyData} (h1 : isWordS p.1 = true) (h2 : areWords 4 p.2 = true) : (askL p).length ≤ 300 := by
  obtain ⟨zs, e, h3, h4⟩ := words_form h2
  unfold askL
  rw [e, wordsOf_map]
  have := jn_len (ys := "ask" :: p.1 :: zs) (by rw [List.length_cons, List.length_cons]; omega) (cons20 (by decide +kernel) (cons20 (w20 (w8_of h1)) (mem20 h4)))
  omega
theorem sigL_ok {p : Str × PyData} (h1 : isWordS p.1 = true) (h2 : isBox p.2 = true) : (sigL p).length ≤ 300 := by
  obtain ⟨n, zs, e, n1, n2, h3, h4⟩ := box_form h2
  unfold sigL
  rw [e]
  show (jn ("signal" :: p.1 :: Str.ofString (toString n) :: wordsOf (.tuple (zs.map .str)))).length ≤ 300
  rw [wordsOf_map]
  have := jn_len (ys := "signal" :: p.1 :: Str.ofString (toString n) :: zs) (by rw [List.length_cons, List.length_cons, List.length_cons]; omega) (cons20 (by decide +kernel) (cons20 (w20 (w8_of h1)) (cons20 (room_len n n1 n2) (mem20 h4))))
  omega
theorem insL_ok {d : PyData} (h : areWords 3 d = true) : (jn ("inputs" :: wordsOf d)).length ≤ 300 := by
  obtain ⟨zs, e, h3, h4⟩ := words_form h
  rw [e, wordsOf_map]
  have := jn_len (ys := "inputs" :: zs) (by rw [List.length_cons]; omega) (cons20 (by decide +kernel) (mem20 h4))
  omega
theorem head_ok {asks sigs : List (Str × PyData)} {ins : PyData} (h1 : ∀ p ∈ asks, isWordS p.1 = true ∧ areWords 4 p.2 = true) (h2 : ∀ p ∈ sigs, isWordS p.1 = true ∧ isBox p.2 = true) (h3 : areWords 3 ins = true) : Lok (headL asks sigs ins) (asks.length + sigs.length + 2) := by
  refine ⟨?_, fun y hy => ?_⟩
  · unfold headL
    rw [List.length_append, List.length_append, List.length_map, List.length_map]
    exact Nat.le_refl _
  · unfold headL at hy
    rcases List.mem_append.mp hy with hy | hy
    · rcases List.mem_append.mp hy with hy | hy
      · obtain ⟨p, hp, rfl⟩ := List.mem_map.mp hy
        exact askL_ok (h1 p hp).1 (h1 p hp).2
      · obtain ⟨p, hp, rfl⟩ := List.mem_map.mp hy
        exact sigL_ok (h2 p hp).1 (h2 p hp).2
    · rcases List.mem_cons.mp hy with rfl | hy
      · exact insL_ok h3
      · rw [List.mem_singleton.mp hy]
        decide +kernel
theorem nl_fits {ys : List Str} {n : Nat} (h : Lok ys n) (hn : n ≤ 40000) : (ys.map (·.length)).sum + ys.length * ("\n" : Str).length ≤ 16777216 := by
  have a := sum_le h.2
  have b := h.1
  have e : ("\n" : Str).length = 1 := by decide +kernel
  rw [e]
  have : ys.length * 300 ≤ 40000 * 300 := Nat.mul_le_mul_right _ (by omega)
  omega
theorem log_small {n : Int} (h1 : 1 ≤ n) (h2 : n ≤ 3) : n.natAbs.log2 < 1920 := by
  have : n = 1 ∨ n = 2 ∨ n = 3 := by omega
  rcases this with rfl | rfl | rfl <;> decide +kernel
section
variable {P : Program} {w : World} {K : PySem.W.Frag} {mg : Str → Option Value} {base : Heap} {C : Addr}
theorem ok_lines {f1 f2 : Addr} {fd1 fd2 : FuncData} (F1 : Fun K "block_lines" "block_lines" s_block_lines f1 fd1) (F2 : Fun K "row_lines" "row_lines" s_row_lines f2 fd2) (T : Txt mg) (g1 : mg "block_lines" = some (.ref f1)) (g2 : mg "row_lines" = some (.ref f2)) (k1 : PySem.W.keepIn K (.ref f1) = true) (k2 : PySem.W.keepIn K (.ref f2) = true)
    (b1 : Binds K fd1 ["rows", "level"] []) (b2 : Binds K fd2 ["row", "level"] []) : ∀ n : Nat, Cal P w K mg base CX0 (2 * n + 1) "block_lines" ["rows", "level"] (spBlk K n)
  | 0 => ⟨f1, fd1, g1, k1, b1, F1.ok sc_block_lines (fun vs H Q E h => by obtain ⟨v, lv, ds, rfl, _⟩ := h; rfl) (fun cdv A outer s H vs Q E hr h => by obtain ⟨v, lv, ds, _, _, hk, _⟩ := h; exact hk.elim)⟩
  | n + 1 => ⟨f1, fd1, g1, k1, b1, ok_block_lines (k := 2 * n + 1) F1 T ⟨f2, fd2, g2, k2, b2, ok_row_lines (k := 2 * n) F2 T (ok_lines F1 F2 T g1 g2 k1 k2 b1 b2 n)⟩⟩
def spPText (K : PySem.W.Frag) (C : Addr) : Sp := fun vs H Q _ => ∃ A g, vs = [.ref A.x] ∧ A.C = C ∧ PgO K H A g ∧ PgV g ∧ ∀ H', Same H H' → Q (.str (textP g.asks g.sigs g.ins g.rows)) H'
-- mkT8
theorem KvsR.keysV {H : Hp} {vs : List (Key × V)} {kvs : List (Str × PyData)} (h : KvsR K H vs kvs) : (vs.map fun kv => kV kv.1) = (kvs.map (·.1)).map V.str := by
  have := congrArg (List.map kV) h.keys
  rw [List.map_map, List.map_map] at this
  rw [List.map_map]
  rw [List.map_map] at this
  exact this
theorem KvsR.at {H : Hp} {vs : List (Key × V)} {kvs : List (Str × PyData)} {i : Nat} {p : Str × PyData} (h : KvsR K H vs kvs) (hn : (kvs.map (·.1)).Nodup) (hi : kvs[i]? = some p) : ∃ v, valV vs (.inr p.1) = some v ∧ Dp K H v p.2 := by
  have hl := h.len
  have hi' := (List.getElem?_eq_some_iff.mp hi).1
  have e : vs[i]? = some (vs[i]'(by omega)) := List.getElem?_eq_getElem _
  obtain ⟨x, d, h1, h2, h3⟩ := h.get (k := (vs[i]'(by omega)).1) (v := (vs[i]'(by omega)).2) e
  rw [hi] at h1
  obtain rfl := Option.some.inj h1
  refine ⟨_, ?_, h3⟩
  rw [← h2]
  exact valV_at (by rw [h.keys]; exact nodup_inr hn) e
theorem sc_program_text : FnScope ["program", "asks", "signals", "lines", "key", "room", "words"] ["program"] (defScope s_program_text) := ⟨rfl, rfl, rfl, by decide +kernel, rfl, by decide +kernel, by decide +kernel⟩
theorem ok_program_text {f : Addr} {fd : FuncData} (F : Fun K "program_text" "program_text" s_program_text f fd) (T : Txt mg) (pc : PgC K C) (c_check_program : Cal P w K mg base CX0 1 "check_program" ["value", "part"] (spIsProg C)) (m_asks : Mcal P w K mg base CX0 1 C "asks" ["self"] (spTabM K C Pg.asks)) (m_signals : Mcal P w K mg base CX0 1 C "signals" ["self"] (spTabM K C Pg.sigs)) (m_inputs : Mcal P w K mg base CX0 1 C "inputs" ["self"] (spInputsM K C)) (m_rows : Mcal P w K mg base CX0 12 C "rows" ["self"] (spRowsM K C)) (c_block_lines : Cal P w K mg base CX0 11 "block_lines" ["rows", "level"] (spBlk K 5)) :
    FnOk P w K mg base CX0 13 f fd ["program"] (spPText K C) := by
  refine F.ok sc_program_text (fun vs H Q E h => ?_) (fun cdv A outer s H vs Q E hr h => ?_)
  · obtain ⟨A, g, rfl, _⟩ := h
    rfl
  · obtain ⟨A, g, rfl, rfl, O, vg, k⟩ := h
    have hu := hu_of hr
    have c_Program := pc.cls
    refine ⟨_, (pss_cons (ps_expr (pe_cal c_check_program (hr.mono (by omega)) rfl pass0 (pa_cons (pv 0) (pa_cons pe_str pa_nil))))
      (pss_cons (ps_set (i := 1) sc_program_text.nd rfl (.inl rfl) (pe_mcal0 (pv 0) c_Program m_asks (hr.mono (by omega)) pass0))
      (pss_cons (ps_set (i := 2) sc_program_text.nd rfl (.inl rfl) (pe_mcal0 (pv 0) c_Program m_signals (hr.mono (by omega)) pass0))
      (pss_cons (ps_set (i := 3) sc_program_text.nd rfl (.inl rfl) (pe_lst pa_nil))
      (pss_cons (ps_for PassesOwn.never rfl (pi_list (pe_callB cr_sortedS (by rfl) T.b_sorted (by decide +kernel) (pa_cons (pe_callTy (call_listD rfl) (by rfl) T.b_list (by decide +kernel) (pa_cons (pv 1) pa_nil)) pa_nil))) (pg_name (i := 4) sc_program_text.nd rfl (.inl rfl)) (pss_one (ps_expr (pe_bm PySem.F.plainAttrs_list PySem.F.slot_list_append PySem.F.type_list_append mt_append (pv 3) (pa_cons (pe_join pe_str (pe_lst (pa_cons pe_str (pa_cons (pv 4) (StX.pa_star (pe_dget hu (pv 1) (pv 4) (fun _ _ => rfl)) pa_nil))))) pa_nil)))))
      (pss_cons (ps_for PassesOwn.never rfl (pi_list (pe_callB cr_sortedS (by rfl) T.b_sorted (by decide +kernel) (pa_cons (pe_callTy (call_listD rfl) (by rfl) T.b_list (by decide +kernel) (pa_cons (pv 2) pa_nil)) pa_nil))) (pg_name (i := 4) sc_program_text.nd rfl (.inl rfl)) (pss_cons (ps_asg (pe_dget hu (pv 2) (pv 4) (fun _ _ => rfl)) (pg_tup rfl (pgs_cons (pg_name (i := 5) sc_program_text.nd rfl (.inl rfl)) (pgs_cons (pg_name (i := 6) sc_program_text.nd rfl (.inl rfl)) pgs_nil))))
      (pss_one (ps_expr (pe_bm PySem.F.plainAttrs_list PySem.F.slot_list_append PySem.F.type_list_append mt_append (pv 3) (pa_cons (pe_join pe_str (pe_lst (pa_cons pe_str (pa_cons (pv 4) (pa_cons (pe_callTy call_str_int (by rfl) T.b_str (by decide +kernel) (pa_cons (pv 5) pa_nil)) (StX.pa_star (pv 6) pa_nil)))))) pa_nil))))))
      (pss_cons (ps_expr (pe_bm PySem.F.plainAttrs_list PySem.F.slot_list_append PySem.F.type_list_append mt_append (pv 3) (pa_cons (pe_join pe_str (pe_lst (pa_cons pe_str (StX.pa_star (pe_mcal0 (pv 0) c_Program m_inputs (hr.mono (by omega)) pass0) pa_nil)))) pa_nil)))
      (pss_cons (ps_expr (pe_bm PySem.F.plainAttrs_list PySem.F.slot_list_append PySem.F.type_list_append mt_append (pv 3) (pa_cons pe_str pa_nil)))
      (pss_one (ps_ret (pe_join pe_str (pe_op op_cat (pv 3) (pe_cal c_block_lines (hr.mono (by omega)) rfl pass0 (pa_cons (pe_mcal0 (pv 0) c_Program m_rows (hr.mono (by omega)) pass0) (pa_cons pe_int pa_nil))))))))))))))), ?_⟩
    refine ⟨_, rfl, A.x, A.dx, _, _, rfl, O.ob, ?_⟩
    have ha6 := vg.a2
    have hb3 := vg.b2
    refine ⟨_, rfl, A.x, A.dx, _, rfl, O.ob, rfl, A, g, rfl, rfl, O, vg.a3, by omega, fun p1 ws1 H1 s1 f1 l1 kv1 => ?_⟩
    have O1 := O.mono s1
    refine ⟨_, rfl, A.x, A.dx, _, rfl, O1.ob, rfl, A, g, rfl, rfl, O1, vg.b3, by omega, fun p2 ws2 H2 s2 f2 l2 kv2 => ?_⟩
    have O2 := O1.mono s2
    have l12 := s2 _ _ l1
    have kv12 := kv1.mono s2.kp
    refine ⟨sz_lit (by show 0 ≤ 100000; decide), fun l hl => ?_⟩
    have s3 := Same.new (o := .lst []) hl
    have l3 := at_new (o := .lst []) hl
    have fl : H l = none := s1.free (s2.free hl)
    revert s3 l3
    generalize upd H2 l _ = H3
    intro s3 l3
    have O3 := O2.mono s3
    have l13 := s3 _ _ l12
    have l23 := s3 _ _ l2
    have kv13 := kv12.mono s3.kp
    have kv23 := kv2.mono s3.kp
    have sH3 := s1.trans (s2.trans s3)
    refine ⟨_, rfl, p1, ws1, rfl, .inl l13, fun q hq => ?_⟩
    rw [kv13.keysV]
    refine ⟨q, g.asks.map (·.1), rfl, .inl (.inl upd_same), by rw [List.length_map]; omega, fun ys1 r1 perm1 sort1 hr1 => ?_⟩
    obtain rfl : ys1 = g.asks.map (·.1) := sorted_eq sort1 vg.a4 perm1
    have n1l : r1 ≠ l := fun e => by rw [e, Same.new hq _ _ l3] at hr1; cases hr1
    have s4 := (Same.new (o := .lst ((g.asks.map (·.1)).map V.str)) hq).trans (Same.new (o := .lst ((g.asks.map (·.1)).map V.str)) hr1)
    have e4 := at_new (o := .lst ((g.asks.map (·.1)).map V.str)) hr1
    revert s4 e4
    generalize upd (upd H3 q _) r1 _ = H4
    intro s4 e4
    refine ⟨r1, rfl, ⟨_, .inl (.inl e4)⟩, ?_⟩
    refine for_it (walk_list (xs := (g.asks.map (·.1)).map V.str)) (fun i σ H' => (∃ y4 y5 y6 : Option V, σ = [some (.ref A.x), some (.ref p1), some (.ref p2), some (.ref l), y4, y5, y6]) ∧ Same H2 H' ∧ H' r1 = some (.lst ((g.asks.map (·.1)).map V.str)) ∧ H' l = some (.lst (((g.asks.take i).map askL).map V.str))) ⟨⟨_, _, _, rfl⟩, s3.trans s4, e4, s4 _ _ l3⟩ (fun i σ H' _ p => .inl (.inl p.2.2.1)) ?_ ?_
    · rintro i x σ HY HZ hi ⟨⟨y4, y5, y6, rfl⟩, sm, er, el⟩ ⟨rfl, hx⟩
      rw [List.getElem?_map, List.getElem?_map] at hx
      cases hp : g.asks[i]? with
      | none => rw [hp] at hx; cases hx
      | some pp =>
      rw [hp] at hx
      obtain rfl : V.str pp.1 = x := Option.some.inj hx
      have hpi : i < g.asks.length := (List.getElem?_eq_some_iff.mp hp).1
      obtain ⟨vv, hvv, hdv⟩ := kv12.at vg.a3 hp
      obtain ⟨hw1, hw2⟩ := vg.a1 pp (List.mem_of_getElem? hp)
      have hkk : w8 pp.1 := w8_of hw1
      obtain ⟨zs, e2, h3, h4⟩ := words_form hw2
      have hLn : askL pp = jn ("ask" :: pp.1 :: zs) := by unfold askL; rw [e2, wordsOf_map]
      rw [e2] at hdv
      cases hdv with
      | @tup tv xv _ htv hxv =>
      obtain rfl := strs_dp hxv
      have hal : ∀ z ∈ (("ask" : Str) :: pp.1 :: zs), z.length ≤ 20 := cons20 (by decide +kernel) (cons20 (w20 hkk) (mem20 h4))
      have hln : (("ask" : Str) :: pp.1 :: zs).length ≤ 10 := by rw [List.length_cons, List.length_cons]; omega
      refine ⟨_, rfl, .inl ⟨rfl, _, .inl (.inl el)⟩, ⟨_, rfl⟩, _, rfl, _, rfl, _, rfl, p1, _, rfl, by rw [← hvv]; exact DGet.k (k := (.inr pp.1 : Key)) (sm _ _ l12), tv, _, rfl, .inl (htv.mono sm), sz_lit (by rw [List.length_cons, List.length_cons, List.length_append, List.length_map]; show _ + 0 + 1 + 1 ≤ _; omega), fun l2 hl2 => ?_⟩
      refine ⟨" ", l2, ("ask" : Str) :: pp.1 :: zs, rfl, rfl, .inl (.inl (.inl (by rw [upd_same, List.append_nil]; rfl))), jn_fits hln hal, l, _, _, rfl, rfl, Same.new hl2 _ _ el, lt_sz (by rw [List.length_map, List.length_map, List.length_take]; omega), ⟨_, _, _, rfl⟩, fun b o hb => ?_, ?_, ?_⟩
      · rw [upd_ne (ne_of_none hb hl)]
        exact Same.new hl2 b o (sm b o hb)
      · rw [upd_ne n1l]
        exact Same.new hl2 _ _ er
      · rw [upd_same, TS.take_one hp, List.map_append, List.map_append, List.map_cons, List.map_nil, hLn]
        rfl
    · rintro σ H5 ⟨⟨y4, y5, y6, rfl⟩, sm5, _, el5⟩
      rw [List.length_map, List.length_map, List.take_of_length_le (Nat.le_refl _)] at el5
      refine ⟨_, rfl, p2, ws2, rfl, .inl (sm5 _ _ l2), fun qb hqb => ?_⟩
      rw [(kv2.mono sm5.kp).keysV]
      refine ⟨qb, g.sigs.map (·.1), rfl, .inl (.inl upd_same), by rw [List.length_map]; omega, fun ys2 r2 perm2 sort2 hr2 => ?_⟩
      obtain rfl : ys2 = g.sigs.map (·.1) := sorted_eq sort2 vg.b4 perm2
      have n2l : r2 ≠ l := fun e => by rw [e, Same.new hqb _ _ el5] at hr2; cases hr2
      have s6 := (Same.new (o := .lst ((g.sigs.map (·.1)).map V.str)) hqb).trans (Same.new (o := .lst ((g.sigs.map (·.1)).map V.str)) hr2)
      have e6 := at_new (o := .lst ((g.sigs.map (·.1)).map V.str)) hr2
      revert s6 e6
      generalize upd (upd H5 qb _) r2 _ = H6
      intro s6 e6
      refine ⟨r2, rfl, ⟨_, .inl (.inl e6)⟩, ?_⟩
      refine for_it (walk_list (xs := (g.sigs.map (·.1)).map V.str)) (fun i σ H' => (∃ y4 y5 y6 : Option V, σ = [some (.ref A.x), some (.ref p1), some (.ref p2), some (.ref l), y4, y5, y6]) ∧ Same H2 H' ∧ H' r2 = some (.lst ((g.sigs.map (·.1)).map V.str)) ∧ H' l = some (.lst ((g.asks.map askL ++ (g.sigs.take i).map sigL).map V.str))) ⟨⟨_, _, _, rfl⟩, sm5.trans s6, e6, (by rw [List.take_zero, List.map_nil, List.append_nil]; exact s6 _ _ el5)⟩ (fun i σ H' _ p => .inl (.inl p.2.2.1)) ?_ ?_
      · rintro i x σ HY HZ hi ⟨⟨y4, y5, y6, rfl⟩, sm, er, el⟩ ⟨rfl, hx⟩
        rw [List.getElem?_map, List.getElem?_map] at hx
        cases hp : g.sigs[i]? with
        | none => rw [hp] at hx; cases hx
        | some pp =>
        rw [hp] at hx
        obtain rfl : V.str pp.1 = x := Option.some.inj hx
        have hpi : i < g.sigs.length := (List.getElem?_eq_some_iff.mp hp).1
        obtain ⟨vv, hvv, hdv⟩ := kv2.at vg.b3 hp
        obtain ⟨hw1, hw2⟩ := vg.b1 pp (List.mem_of_getElem? hp)
        have hkk : w8 pp.1 := w8_of hw1
        obtain ⟨n0, zs, e2, n1, n2, h3, h4⟩ := box_form hw2
        have hLn : sigL pp = jn ("signal" :: pp.1 :: Str.ofString (toString n0) :: zs) := by
          unfold sigL
          rw [e2]
          show jn ("signal" :: pp.1 :: Str.ofString (toString n0) :: wordsOf (.tuple (zs.map .str))) = _
          rw [wordsOf_map]
        rw [e2] at hdv
        cases hdv with
        | @tup tv xv _ htv hxv =>
        cases hxv with
        | @cons u1 ur _ _ gu hur =>
        cases hur with
        | @cons u2 ur2 _ _ gu2 hur2 =>
        cases hur2
        cases gu
        cases gu2 with
        | @tup tw xw _ htw hxw =>
        obtain rfl := strs_dp hxw
        have hal : ∀ z ∈ (("signal" : Str) :: pp.1 :: Str.ofString (toString n0) :: zs), z.length ≤ 20 := cons20 (by decide +kernel) (cons20 (w20 hkk) (cons20 (room_len n0 n1 n2) (mem20 h4)))
        have hln : (("signal" : Str) :: pp.1 :: Str.ofString (toString n0) :: zs).length ≤ 10 := by rw [List.length_cons, List.length_cons, List.length_cons]; omega
        refine ⟨_, rfl, _, rfl, p2, _, rfl, by rw [← hvv]; exact DGet.k (k := (.inr pp.1 : Key)) (sm _ _ l2), tv, _, rfl, htv.mono sm, rfl, _, _, rfl, _, _, rfl, rfl, ?_⟩
        refine ⟨_, rfl, .inl ⟨rfl, _, .inl (.inl el)⟩, ⟨_, rfl⟩, _, rfl, _, rfl, n0, rfl, log_small n1 n2, _, rfl, tw, _, rfl, .inl (htw.mono sm), sz_lit (by rw [List.length_cons, List.length_cons, List.length_cons, List.length_append, List.length_map]; show _ + 0 + 1 + 1 + 1 ≤ _; omega), fun l4 hl4 => ?_⟩
        refine ⟨" ", l4, ("signal" : Str) :: pp.1 :: Str.ofString (toString n0) :: zs, rfl, rfl, .inl (.inl (.inl (by rw [upd_same, List.append_nil]; rfl))), jn_fits hln hal, l, _, _, rfl, rfl, Same.new hl4 _ _ el, lt_sz (by rw [List.length_map, List.length_append, List.length_map, List.length_map, List.length_take]; omega), ⟨_, _, _, rfl⟩, fun b o hb => ?_, ?_, ?_⟩
        · rw [upd_ne (ne_of_none hb hl)]
          exact Same.new hl4 b o (sm b o hb)
        · rw [upd_ne n2l]
          exact Same.new hl4 _ _ er
        · have hsn : g.asks.map askL ++ (g.sigs.take (i + 1)).map sigL = (g.asks.map askL ++ (g.sigs.take i).map sigL) ++ [sigL pp] := by
            rw [TS.take_one hp, List.map_append (f := sigL), List.append_assoc]
            rfl
          rw [upd_same, hsn, hLn]
          exact congrArg (fun z => some (HO.lst z)) (List.map_append (f := V.str) (l₁ := g.asks.map askL ++ (g.sigs.take i).map sigL) (l₂ := [jn ("signal" :: pp.1 :: Str.ofString (toString n0) :: zs)])).symm
      · rintro σ H7 ⟨⟨y4, y5, y6, rfl⟩, sm7, _, el7⟩
        rw [List.length_map, List.length_map, List.take_of_length_le (Nat.le_refl _)] at el7
        have O7 := O2.mono sm7
        obtain ⟨zs, e2, h3, h4⟩ := words_form vg.i1
        have hdi := O7.di
        rw [e2] at hdi
        have hal : ∀ z ∈ (("inputs" : Str) :: zs), z.length ≤ 20 := cons20 (by decide +kernel) (mem20 h4)
        have hln : (("inputs" : Str) :: zs).length ≤ 10 := by rw [List.length_cons]; omega
        generalize hiv : A.iv = iv at hdi
        cases hdi with
        | @tup tv xv _ htv hxv =>
        obtain rfl := strs_dp hxv
        refine ⟨_, rfl, .inl ⟨rfl, _, .inl (.inl el7)⟩, ⟨_, rfl⟩, _, rfl, A.x, A.dx, _, rfl, O7.ob, rfl, A, g, rfl, rfl, O7, ?_⟩
        refine ⟨tv, _, hiv, .inl htv, sz_lit (by rw [List.length_cons, List.length_append, List.length_map]; show _ + 0 + 1 ≤ _; omega), fun l4 hl4 => ?_⟩
        refine ⟨" ", l4, ("inputs" : Str) :: zs, rfl, rfl, .inl (.inl (.inl (by rw [upd_same, List.append_nil]; rfl))), jn_fits hln hal, l, _, _, rfl, rfl, Same.new hl4 _ _ el7, lt_sz (by rw [List.length_map, List.length_append, List.length_map, List.length_map]; omega), ?_⟩
        have s8 : Same H2 (upd (upd H7 l4 (.lst (V.str "inputs" :: (zs.map V.str ++ [])))) l (.lst ((g.asks.map askL ++ g.sigs.map sigL).map V.str ++ [V.str (Txt.join " " ("inputs" :: zs))]))) := fun b o hb => by
          rw [upd_ne (ne_of_none hb hl)]
          exact Same.new hl4 b o (sm7 b o hb)
        have l8 : upd (upd H7 l4 (.lst (V.str "inputs" :: (zs.map V.str ++ [])))) l (.lst ((g.asks.map askL ++ g.sigs.map sigL).map V.str ++ [V.str (Txt.join " " ("inputs" :: zs))])) l = _ := upd_same
        revert s8 l8
        generalize upd (upd H7 l4 _) l _ = H8
        intro s8 l8
        refine ⟨_, rfl, .inl ⟨rfl, _, .inl (.inl l8)⟩, l, _, _, rfl, rfl, l8, lt_sz (by rw [List.length_append, List.length_map, List.length_append, List.length_map, List.length_map]; show _ + _ + 1 < _; omega), ?_⟩
        have s9 : Same H2 (upd H8 l (.lst ((g.asks.map askL ++ g.sigs.map sigL).map V.str ++ [V.str (Txt.join " " ("inputs" :: zs))] ++ [V.str "rows"]))) := fun b o hb => by
          rw [upd_ne (ne_of_none hb hl)]
          exact s8 b o hb
        have l9 : upd H8 l (.lst ((g.asks.map askL ++ g.sigs.map sigL).map V.str ++ [V.str (Txt.join " " ("inputs" :: zs))] ++ [V.str "rows"])) l = some (.lst ((headL g.asks g.sigs g.ins).map V.str)) := by
          rw [upd_same]
          unfold headL
          rw [e2, wordsOf_map, List.map_append (f := V.str) (l₁ := g.asks.map askL ++ g.sigs.map sigL), List.append_assoc]
          rfl
        revert s9 l9
        generalize upd H8 l _ = H9
        intro s9 l9
        have O9 := O2.mono s9
        have hh := head_ok vg.a1 vg.b1 vg.i1
        have hbk := blk_ok 5 1 g.rows (by decide) vg.r1
        have hr3 := vg.r3
        refine ⟨⟨_, rfl⟩, _, rfl, _, rfl, A.x, A.dx, _, rfl, O9.ob, rfl, A, g, rfl, rfl, O9, vg.r2, vg.r3, fun pr xs Ha sa fa la dpa => ?_⟩
        refine ⟨.ref pr, 1, g.rows, rfl, .lst (.inl (.inl la)) (DpAll.mono cut_all dpa), vg.r1, by decide, vg.r3, fun pb Hb sb fb lb => ?_⟩
        refine ⟨l, pb, _, _, rfl, rfl, sb _ _ (sa _ _ l9), lb, sz_lit (by rw [List.length_map, List.length_map]; have := hh.1; have := hbk.1; omega), fun pz hz => ?_⟩
        refine ⟨"\n", pz, headL g.asks g.sigs g.ins ++ blkL 5 1 g.rows, rfl, rfl, .inl (.inl (.inl (by rw [upd_same, List.map_append]))), nl_fits (hh.app hbk) (by omega), ?_⟩
        exact k _ ((s1.trans s2).trans (s9.trans (sa.trans (sb.trans (Same.new hz)))))
end
end Op
namespace Op
open PySem L2 PyProof.Rows
/-! ### great powers -/
theorem op_powW {X : Cx} : OpR X (binaryOp .Pow) (rI (fun i j => 0 ≤ j ∧ (Builtin.Int.intBits i : Int) * j ≤ 2 ^ 27) fun i j => .int (i ^ j.toNat)) := opI fun _ _ _ _ _ _ _ hc q => pow_int hc.1 hc.2 q
/-! ### the pool -/
def pool (b sd c : Int) : HO := .dK [((.inr "big" : Key), .int b), (.inr "seed", .int sd), (.inr "k", .int c)]
theorem mk_pool (b sd c : Int) : mergeK [] [((.inr "big" : Key), V.int b), (.inr "seed", .int sd), (.inr "k", .int c)] = [((.inr "big" : Key), .int b), (.inr "seed", .int sd), (.inr "k", .int c)] := by
  first | rfl | kernel_rfl
theorem put_count (b sd c c' : Int) : putK [((.inr "big" : Key), V.int b), (.inr "seed", .int sd), (.inr "k", .int c)] (.inr "k") (.int c') = [((.inr "big" : Key), .int b), (.inr "seed", .int sd), (.inr "k", .int c')] := by
  first | rfl | kernel_rfl
theorem put_big (b sd c b' : Int) : putK [((.inr "big" : Key), V.int b), (.inr "seed", .int sd), (.inr "k", .int c)] (.inr "big") (.int b') = [((.inr "big" : Key), .int b'), (.inr "seed", .int sd), (.inr "k", .int c)] := by
  first | rfl | kernel_rfl
section
variable {H : Hp} {p : Addr} {b sd c : Int}
theorem get_count (h : H p = some (pool b sd c)) : DGet H p (.str "k") (some (.int c)) := DGet.k (k := (.inr "k" : Key)) h
theorem get_big (h : H p = some (pool b sd c)) : DGet H p (.str "big") (some (.int b)) := DGet.k (k := (.inr "big" : Key)) h
theorem get_seed (h : H p = some (pool b sd c)) : DGet H p (.str "seed") (some (.int sd)) := DGet.k (k := (.inr "seed" : Key)) h
theorem dput_count (h : H p = some (pool b sd c)) (c' : Int) : DPut H p (.str "k") (.int c') (upd H p (pool b sd c')) := by
  have z := DPut.k (k := (.inr "k" : Key)) (v := .int c') h (by show 3 < sizeLine; rw [sizeLine_eq]; decide)
  rw [put_count] at z
  exact z
theorem dput_big (h : H p = some (pool b sd c)) (b' : Int) : DPut H p (.str "big") (.int b') (upd H p (pool b' sd c)) := by
  have z := DPut.k (k := (.inr "big" : Key)) (v := .int b') h (by show 3 < sizeLine; rw [sizeLine_eq]; decide)
  rw [put_big] at z
  exact z
end
theorem fmod_lt {a m : Int} (h : 0 < m) : 0 ≤ a.fmod m ∧ a.fmod m < m := ⟨Int.fmod_nonneg_of_pos _ h, Int.fmod_lt_of_pos _ h⟩
theorem lt64a {a : Int} : -(2 ^ 64) < a.fmod 2147483629 + 1 ∧ a.fmod 2147483629 + 1 < 2 ^ 64 := by
  have := fmod_lt (a := a) (m := 2147483629) (by decide)
  omega
theorem lt64b {a : Int} : -(2 ^ 64) < a.fmod 2147483647 ∧ a.fmod 2147483647 < 2 ^ 64 := by
  have := fmod_lt (a := a) (m := 2147483647) (by decide)
  omega
def spPool (K : PySem.W.Frag) : Sp := fun vs H Q _ => ∃ (a : Addr) (ns : List Int), vs = [.ref a, .int 0] ∧ SqL K H a (ns.map V.int) ∧ ns.length ≤ 63 ∧
  ∀ (p : Addr) (b sd c : Int), H p = none → 0 ≤ b → Q (.ref p) (upd H p (pool b sd c))
def spDraw : Sp := fun vs H Q _ => ∃ (p : Addr) (m b sd c : Int), vs = [.ref p, .int m] ∧ H p = some (pool b sd c) ∧ 0 ≤ b ∧ 1 ≤ m ∧ m < 1073741824 ∧
  ∀ (r b' c' : Int), 0 ≤ r → r < m → 0 ≤ b' → Q (.int r) (upd H p (pool b' sd c'))
section
variable {P : Program} {w : World} {K : PySem.W.Frag} {mg : Str → Option Value} {base : Heap}
theorem sc__law_pool : FnScope ["_law_script", "_law_k", "_law_cell", "_law_big"] ["_law_script", "_law_k"] (defScope s__law_pool) := ⟨rfl, rfl, rfl, by decide +kernel, rfl, by decide +kernel, by decide +kernel⟩
theorem ok_pool {f : Addr} {fd : FuncData} (F : Fun K "_law_pool" "_law_pool" s__law_pool f fd) (T : Txt mg) : FnOk P w K mg base CX0 1 f fd ["_law_script", "_law_k"] (spPool K) := by
  refine F.ok sc__law_pool (fun vs H Q E h => ?_) (fun cdv A outer s H vs Q E hr h => ?_)
  · obtain ⟨a, ns, rfl, _⟩ := h
    rfl
  · obtain ⟨a, ns, rfl, hS, hlen, k⟩ := h
    refine ⟨_, (pss_cons (ps_set (i := 2) sc__law_pool.nd rfl (.inl rfl) pe_int)
      (Evl.pss_cut (ps_if (pt_cmpR op_lt (pv 1) (pe_callB call_len_seq (by rfl) T.b_len (by decide +kernel) (pa_cons (pv 0) pa_nil)) (nomark _)) (pss_one (ps_set (i := 2) sc__law_pool.nd rfl (.inl rfl) (pe_callTy call_int1 (by rfl) T.b_int (by decide +kernel) (pa_cons (pe_ix ix_list (pv 0) (pv 1) (fun _ _ => rfl)) pa_nil)))) pss_nil)
      (pss_cons (ps_set (i := 3) sc__law_pool.nd rfl (.inl rfl) pe_int)
      (Evl.pss_cut (ps_if (pt_cmpR op_ge (pv 2) (pe_op op_pow pe_int pe_int) (nomark _)) (pss_one (ps_set (i := 3) sc__law_pool.nd rfl (.inl rfl) (pe_op op_modN (pe_callTy call_int1 (by rfl) T.b_int (by decide +kernel) (pa_cons (pv 2) pa_nil)) (pe_op op_powW (pe_op op_pow pe_int pe_int) pe_int)))) pss_nil)
      (pss_one (ps_ret (pe_disp (pps_cons pe_str (pv 3) (pps_cons pe_str (pe_op op_modN (pe_callTy call_int1 (by rfl) T.b_int (by decide +kernel) (pa_cons (pv 2) pa_nil)) pe_int) (pps_cons pe_str (pe_op op_mul pe_int (pv 1)) pps_nil))) (by rfl) (by rfl) (fun z => by cases z) (by decide)))))))), ?_⟩
    refine ⟨fun σ H' => H' = H ∧ ∃ c : Int, σ = [some (.ref a), some (.int 0), some (.int c), none], ?_, ?_⟩
    · refine ⟨_, rfl, _, rfl, a, _, rfl, .inl hS, _, _, rfl, rfl, _, rfl, ?_⟩
      by_cases c : (0 : Int) < ((ns.map V.int).length : Int)
      · refine ifT (decide_eq_true c) ?_
        cases ns with
        | nil => simp at c
        | cons n r =>
          exact ⟨_, rfl, _, rfl, a, _, _, _, rfl, rfl, hS, atI_nat (j := 0) rfl, .inl ⟨n, rfl, rfl, n, rfl⟩⟩
      · exact ifF (decide_eq_false c) ⟨rfl, 0, rfl⟩
    · rintro _ H1 ⟨e1, c, rfl⟩
      subst e1
      refine ⟨fun σ H' => H' = H1 ∧ ∃ b : Int, 0 ≤ b ∧ σ = [some (.ref a), some (.int 0), some (.int c), some (.int b)], ?_, ?_⟩
      · refine ⟨_, rfl, _, _, rfl, rfl, ⟨by decide, by decide, by decide⟩, _, _, rfl, rfl, _, rfl, ?_⟩
        by_cases e : (10 : Int) ^ (18 : Int).toNat ≤ c
        · refine ifT (decide_eq_true e) ?_
          refine ⟨_, rfl, .inl ⟨c, rfl, ?_⟩⟩
          refine ⟨_, _, rfl, rfl, ⟨by decide, by decide, by decide⟩, _, _, rfl, rfl, ⟨by decide, by decide +kernel⟩, _, _, rfl, rfl, (by show ((10 : Int) ^ (50 : Int).toNat) ^ (8 : Int).toNat ≠ 0; decide +kernel), rfl, _, ?_, rfl⟩
          exact Int.fmod_nonneg_of_pos _ (by decide +kernel)
        · exact ifF (decide_eq_false e) ⟨rfl, 0, by decide, rfl⟩
      · rintro _ H2 ⟨e2, b, hb, rfl⟩
        subst e2
        intro p hp
        refine ⟨_, rfl, _, rfl, .inl ⟨c, rfl, _, _, rfl, rfl, (by show (2147483647 : Int) ≠ 0; decide), _, rfl, _, _, rfl, rfl, .inl ⟨by decide, by decide⟩, upd_same, [((.inr "big" : Key), .int b), (.inr "seed", .int (c.fmod 2147483647)), (.inr "k", .int (7 * 0))], rfl, (by show 3 ≤ 15; decide), ?_⟩⟩
        refine (congrArg (fun l => Q (.ref p) l) ?_).mp (k p b (c.fmod 2147483647) (7 * 0) hp hb)
        rw [mk_pool]
        exact upd_upd.symm
theorem sc__law_draw : FnScope ["_law_pool_here", "_law_many", "_law_digit", "_law_one", "_law_two"] ["_law_pool_here", "_law_many"] (defScope s__law_draw) := ⟨rfl, rfl, rfl, by decide +kernel, rfl, by decide +kernel, by decide +kernel⟩
theorem ok_draw {f : Addr} {fd : FuncData} (F : Fun K "_law_draw" "_law_draw" s__law_draw f fd) (T : Txt mg) : FnOk P w K mg base CX0 1 f fd ["_law_pool_here", "_law_many"] spDraw := by
  refine F.ok sc__law_draw (fun vs H Q E h => ?_) (fun cdv A outer s H vs Q E hr h => ?_)
  · obtain ⟨p, m, b, sd, c, rfl, _⟩ := h
    rfl
  · obtain ⟨p, m, b, sd, c, rfl, hp, hb, h1, h2, k⟩ := h
    have hu := hu_of hr
    refine ⟨_, (pss_cons (ps_dput hu (pv 0) pe_str (pe_op op_add (pe_dget hu (pv 0) pe_str (fun _ _ => rfl)) pe_int) rfl)
      (pss_cons (ps_if (pt_cmpR op_gt (pe_dget hu (pv 0) pe_str (fun _ _ => rfl)) pe_int (nomark _)) (pss_cons (ps_set (i := 2) sc__law_draw.nd rfl (.inl rfl) (pe_op op_modN (pe_callTy call_int1 (by rfl) T.b_int (by decide +kernel) (pa_cons (pe_dget hu (pv 0) pe_str (fun _ _ => rfl)) pa_nil)) (pv 1)))
      (pss_cons (ps_dput hu (pv 0) pe_str (pe_op op_fdivN (pe_dget hu (pv 0) pe_str (fun _ _ => rfl)) (pv 1)) rfl)
      (pss_one (ps_ret (pv 2))))) pss_nil)
      (pss_cons (ps_set (i := 3) sc__law_draw.nd rfl (.inl rfl) (pe_op op_add (pe_op op_modN (pe_callTy call_int1 (by rfl) T.b_int (by decide +kernel) (pa_cons (pe_op op_add (pe_op op_add (pe_op op_mul (pe_dget hu (pv 0) pe_str (fun _ _ => rfl)) pe_int) (pe_op op_mul (pe_dget hu (pv 0) pe_str (fun _ _ => rfl)) pe_int)) pe_int) pa_nil)) pe_int) pe_int))
      (pss_cons (ps_set (i := 4) sc__law_draw.nd rfl (.inl rfl) (pe_op op_modN (pe_callTy call_int1 (by rfl) T.b_int (by decide +kernel) (pa_cons (pe_op op_mul (pv 3) (pe_op op_add (pe_op op_fdivN (pv 3) pe_int) pe_int)) pa_nil)) pe_int))
      (pss_cons (ps_set (i := 4) sc__law_draw.nd rfl (.inl rfl) (pe_op op_modN (pe_callTy call_int1 (by rfl) T.b_int (by decide +kernel) (pa_cons (pe_op op_mul (pv 4) (pe_op op_add (pe_op op_fdivN (pv 4) pe_int) pe_int)) pa_nil)) pe_int))
      (pss_one (ps_ret (pe_op op_modN (pe_callTy call_int1 (by rfl) T.b_int (by decide +kernel) (pa_cons (pe_op op_fdivN (pv 4) pe_int) pa_nil)) (pv 1))))))))), ?_⟩
    refine ⟨_, rfl, p, _, rfl, get_count hp, _, _, rfl, rfl, _, rfl, p, _, rfl, dput_count hp _, ?_⟩
    have hp1 : upd H p (pool b sd (c + 1)) p = some (pool b sd (c + 1)) := upd_same
    refine ⟨_, rfl, p, _, rfl, get_big hp1, _, _, rfl, rfl, _, rfl, ?_⟩
    by_cases e : (0 : Int) < b
    · refine ifT (decide_eq_true e) ?_
      refine ⟨_, rfl, p, _, rfl, get_big hp1, .inl ⟨b, rfl, _, rfl, _, _, rfl, rfl, (by show m ≠ 0; omega), ?_⟩⟩
      refine ⟨_, rfl, p, _, rfl, get_big hp1, _, rfl, _, _, rfl, rfl, ⟨(by omega), (by omega)⟩, _, rfl, p, _, rfl, dput_big hp1 _, _, rfl, ?_⟩
      rw [upd_upd]
      exact k _ _ _ (fmod_lt (by omega)).1 (fmod_lt (by omega)).2 (Int.fdiv_nonneg (by omega) (by omega))
    · refine ifF (decide_eq_false e) ?_
      refine ⟨_, rfl, p, _, rfl, get_seed hp1, _, _, rfl, rfl, .inr ⟨by decide, by decide⟩, _, rfl, p, _, rfl, get_count hp1, _, _, rfl, rfl, .inr ⟨by decide, by decide⟩, _, _, rfl, rfl, _, _, rfl, rfl, .inl ⟨_, rfl, _, _, rfl, rfl, (by show (2147483629 : Int) ≠ 0; decide), _, _, rfl, rfl, ?_⟩⟩
      refine ⟨_, rfl, _, rfl, _, _, rfl, rfl, ⟨by decide, by decide⟩, _, _, rfl, rfl, _, _, rfl, rfl, .inl lt64a, .inl ⟨_, rfl, _, _, rfl, rfl, (by show (2147483647 : Int) ≠ 0; decide), ?_⟩⟩
      refine ⟨_, rfl, _, rfl, _, _, rfl, rfl, ⟨by decide, by decide⟩, _, _, rfl, rfl, _, _, rfl, rfl, .inl lt64b, .inl ⟨_, rfl, _, _, rfl, rfl, (by show (2147483399 : Int) ≠ 0; decide), ?_⟩⟩
      refine ⟨_, rfl, _, _, rfl, rfl, ⟨by decide, by decide⟩, .inl ⟨_, rfl, _, rfl, _, _, rfl, rfl, (by show m ≠ 0; omega), ?_⟩⟩
      exact k _ _ _ (fmod_lt (by omega)).1 (fmod_lt (by omega)).2 hb
end
end Op
namespace Op
open PySem L2 PyProof.Rows
/-- the pool stands at p -/
def Pl (H : Hp) (p : Addr) : Prop := ∃ b sd c, H p = some (pool b sd c) ∧ 0 ≤ b
section
variable {K : PySem.W.Frag} {H H' : Hp} {p : Addr}
theorem Pl.kp (h : Pl H p) (b : But p H H') : Kp H H' := fun c o hc ho => b c o hc fun e => by
  obtain ⟨_, _, _, h, _⟩ := h
  rw [e, h] at hc
  cases hc
  cases ho
theorem Pl.mono (h : Pl H p) (s : Same H H') : Pl H' p := let ⟨b, sd, c, e, z⟩ := h; ⟨b, sd, c, s _ _ e, z⟩
theorem Pl.ne {a : Addr} {xs : List V} (h : Pl H p) (e : H a = some (.lst xs)) : a ≠ p := fun q => by
  obtain ⟨_, _, _, h, _⟩ := h
  rw [q, h] at e
  cases e
theorem Pl.put {a : Addr} {xs : List V} {o : HO} (h : Pl H p) (e : H a = some (.lst xs)) : Pl (upd H a o) p := by
  have n := h.ne e
  obtain ⟨b, sd, c, h, z⟩ := h
  exact ⟨b, sd, c, by rw [upd_ne n.symm]; exact h, z⟩
end
def spD : Sp := fun vs H Q _ => ∃ (p : Addr) (m : Int), vs = [.ref p, .int m] ∧ Pl H p ∧ 1 ≤ m ∧ m < 1073741824 ∧ ∀ (r : Int) H', 0 ≤ r → r < m → But p H H' → Pl H' p → Q (.int r) H'
def nameOk (z : Str) : Prop := isWordS z = true ∧ z.length ≠ 2
instance (z : Str) : Decidable (nameOk z) := inferInstanceAs (Decidable (_ ∧ _))
/-- the names of a style, from a letter on -/
def nmC (c : Nat) : Nat → Str
  | 0 => ⟨#[c]⟩
  | 1 => "same" ++ ⟨#[c]⟩ ++ "end"
  | _ => ⟨#[c]⟩ ++ "word"
def nm (st sa k : Nat) : Str := nmC (97 + (sa + k) % 26) st
def nmL (st sa n : Nat) : List Str := (List.range n).map (nm st sa)
theorem nmL_succ (st sa n : Nat) : nmL st sa (n + 1) = nmL st sa n ++ [nm st sa n] := by
  unfold nmL
  rw [List.range_succ, List.map_append]
  rfl
theorem nmL_len (st sa n : Nat) : (nmL st sa n).length = n := by
  unfold nmL
  rw [List.length_map, List.length_range]
theorem letter_at : ∀ j : Nat, j < 26 → letters.cps.toList[j]? = some (97 + j) := by decide +kernel
theorem nmL_ok : ∀ st : Nat, st < 3 → ∀ sa : Nat, sa < 26 → ∀ n : Nat, n < 4 → (nmL st sa n).Nodup ∧ ∀ z ∈ nmL st sa n, nameOk z := by decide +kernel
theorem names_sz (c : Nat) : (("same" ++ ⟨#[c]⟩ : Str)).length + (("end" : Str)).length ≤ 100000 := by
  show (("same" : Str).cps ++ #[c]).size + 3 ≤ 100000
  rw [Array.size_append]
  show 4 + 1 + 3 ≤ 100000
  decide
section
variable {P : Program} {w : World} {K : PySem.W.Frag} {mg : Str → Option Value} {base : Heap}
theorem ok_draw2 {f : Addr} {fd : FuncData} (h : FnOk P w K mg base CX0 1 f fd ["_law_pool_here", "_law_many"] spDraw) : FnOk P w K mg base CX0 1 f fd ["_law_pool_here", "_law_many"] spD := by
  refine h.imp fun vs H Q E hq => ?_
  obtain ⟨p, m, rfl, ⟨b, sd, c, hp, hb⟩, h1, h2, k⟩ := hq
  refine ⟨p, m, b, sd, c, rfl, hp, hb, h1, h2, fun r b' c' r1 r2 hb' => k r _ r1 r2 (fun a o ha n => by rw [L2.upd_ne n]; exact ha) ⟨b', sd, c', upd_same, hb'⟩⟩
def spItem (K : PySem.W.Frag) : Sp := fun vs H Q _ => ∃ (p l : Addr) (zs : List Str), vs = [.ref p, .ref l] ∧ Pl H p ∧ SqL K H l (zs.map V.str) ∧ 1 ≤ zs.length ∧ zs.length ≤ 1000 ∧ ∀ z H', z ∈ zs → But p H H' → Pl H' p → Q (.str z) H'
theorem sc__law_item : FnScope ["_law_pool_here", "_law_items"] ["_law_pool_here", "_law_items"] (defScope s__law_item) := ⟨rfl, rfl, rfl, by decide +kernel, rfl, by decide +kernel, by decide +kernel⟩
theorem ok_item {f : Addr} {fd : FuncData} (F : Fun K "_law_item" "_law_item" s__law_item f fd) (T : Txt mg) (c__law_draw : Cal P w K mg base CX0 1 "_law_draw" ["_law_pool_here", "_law_many"] spD) : FnOk P w K mg base CX0 2 f fd ["_law_pool_here", "_law_items"] (spItem K) := by
  refine F.ok sc__law_item (fun vs H Q E h => ?_) (fun cdv A outer s H vs Q E hr h => ?_)
  · obtain ⟨p, l, zs, rfl, _⟩ := h
    rfl
  · obtain ⟨p, l, zs, rfl, hp, hl, h1, h2, k⟩ := h
    refine ⟨_, (pss_one (ps_ret (pe_ix ix_list (pv 1) (pe_cal c__law_draw (hr.mono (by omega)) rfl pass0 (pa_cons (pv 0) (pa_cons (pe_callB call_len_seq (by rfl) T.b_len (by decide +kernel) (pa_cons (pv 1) pa_nil)) pa_nil))) (fun _ _ => rfl)))), ?_⟩
    refine ⟨_, rfl, _, rfl, _, rfl, l, _, rfl, .inl hl, p, _, rfl, hp, ?_, ?_, fun r H' r1 r2 but pl => ?_⟩
    · rw [List.length_map]; omega
    · rw [List.length_map]; omega
    · rw [List.length_map] at r2
      obtain ⟨n, rfl⟩ := Int.eq_ofNat_of_zero_le r1
      have hn : n < zs.length := by omega
      have hz : zs[n]? = some zs[n] := List.getElem?_eq_getElem hn
      refine ⟨l, _, _, .str zs[n], rfl, rfl, hl.kp (hp.kp but), atI_nat (j := n) (by rw [List.getElem?_map, hz]; rfl), k _ H' (List.mem_of_getElem? hz) but pl⟩
def spNames : Sp := fun vs H Q _ => ∃ (p : Addr) (n : Nat), vs = [.ref p, .int n] ∧ Pl H p ∧ n ≤ 100 ∧ ∀ (l : Addr) (st sa : Nat) H', st < 3 → sa < 26 → But p H H' → Pl H' p → H l = none → H' l = some (.lst ((nmL st sa n).map V.str)) → Q (.ref l) H'
theorem sc__law_names : FnScope ["_law_pool_here", "_law_many", "_law_style", "_law_start", "_law_names_here", "_law_k", "_law_sign"] ["_law_pool_here", "_law_many"] (defScope s__law_names) := ⟨rfl, rfl, rfl, by decide +kernel, rfl, by decide +kernel, by decide +kernel⟩
theorem ok_names {f : Addr} {fd : FuncData} (F : Fun K "_law_names" "_law_names" s__law_names f fd) (T : Txt mg) (c__law_draw : Cal P w K mg base CX0 1 "_law_draw" ["_law_pool_here", "_law_many"] spD) : FnOk P w K mg base CX0 2 f fd ["_law_pool_here", "_law_many"] spNames := by
  refine F.ok sc__law_names (fun vs H Q E h => ?_) (fun cdv A outer s H vs Q E hr h => ?_)
  · obtain ⟨p, n, rfl, _⟩ := h
    rfl
  · obtain ⟨p, n, rfl, hp, hn, k⟩ := h
    refine ⟨_, (pss_cons (ps_set (i := 2) sc__law_names.nd rfl (.inl rfl) (pe_cal c__law_draw (hr.mono (by omega)) rfl pass0 (pa_cons (pv 0) (pa_cons pe_int pa_nil))))
      (pss_cons (ps_set (i := 3) sc__law_names.nd rfl (.inl rfl) (pe_cal c__law_draw (hr.mono (by omega)) rfl pass0 (pa_cons (pv 0) (pa_cons pe_int pa_nil))))
      (pss_cons (ps_set (i := 4) sc__law_names.nd rfl (.inl rfl) (pe_lst pa_nil))
      (pss_cons (ps_for PassesOwn.never rfl (pi_range1 (by rfl) T.b_range (pa_cons (pv 1) pa_nil)) (pg_name (i := 5) sc__law_names.nd rfl (.inl rfl)) (pss_cons (ps_set (i := 6) sc__law_names.nd rfl (.inl rfl) (pe_ix ix_str pe_str (pe_op op_modN (pe_op op_add (pv 3) (pv 5)) pe_int) (fun _ _ => rfl)))
      (pss_one (ps_expr (pe_bm PySem.F.plainAttrs_list PySem.F.slot_list_append PySem.F.type_list_append mt_append (pv 4) (pa_cons (pe_ix ix_list (pe_lst (pa_cons (pv 6) (pa_cons (pe_op op_add_str (pe_op op_add_str pe_str (pv 6)) pe_str) (pa_cons (pe_op op_add_str (pv 6) pe_str) pa_nil)))) (pv 2) (fun _ _ => rfl)) pa_nil))))))
      (pss_one (ps_ret (pv 4))))))), ?_⟩
    refine ⟨_, rfl, p, 3, rfl, hp, by decide, by decide, fun st H1 st1 st2 but1 pl1 => ?_⟩
    refine ⟨_, rfl, p, 26, rfl, pl1, by decide, by decide, fun sa H2 sa1 sa2 but2 pl2 => ?_⟩
    obtain ⟨st, rfl⟩ := Int.eq_ofNat_of_zero_le st1
    obtain ⟨sa, rfl⟩ := Int.eq_ofNat_of_zero_le sa1
    refine ⟨sz_lit (by decide), fun l hl => ?_⟩
    have but3 : But p H (upd H2 l (.lst [])) := fun b o hb hbp => by
      have := but2 b o (but1 b o hb hbp) hbp
      rw [L2.upd_ne (ne_of_none this hl)]
      exact this
    have pl3 : Pl (upd H2 l (.lst [])) p := pl2.mono (Same.new hl)
    have hl3 : upd H2 l (.lst []) l = some (.lst ((nmL st sa 0).map V.str)) := upd_same
    have hlH : H l = none := by
      cases q : H l with
      | none => rfl
      | some o =>
        by_cases e : l = p
        · obtain ⟨_, _, _, hh, _⟩ := pl2
          rw [e, hh] at hl
          cases hl
        · rw [but2 _ _ (but1 _ _ q e) e] at hl
          cases hl
    revert but3 pl3 hl3
    generalize upd H2 l (.lst []) = H3
    intro but3 pl3 hl3
    refine ⟨_, rfl, n, rfl, by omega, by omega, ?_⟩
    rw [Int.toNat_natCast]
    refine for_it walk_range (fun i σ H' => (∃ y5 y6 : Option V, σ = [some (.ref p), some (.int n), some (.int st), some (.int sa), some (.ref l), y5, y6]) ∧ H' l = some (.lst ((nmL st sa i).map V.str)) ∧ But p H H' ∧ Pl H' p) ⟨⟨_, _, rfl⟩, hl3, but3, pl3⟩ (fun _ _ _ _ _ => trivial) ?_ ?_
    · rintro i v σ H5 H4 hi ⟨⟨y5, y6, rfl⟩, hl4, but4, pl4⟩ ⟨rfl, rfl⟩
      have hj : ((sa : Int) + (0 + (i : Int))).fmod 26 = ((sa + i) % 26 : Nat) := by
        rw [Int.fmod_eq_emod_of_nonneg _ (by decide)]
        omega
      have hj26 : (sa + i) % 26 < 26 := Nat.mod_lt _ (by decide)
      have hc := letter_at _ hj26
      revert hc
      have hnm : nm st sa i = nmC (97 + (sa + i) % 26) st := rfl
      revert hnm
      generalize 97 + (sa + i) % 26 = c
      intro hnm hc
      refine ⟨_, rfl, _, rfl, _, _, rfl, rfl, _, _, rfl, rfl, (by show (26 : Int) ≠ 0; decide), letters, ((sa + i) % 26 : Nat), c, rfl, (congrArg V.int hj), sz_lit (by decide +kernel), atI_nat (j := (sa + i) % 26) hc, ?_⟩
      have hst : st = 0 ∨ st = 1 ∨ st = 2 := by omega
      have sq4 : SqL K H4 l ((nmL st sa i).map V.str) := .inl (.inl hl4)
      refine ⟨_, rfl, .inl ⟨rfl, _, sq4⟩, _, rfl, _, rfl, _, _, rfl, rfl, sz_lit (by show 4 + 1 ≤ 100000; decide), _, _, rfl, rfl, sz_lit (names_sz c), _, rfl, _, _, rfl, rfl, sz_lit (by show 1 + 4 ≤ 100000; decide), sz_lit (by show 3 ≤ 100000; decide), fun q hq => ?_⟩
      have s5 : Same H4 (upd H4 q (.lst [.str ⟨#[c]⟩, .str ("same" ++ ⟨#[c]⟩ ++ "end"), .str (⟨#[c]⟩ ++ "word")])) := Same.new hq
      have q5 := at_new (o := .lst [.str ⟨#[c]⟩, .str ("same" ++ ⟨#[c]⟩ ++ "end"), .str (⟨#[c]⟩ ++ "word")]) hq
      revert s5 q5
      generalize upd H4 q _ = H5
      intro s5 q5
      have done : ∀ z : Str, z = nm st sa i → (∃ y5 y6 : Option V, ([some (.ref p), some (.int n), some (.int st), some (.int sa), some (.ref l), some (.int (0 + (i : Int))), some (.str ⟨#[c]⟩)] : L2.St) = [some (.ref p), some (.int n), some (.int st), some (.int sa), some (.ref l), y5, y6]) ∧ upd H5 l (.lst ((nmL st sa i).map V.str ++ [.str z])) l = some (.lst ((nmL st sa (i + 1)).map V.str)) ∧ But p H (upd H5 l (.lst ((nmL st sa i).map V.str ++ [.str z]))) ∧ Pl (upd H5 l (.lst ((nmL st sa i).map V.str ++ [.str z]))) p := fun z hz => by
        refine ⟨⟨_, _, rfl⟩, by rw [upd_same, nmL_succ, List.map_append, hz]; rfl, fun b o hb hbp => ?_, (pl4.mono s5).put (s5 _ _ hl4)⟩
        rw [L2.upd_ne (ne_of_none hb hlH)]
        exact s5 b o (but4 b o hb hbp)
      have hys : ((nmL st sa i).map V.str).length < sizeLine := lt_sz (by rw [List.length_map, nmL_len]; omega)
      rcases hst with rfl | rfl | rfl
      · exact ⟨_, rfl, q, _, 0, _, rfl, rfl, .inl (.inl q5), rfl, l, _, _, rfl, rfl, s5 _ _ hl4, hys, done _ hnm.symm⟩
      · exact ⟨_, rfl, q, _, 1, _, rfl, rfl, .inl (.inl q5), rfl, l, _, _, rfl, rfl, s5 _ _ hl4, hys, done _ hnm.symm⟩
      · exact ⟨_, rfl, q, _, 2, _, rfl, rfl, .inl (.inl q5), rfl, l, _, _, rfl, rfl, s5 _ _ hl4, hys, done _ hnm.symm⟩
    · rintro σ H4 ⟨⟨y5, y6, rfl⟩, hl4, but4, pl4⟩
      exact ⟨_, rfl, k l st sa H4 (by omega) (by omega) but4 pl4 hlH hl4⟩
end
end Op
namespace Op
open PySem L2 PyProof.Rows
/-! ### the names of a law's program -/
structure Gn where
  labels : List Str
  slots : List Str
  words : List Str
  ids : List Str
  asks : List Str
  boxes : List Str
def nl (n : Nat) (zs : List Str) : Prop := zs.length = n ∧ zs.Nodup ∧ ∀ z ∈ zs, nameOk z
structure GnV (G : Gn) : Prop where
  labels : nl 3 G.labels
  slots : nl 2 G.slots
  words : nl 3 G.words
  ids : nl 2 G.ids
  asks : nl 2 G.asks
  boxes : nl 0 G.boxes ∨ nl 1 G.boxes
theorem nl_of {st sa n : Nat} (h1 : st < 3) (h2 : sa < 26) (h3 : n < 4) : nl n (nmL st sa n) := ⟨nmL_len st sa n, (nmL_ok st h1 sa h2 n h3).1, (nmL_ok st h1 sa h2 n h3).2⟩
def nmK (a1 a2 a3 a4 a5 a6 : Addr) : List (Key × V) := [(.inr "labels", .ref a1), (.inr "slots", .ref a2), (.inr "words", .ref a3), (.inr "ids", .ref a4), (.inr "asks", .ref a5), (.inr "boxes", .ref a6)]
theorem nmK_boxes (a1 a2 a3 a4 a5 a6 a7 : Addr) : putK (nmK a1 a2 a3 a4 a5 a6) (.inr "boxes") (.ref a7) = nmK a1 a2 a3 a4 a5 a7 := by first | rfl | kernel_rfl
theorem nmK_asks (a1 a2 a3 a4 a5 : Addr) : putK [((.inr "labels" : Key), V.ref a1), (.inr "slots", .ref a2), (.inr "words", .ref a3), (.inr "ids", .ref a4)] (.inr "asks") (.ref a5) = [(.inr "labels", .ref a1), (.inr "slots", .ref a2), (.inr "words", .ref a3), (.inr "ids", .ref a4), (.inr "asks", .ref a5)] := by first | rfl | kernel_rfl
theorem nmK_box0 (a1 a2 a3 a4 a5 a6 : Addr) : putK [((.inr "labels" : Key), V.ref a1), (.inr "slots", .ref a2), (.inr "words", .ref a3), (.inr "ids", .ref a4), (.inr "asks", .ref a5)] (.inr "boxes") (.ref a6) = nmK a1 a2 a3 a4 a5 a6 := by first | rfl | kernel_rfl
structure NmL (H : Hp) (G : Gn) (a1 a2 a3 a4 a5 a6 : Addr) : Prop where
  l1 : H a1 = some (.lst (G.labels.map V.str))
  l2 : H a2 = some (.lst (G.slots.map V.str))
  l3 : H a3 = some (.lst (G.words.map V.str))
  l4 : H a4 = some (.lst (G.ids.map V.str))
  l5 : H a5 = some (.lst (G.asks.map V.str))
  l6 : H a6 = some (.lst (G.boxes.map V.str))
theorem NmL.kp {H H' : Hp} {G : Gn} {a1 a2 a3 a4 a5 a6 : Addr} (h : NmL H G a1 a2 a3 a4 a5 a6) (k : Kp H H') : NmL H' G a1 a2 a3 a4 a5 a6 := ⟨k _ _ h.l1 rfl, k _ _ h.l2 rfl, k _ _ h.l3 rfl, k _ _ h.l4 rfl, k _ _ h.l5 rfl, k _ _ h.l6 rfl⟩
/-- the dict of names at nd -/
def NmO (H : Hp) (nd : Addr) (G : Gn) : Prop := ∃ a1 a2 a3 a4 a5 a6, H nd = some (.dK (nmK a1 a2 a3 a4 a5 a6)) ∧ NmL H G a1 a2 a3 a4 a5 a6
def spK (nd pa ps : Addr) (iv rv : V) : List (Key × V) := [(.inr "names", .ref nd), (.inr "asks", .ref pa), (.inr "signals", .ref ps), (.inr "inputs", iv), (.inr "rows", rv)]
structure PartsV (G : Gn) (ka ks : List (Str × PyData)) (ins : PyData) : Prop where
  gn : GnV G
  ak : ka.map (·.1) = G.asks
  av : ∀ q ∈ ka, areWords 4 q.2 = true
  bk : ks.map (·.1) = G.boxes
  bv : ∀ q ∈ ks, isBox q.2 = true
  iv : areWords 3 ins = true
theorem name_word {z : Str} (h : nameOk z) : isWordS z = true := h.1
theorem words_ok {m : Int} {zs : List Str} (h1 : 1 ≤ zs.length) (h2 : (zs.length : Int) ≤ m) (h3 : zs.Nodup) (h4 : ∀ z ∈ zs, isWordS z = true) : areWords m (.tuple (zs.map .str)) = true := by
  show (decide (1 ≤ (zs.map PyData.str).length ∧ ((zs.map PyData.str).length : Int) ≤ m) && ((zs.map PyData.str).all isWord && decide (((zs.map PyData.str).map strOf).Nodup))) = true
  rw [map_strOf, List.length_map, decide_eq_true ⟨h1, h2⟩, decide_eq_true h3]
  have : ((zs.map PyData.str).all isWord) = true := List.all_eq_true.mpr fun d hd => by
    obtain ⟨z, hz, rfl⟩ := List.mem_map.mp hd
    exact h4 z hz
  rw [this]
  rfl
theorem dp_strs {K : PySem.W.Frag} {H : Hp} : ∀ zs : List Str, DpAll K H (zs.map V.str) (zs.map PyData.str)
  | [] => .nil
  | z :: r => .cons (.str z) (dp_strs r)
theorem nd_take {zs : List Str} (h : zs.Nodup) (n : Nat) : (zs.take n).Nodup := h.sublist (List.take_sublist n zs)
theorem nd_drop {zs : List Str} (h : zs.Nodup) (n : Nat) : (zs.drop n).Nodup := h.sublist (List.drop_sublist n zs)
theorem cut_map (zs : List Str) (i j : Nat) (hij : i ≤ j) (hj : j ≤ zs.length) : cutV (zs.map V.str) (some (i : Int)) (some (j : Int)) = ((zs.drop i).take (j - i)).map V.str := by
  unfold cutV
  rw [HT.sIx_nat, HT.sIx_nat, List.length_map, show min i zs.length = i by omega, show min j zs.length = j by omega, List.map_take, List.map_drop]
theorem But.upd_new {p a : Addr} {H H' : Hp} {o : HO} (b : But p H H') (h : H a = none) : But p H (L2.upd H' a o) := fun c u hc n => by
  rw [L2.upd_ne (ne_of_none hc h)]
  exact b c u hc n
theorem Pl.upd {H : Hp} {p a : Addr} {o : HO} (h : Pl H p) (n : a ≠ p) : Pl (L2.upd H a o) p := by
  obtain ⟨b, sd, c, h, z⟩ := h
  exact ⟨b, sd, c, by rw [L2.upd_ne n.symm]; exact h, z⟩
theorem Pl.neN {H : Hp} {p a : Addr} (h : Pl H p) (n : H a = none) : a ≠ p := fun e => by
  obtain ⟨_, _, _, hh, _⟩ := h
  rw [e, hh] at n
  cases n
theorem But.free {p a : Addr} {H H' : Hp} (b : But p H H') (n : a ≠ p) (h : H' a = none) : H a = none := by
  cases q : H a with
  | none => rfl
  | some o => rw [b _ _ q n] at h; cases h
theorem KvsR.snoc {K : PySem.W.Frag} {H : Hp} {x : Str} {v : V} {d : PyData} (hv : Dp K H v d) : ∀ {vs : List (Key × V)} {kvs : List (Str × PyData)}, KvsR K H vs kvs → KvsR K H (vs ++ [(.inr x, v)]) (kvs ++ [(x, d)])
  | [], [], _ => ⟨rfl, hv, trivial⟩
  | (k, u) :: r, (y, e) :: t, ⟨h1, h2, h3⟩ => ⟨h1, h2, KvsR.snoc hv h3⟩
theorem KvsR.none {K : PySem.W.Frag} {H : Hp} {x : Str} {vs : List (Key × V)} {kvs : List (Str × PyData)} (h : KvsR K H vs kvs) (n : x ∉ kvs.map (·.1)) : valV vs (.inr x) = none := by
  have := h.has x
  rw [decide_eq_false n] at this
  cases q : valV vs (.inr x) with
  | none => rfl
  | some o => rw [q] at this; cases this
theorem at_new' {H : Hp} {a : Addr} {o : HO} : upd H a o a = some o := upd_same
theorem disp_same {H Hm : Hp} {d : Addr} {kvs : List (Key × V)} (e : H d = none) (s : Same (upd H d (.dK [])) Hm) : Same H (upd Hm d (.dK kvs)) := fun b o hb => by
  rw [upd_ne (ne_of_none hb e)]
  exact s b o (by rw [upd_ne (ne_of_none hb e)]; exact hb)
section
variable {P : Program} {w : World} {K : PySem.W.Frag} {mg : Str → Option Value} {base : Heap}
def spParts (K : PySem.W.Frag) : Sp := fun vs H Q _ => ∃ (p : Addr), vs = [.ref p] ∧ Pl H p ∧
  ∀ (sd nd pa ps rl : Addr) (iv : V) (G : Gn) (ka ks : List (Str × PyData)) (wa ws : List (Key × V)) (ins : PyData) H', But p H H' → Pl H' p → [p, sd, nd, pa, ps].Nodup → H nd = none → H pa = none → H ps = none → H sd = none →
    PartsV G ka ks ins → NmO H' nd G → H' sd = some (.dK (spK nd pa ps iv (.ref rl))) → H' rl = some (.lst []) → H' pa = some (.dK wa) → KvsR K H' wa ka → H' ps = some (.dK ws) → KvsR K H' ws ks → Dp K H' iv ins → Q (.ref sd) H'
theorem sc__law_parts : FnScope ["_law_pool_here", "_law_words", "_law_names_here", "_law_answers", "_law_name", "_law_rooms", "_law_starts"] ["_law_pool_here"] (defScope s__law_parts) := ⟨rfl, rfl, rfl, by decide +kernel, rfl, by decide +kernel, by decide +kernel⟩
theorem ok_parts {f : Addr} {fd : FuncData} (F : Fun K "_law_parts" "_law_parts" s__law_parts f fd) (T : Txt mg) (c__law_draw : Cal P w K mg base CX0 1 "_law_draw" ["_law_pool_here", "_law_many"] spD) (c__law_names : Cal P w K mg base CX0 2 "_law_names" ["_law_pool_here", "_law_many"] spNames) : FnOk P w K mg base CX0 3 f fd ["_law_pool_here"] (spParts K) := by
  refine F.ok sc__law_parts (fun vs H Q E h => ?_) (fun cdv A outer s H vs Q E hr h => ?_)
  · obtain ⟨p, rfl, _⟩ := h
    rfl
  · obtain ⟨p, rfl, hp, k⟩ := h
    have hu := hu_of hr
    refine ⟨_, (pss_cons (ps_set (i := 1) sc__law_parts.nd rfl (.inl rfl) (pe_cal c__law_names (hr.mono (by omega)) rfl pass0 (pa_cons (pv 0) (pa_cons pe_int pa_nil))))
      (pss_cons (ps_set (i := 2) sc__law_parts.nd rfl (.inl rfl) (pe_disp (pps_cons pe_str (pe_cal c__law_names (hr.mono (by omega)) rfl pass0 (pa_cons (pv 0) (pa_cons pe_int pa_nil))) (pps_cons pe_str (pe_cal c__law_names (hr.mono (by omega)) rfl pass0 (pa_cons (pv 0) (pa_cons pe_int pa_nil))) (pps_cons pe_str (pv 1) (pps_cons pe_str (pe_cal c__law_names (hr.mono (by omega)) rfl pass0 (pa_cons (pv 0) (pa_cons pe_int pa_nil))) pps_nil)))) (by rfl) (by rfl) (fun z => by cases z) (by decide)))
      (pss_cons (ps_dput hu (pv 2) pe_str (pe_cal c__law_names (hr.mono (by omega)) rfl pass0 (pa_cons (pv 0) (pa_cons pe_int pa_nil))) rfl)
      (pss_cons (ps_dput hu (pv 2) pe_str (pe_lst pa_nil) rfl)
      (pss_cons (ps_set (i := 3) sc__law_parts.nd rfl (.inl rfl) pe_dnewK)
      (pss_cons (ps_for PassesOwn.never rfl (pi_list (pe_dget hu (pv 2) pe_str (fun _ _ => rfl))) (pg_name (i := 4) sc__law_parts.nd rfl (.inl rfl)) (pss_one (ps_dput hu (pv 3) (pv 4) (pe_callTy call_tuple_of (by rfl) T.b_tuple (by decide +kernel) (pa_cons (pe_slice sl_list (pv 1) (po_some (pe_cal c__law_draw (hr.mono (by omega)) rfl pass0 (pa_cons (pv 0) (pa_cons pe_int pa_nil)))) (po_some pe_int)) pa_nil)) rfl)))
      (pss_cons (ps_set (i := 5) sc__law_parts.nd rfl (.inl rfl) pe_dnewK)
      (Evl.pss_cut (ps_if (pt_cmpR op_eq (pe_cal c__law_draw (hr.mono (by omega)) rfl pass0 (pa_cons (pv 0) (pa_cons pe_int pa_nil))) pe_int (nomark _)) (pss_cons (ps_dput hu (pv 2) pe_str (pe_cal c__law_names (hr.mono (by omega)) rfl pass0 (pa_cons (pv 0) (pa_cons pe_int pa_nil))) rfl)
      (pss_one (ps_dput hu (pv 5) (pe_ix ix_list (pe_dget hu (pv 2) pe_str (fun _ _ => rfl)) pe_int (fun _ _ => rfl)) (pe_tup (pa_cons (pe_op op_add pe_int (pe_cal c__law_draw (hr.mono (by omega)) rfl pass0 (pa_cons (pv 0) (pa_cons pe_int pa_nil)))) (pa_cons (pe_tup (pa_cons (pe_ix ix_list (pv 1) pe_int (fun _ _ => rfl)) pa_nil)) pa_nil))) rfl))) pss_nil)
      (pss_cons (ps_set (i := 6) sc__law_parts.nd rfl (.inl rfl) (pe_tup (pa_cons pe_str pa_nil)))
      (Evl.pss_cut (ps_if (pt_cmpR op_eq (pe_cal c__law_draw (hr.mono (by omega)) rfl pass0 (pa_cons (pv 0) (pa_cons pe_int pa_nil))) pe_int (nomark _)) (pss_one (ps_set (i := 6) sc__law_parts.nd rfl (.inl rfl) (pe_callTy call_tuple_of (by rfl) T.b_tuple (by decide +kernel) (pa_cons (pe_slice sl_list (pv 1) (po_some pe_int) (po_some (pe_op op_add pe_int (pe_cal c__law_draw (hr.mono (by omega)) rfl pass0 (pa_cons (pv 0) (pa_cons pe_int pa_nil)))))) pa_nil)))) pss_nil)
      (pss_one (ps_ret (pe_disp (pps_cons pe_str (pv 2) (pps_cons pe_str (pv 3) (pps_cons pe_str (pv 5) (pps_cons pe_str (pv 6) (pps_cons pe_str (pe_lst pa_nil) pps_nil))))) (by rfl) (by rfl) (fun z => by cases z) (by decide)))))))))))))), ?_⟩
    refine ⟨_, rfl, p, 3, rfl, hp, by decide, fun lw stw saw H1 w1 w2 but1 pl1 _ hlw => ?_⟩
    intro nd hnd
    have s2 := Same.new (o := .dK []) hnd
    have l2 := at_new (o := .dK []) hnd
    have ndp : nd ≠ p := fun e => by obtain ⟨_, _, _, hh, _⟩ := pl1; rw [e, hh] at hnd; cases hnd
    have ndH : H nd = none := by
      cases q : H nd with
      | none => rfl
      | some o => rw [but1 _ _ q ndp] at hnd; cases hnd
    revert s2 l2
    generalize upd H1 nd (.dK []) = H2
    intro s2 l2
    refine ⟨_, rfl, p, 3, rfl, pl1.mono s2, by decide, fun ll st3 sa3 H3 a1 a2 but3 pl3 _ hll => ?_⟩
    refine ⟨_, rfl, p, 2, rfl, pl3, by decide, fun ls st4 sa4 H4 b1 b2 but4 pl4 _ hls => ?_⟩
    refine ⟨_, rfl, _, rfl, p, 2, rfl, pl4, by decide, fun li st5 sa5 H5 c1 c2 but5 pl5 _ hli => ?_⟩
    have kp34 := pl3.kp but4
    have kp45 := pl4.kp but5
    have kp23 := (pl1.mono s2).kp but3
    have n5 := but5 _ _ (but4 _ _ (but3 _ _ l2 ndp) ndp) ndp
    have w5 := kp45 _ _ (kp34 _ _ (kp23 _ _ (s2 _ _ hlw) rfl) rfl) rfl
    have ll5 := kp45 _ _ (kp34 _ _ hll rfl) rfl
    have ls5 := kp45 _ _ hls rfl
    refine ⟨n5, [(.inr "labels", .ref ll), (.inr "slots", .ref ls), (.inr "words", .ref lw), (.inr "ids", .ref li)], rfl, (by show 4 ≤ 15; decide), ?_⟩
    have b5 : But p H H5 := (but1.trans (Same.but s2)).trans (but3.trans (but4.trans but5))
    have n6 : upd H5 nd (.dK (mergeK [] [(.inr "labels", .ref ll), (.inr "slots", .ref ls), (.inr "words", .ref lw), (.inr "ids", .ref li)])) nd = some (.dK [(.inr "labels", .ref ll), (.inr "slots", .ref ls), (.inr "words", .ref lw), (.inr "ids", .ref li)]) := upd_same
    have k56 : Kp H5 (upd H5 nd (.dK (mergeK [] [(.inr "labels", .ref ll), (.inr "slots", .ref ls), (.inr "words", .ref lw), (.inr "ids", .ref li)]))) := kp_upd n5 rfl
    have b6 : But p H (upd H5 nd (.dK (mergeK [] [(.inr "labels", .ref ll), (.inr "slots", .ref ls), (.inr "words", .ref lw), (.inr "ids", .ref li)]))) := b5.upd_new ndH
    have pl6 : Pl (upd H5 nd (.dK (mergeK [] [(.inr "labels", .ref ll), (.inr "slots", .ref ls), (.inr "words", .ref lw), (.inr "ids", .ref li)]))) p := pl5.upd ndp
    revert n6 k56 b6 pl6
    generalize upd H5 nd _ = H6
    intro n6 k56 b6 pl6
    refine ⟨_, rfl, p, 2, rfl, pl6, by decide, fun la st7 sa7 H7 d1 d2 but7 pl7 _ hla => ?_⟩
    have n7 := but7 _ _ n6 ndp
    have k57 := k56.trans (pl6.kp but7)
    refine ⟨_, rfl, nd, _, rfl, DPut.k (k := (.inr "asks" : Key)) n7 (lt_sz (by show 4 < 100000; decide)), ?_⟩
    rw [nmK_asks]
    have n8 : upd H7 nd (.dK [(.inr "labels", .ref ll), (.inr "slots", .ref ls), (.inr "words", .ref lw), (.inr "ids", .ref li), (.inr "asks", .ref la)]) nd = _ := upd_same
    have k78 : Kp H7 (upd H7 nd (.dK [(.inr "labels", .ref ll), (.inr "slots", .ref ls), (.inr "words", .ref lw), (.inr "ids", .ref li), (.inr "asks", .ref la)])) := kp_upd n7 rfl
    have b8 : But p H (upd H7 nd (.dK [(.inr "labels", .ref ll), (.inr "slots", .ref ls), (.inr "words", .ref lw), (.inr "ids", .ref li), (.inr "asks", .ref la)])) := (b6.trans but7).upd_new ndH
    have pl8 : Pl (upd H7 nd (.dK [(.inr "labels", .ref ll), (.inr "slots", .ref ls), (.inr "words", .ref lw), (.inr "ids", .ref li), (.inr "asks", .ref la)])) p := pl7.upd ndp
    revert n8 k78 b8 pl8
    generalize upd H7 nd _ = H8
    intro n8 k78 b8 pl8
    refine ⟨sz_lit (by show 0 ≤ 100000; decide), fun lb hlb => ?_⟩
    have s9 := Same.new (o := .lst []) hlb
    have lb9 := at_new (o := .lst []) hlb
    have ndb : nd ≠ lb := fun e => by rw [← e, n8] at hlb; cases hlb
    revert s9 lb9
    generalize upd H8 lb _ = H9
    intro s9 lb9
    have n9 := s9 _ _ n8
    refine ⟨_, rfl, nd, _, rfl, DPut.k (k := (.inr "boxes" : Key)) n9 (lt_sz (by show 5 < 100000; decide)), ?_⟩
    rw [nmK_box0]
    have n10 : upd H9 nd (.dK (nmK ll ls lw li la lb)) nd = _ := upd_same
    have k910 : Kp H9 (upd H9 nd (.dK (nmK ll ls lw li la lb))) := kp_upd n9 rfl
    have b10 : But p H (upd H9 nd (.dK (nmK ll ls lw li la lb))) := (b8.trans (Same.but s9)).upd_new ndH
    have pl10 : Pl (upd H9 nd (.dK (nmK ll ls lw li la lb))) p := (pl8.mono s9).upd ndp
    revert n10 k910 b10 pl10
    generalize upd H9 nd _ = H10
    intro n10 k910 b10 pl10
    have k810 := s9.kp.trans k910
    have k710 := k78.trans k810
    have k510 := k57.trans k710
    have NL : NmL H10 ⟨nmL st3 sa3 3, nmL st4 sa4 2, nmL stw saw 3, nmL st5 sa5 2, nmL st7 sa7 2, []⟩ ll ls lw li la lb := ⟨k510 _ _ ll5 rfl, k510 _ _ ls5 rfl, k510 _ _ w5 rfl, k510 _ _ hli rfl, k710 _ _ hla rfl, k910 _ _ lb9 rfl⟩
    have gW := nl_of (n := 3) w1 w2 (by decide)
    have gL := nl_of (n := 3) a1 a2 (by decide)
    have gS := nl_of (n := 2) b1 b2 (by decide)
    have gI := nl_of (n := 2) c1 c2 (by decide)
    have gA := nl_of (n := 2) d1 d2 (by decide)
    revert NL gW gL gS gI gA
    generalize nmL st3 sa3 3 = zL
    generalize nmL st4 sa4 2 = zS
    generalize nmL stw saw 3 = zW
    generalize nmL st5 sa5 2 = zI
    generalize nmL st7 sa7 2 = zA
    intro NL gW gL gS gI gA
    intro pa hpa
    have s11 := Same.new (o := .dK []) hpa
    have pa11 := at_new (o := .dK []) hpa
    have pap := pl10.neN hpa
    have paH := b10.free pap hpa
    have pand : pa ≠ nd := fun e => by rw [e, n10] at hpa; cases hpa
    revert s11 pa11
    generalize upd H10 pa _ = H11
    intro s11 pa11
    refine ⟨_, rfl, nd, _, rfl, DGet.k (k := (.inr "asks" : Key)) (s11 _ _ n10), la, rfl, ⟨_, .inl (.inl (s11 _ _ NL.l5))⟩, ?_⟩
    refine for_it (walk_list (xs := zA.map V.str)) (fun i σ H' => (∃ y4 : Option V, σ = [some (.ref p), some (.ref lw), some (.ref nd), some (.ref pa), y4, none, none]) ∧ But p H H' ∧ Pl H' p ∧ H' nd = some (.dK (nmK ll ls lw li la lb)) ∧ NmL H' ⟨zL, zS, zW, zI, zA, []⟩ ll ls lw li la lb ∧ ∃ (ka : List (Str × PyData)) (wa : List (Key × V)), ka.map (·.1) = zA.take i ∧ (∀ q ∈ ka, areWords 4 q.2 = true) ∧ H' pa = some (.dK wa) ∧ KvsR K H' wa ka) ⟨⟨_, rfl⟩, b10.trans (Same.but s11), pl10.mono s11, s11 _ _ n10, NL.kp s11.kp, [], [], rfl, (fun q hq => (List.not_mem_nil hq).elim), pa11, trivial⟩ (fun i σ H' _ p => .inl (.inl p.2.2.2.2.1.l5)) ?_ ?_
    · rintro i x σ HY HZ hi ⟨⟨y4, rfl⟩, bi, pli, ni, NLi, ka, wa, hka, hkv, hpi, hkr⟩ ⟨rfl, hx⟩
      rw [List.getElem?_map] at hx
      cases hz : zA[i]? with
      | none => rw [hz] at hx; cases hx
      | some z =>
      rw [hz] at hx
      obtain rfl : V.str z = x := Option.some.inj hx
      have hil : i < zA.length := (List.getElem?_eq_some_iff.mp hz).1
      refine ⟨_, rfl, _, rfl, p, 2, rfl, pli, by decide, by decide, fun r H12 r1 r2 but12 pl12 => ?_⟩
      obtain ⟨n, rfl⟩ := Int.eq_ofNat_of_zero_le r1
      have k12 := pli.kp but12
      have lw12 := k12 _ _ NLi.l3 rfl
      refine ⟨_, rfl, _, rfl, lw, _, rfl, .inl (.inl lw12), fun q hq => ?_⟩
      have hw3 : zW.length = 3 := gW.1
      rw [show (2 : Int) = ((2 : Nat) : Int) from rfl, cut_map zW n 2 (by omega) (by omega)]
      refine ⟨q, _, rfl, .inl ⟨.inl (.inl upd_same), fun t ht => ?_⟩⟩
      have s13 := (Same.new (o := .lst (((zW.drop n).take (2 - n)).map V.str)) hq).trans (Same.new (o := .tup (((zW.drop n).take (2 - n)).map V.str)) ht)
      have t13 := at_new (o := .tup (((zW.drop n).take (2 - n)).map V.str)) ht
      revert s13 t13
      generalize upd (upd H12 q _) t _ = H13
      intro s13 t13
      have pa13 := s13 _ _ (but12 _ _ hpi pap)
      have hkl := hkr.len
      have hkm : wa.length < 100 := by
        have : (ka.map (·.1)).length = ka.length := List.length_map _
        rw [hka, List.length_take, gA.1] at this
        omega
      refine ⟨_, rfl, _, rfl, pa, _, rfl, DPut.k (k := (.inr z : Key)) pa13 (lt_sz (by omega)), ?_⟩
      have hzn : z ∉ ka.map (·.1) := by rw [hka]; exact nodup_take gA.2.1 hz
      rw [putK_new _ (hkr.none hzn)]
      have kk := (k12.trans s13.kp).trans (kp_upd (o' := .dK (wa ++ [(.inr z, .ref t)])) pa13 rfl)
      refine ⟨⟨_, rfl⟩, ((bi.trans but12).trans (Same.but s13)).upd_new paH, (pl12.mono s13).upd pap, ?_, NLi.kp kk, ka ++ [(z, .tuple (((zW.drop n).take (2 - n)).map .str))], wa ++ [(.inr z, .ref t)], ?_, fun q' hq' => ?_, upd_same, ?_⟩
      · rw [upd_ne pand.symm]
        exact s13 _ _ (but12 _ _ ni ndp)
      · rw [List.map_append, hka, TS.take_one hz]
        rfl
      · rcases List.mem_append.mp hq' with hq' | hq'
        · exact hkv q' hq'
        · rw [List.mem_singleton.mp hq']
          refine words_ok (by rw [List.length_take, List.length_drop]; omega) (by rw [List.length_take, List.length_drop]; omega) (nd_take (nd_drop gW.2.1 n) _) fun y hy => name_word (gW.2.2 y (List.mem_of_mem_drop (List.mem_of_mem_take hy)))
      · refine KvsR.snoc (.tup (.inl (.inl ?_)) (dp_strs _)) (hkr.mono kk)
        exact kp_upd pa13 rfl _ _ t13 rfl
    · rintro σ H14 ⟨⟨y4, rfl⟩, b14, pl14, n14, NL14, ka, wa, hka, hkv, pa14, kr14⟩
      rw [List.length_map, List.take_of_length_le (Nat.le_refl _)] at hka
      intro ps hps
      have s15 := Same.new (o := .dK []) hps
      have ps15 := at_new (o := .dK []) hps
      have psp := pl14.neN hps
      have psH := b14.free psp hps
      have psnd : ps ≠ nd := fun e => by rw [e, n14] at hps; cases hps
      have pspa : ps ≠ pa := fun e => by rw [e, pa14] at hps; cases hps
      revert s15 ps15
      generalize upd H14 ps _ = H15
      intro s15 ps15
      have b15 := b14.trans (Same.but s15)
      have pl15 := pl14.mono s15
      have n15 := s15 _ _ n14
      have NL15 := NL14.kp s15.kp
      have pa15 := s15 _ _ pa14
      have kr15 := kr14.mono s15.kp
      obtain ⟨w0, w1', w2', rfl⟩ : ∃ w0 w1 w2, zW = [w0, w1, w2] := by
        have := gW.1
        match zW, this with
        | [w0, w1, w2], _ => exact ⟨w0, w1, w2, rfl⟩
      refine ⟨fun σ H' => (∃ y4 : Option V, σ = [some (.ref p), some (.ref lw), some (.ref nd), some (.ref pa), y4, some (.ref ps), none]) ∧ But p H H' ∧ Pl H' p ∧ H' pa = some (.dK wa) ∧ KvsR K H' wa ka ∧ ∃ (lb' : Addr) (zB : List Str) (ks : List (Str × PyData)) (ws : List (Key × V)), H' nd = some (.dK (nmK ll ls lw li la lb')) ∧ NmL H' ⟨zL, zS, [w0, w1', w2'], zI, zA, zB⟩ ll ls lw li la lb' ∧ (nl 0 zB ∨ nl 1 zB) ∧ ks.map (·.1) = zB ∧ (∀ q ∈ ks, isBox q.2 = true) ∧ H' ps = some (.dK ws) ∧ KvsR K H' ws ks, ?_, ?_⟩
      · refine ⟨_, rfl, p, 3, rfl, pl15, by decide, by decide, fun r H16 r1 r2 but16 pl16 => ⟨rfl, _, rfl, ?_⟩⟩
        have k16 := pl15.kp but16
        have n16 := but16 _ _ n15 ndp
        have pa16 := but16 _ _ pa15 pap
        have ps16 := but16 _ _ ps15 psp
        have NL16 := NL15.kp k16
        have kr16 := kr15.mono k16
        by_cases e : r = 0
        · refine ifT (decide_eq_true (congrArg V.int e)) ?_
          refine ⟨_, rfl, p, 1, rfl, pl16, by decide, fun lc stc sac H17 f1 f2 but17 pl17 _ hlc => ?_⟩
          have k17 := pl16.kp but17
          have n17 := but17 _ _ n16 ndp
          refine ⟨_, rfl, nd, _, rfl, DPut.k (k := (.inr "boxes" : Key)) n17 (lt_sz (by show 6 < 100000; decide)), ?_⟩
          rw [nmK_boxes]
          have gC := nl_of (n := 1) f1 f2 (by decide)
          revert hlc gC
          generalize nmL stc sac 1 = zC
          intro hlc gC
          obtain ⟨z0, rfl⟩ : ∃ z0, zC = [z0] := by
            have := gC.1
            match zC, this with
            | [z0], _ => exact ⟨z0, rfl⟩
          have k18 := k17.trans (kp_upd (o' := .dK (nmK ll ls lw li la lc)) n17 rfl)
          have kc := kp_upd (o' := .dK (nmK ll ls lw li la lc)) n17 rfl _ _ hlc rfl
          have n18 := at_new' (H := H17) (a := nd) (o := .dK (nmK ll ls lw li la lc))
          have b18 := ((b15.trans but16).trans but17).upd_new (o := .dK (nmK ll ls lw li la lc)) ndH
          have pl18 := pl17.upd (o := .dK (nmK ll ls lw li la lc)) ndp
          have pa18 : upd H17 nd (.dK (nmK ll ls lw li la lc)) pa = some (.dK wa) := by rw [upd_ne pand]; exact but17 _ _ pa16 pap
          have ps18 : upd H17 nd (.dK (nmK ll ls lw li la lc)) ps = some (.dK []) := by rw [upd_ne psnd]; exact but17 _ _ ps16 psp
          revert k18 kc n18 b18 pl18 pa18 ps18
          generalize upd H17 nd _ = H18
          intro k18 kc n18 b18 pl18 pa18 ps18
          have NL18 := NL16.kp k18
          refine ⟨_, rfl, p, 2, rfl, pl18, by decide, by decide, fun r' H19 r1' r2' but19 pl19 => ?_⟩
          have k19 := pl18.kp but19
          refine ⟨_, _, rfl, rfl, _, rfl, lw, _, 2, _, rfl, rfl, .inl (.inl (k19 _ _ NL18.l3 rfl)), rfl, sz1 _, fun t1 ht1 => ⟨sz2 _ _, fun t2 ht2 => ?_⟩⟩
          have l20 := Same.new (o := .tup [.int (1 + r'), .ref t1]) ht2 _ _ (at_new (o := .tup [.str w2']) ht1)
          have m20 := at_new (o := .tup [.int (1 + r'), .ref t1]) ht2
          have s20 := (Same.new (o := .tup [.str w2']) ht1).trans (Same.new (o := .tup [.int (1 + r'), .ref t1]) ht2)
          revert l20 m20 s20
          generalize upd (upd H19 t1 _) t2 _ = H20
          intro l20 m20 s20
          have n20 := s20 _ _ (but19 _ _ n18 ndp)
          have ps20 := s20 _ _ (but19 _ _ ps18 psp)
          have kc20 := s20 _ _ (k19 _ _ kc rfl)
          refine ⟨_, rfl, _, rfl, nd, _, rfl, DGet.k (k := (.inr "boxes" : Key)) n20, lc, _, 0, _, rfl, rfl, .inl (.inl kc20), rfl, ps, _, rfl, DPut.k (k := (.inr z0 : Key)) ps20 (lt_sz (by show 0 < 100000; decide)), ?_⟩
          have k21 := (k19.trans s20.kp).trans (kp_upd (o' := .dK (putK [] (.inr z0) (.ref t2))) ps20 rfl)
          have kz := kp_upd (o' := .dK (putK [] (.inr z0) (.ref t2))) ps20 rfl
          refine ⟨⟨_, rfl⟩, ((b18.trans but19).trans (Same.but s20)).upd_new psH, (pl19.mono s20).upd psp, ?_, (kr16.mono k18).mono k21, lc, [z0], [(z0, .tuple [.int (1 + r'), .tuple [.str w2']])], [(.inr z0, .ref t2)], ?_, ?_, .inr gC, rfl, fun q hq => ?_, upd_same, ?_⟩
          · rw [upd_ne pspa.symm]
            exact s20 _ _ (but19 _ _ pa18 pap)
          · rw [upd_ne psnd.symm]
            exact n20
          · have := NL18.kp k21
            exact ⟨this.l1, this.l2, this.l3, this.l4, this.l5, kz _ _ kc20 rfl⟩
          · rw [List.mem_singleton.mp hq]
            show (decide (1 ≤ 1 + r' ∧ 1 + r' ≤ 3) && areWords 3 (.tuple [.str w2'])) = true
            rw [decide_eq_true (by omega)]
            exact words_ok (m := 3) (zs := [w2']) (Nat.le_refl _) (by show ((1 : Nat) : Int) ≤ 3; decide) (by simp) fun y hy => name_word (gW.2.2 y (by rw [List.mem_singleton.mp hy]; simp))
          · exact ⟨rfl, .tup (.inl (.inl (kz _ _ m20 rfl))) (.cons (.int _) (.cons (.tup (.inl (.inl (kz _ _ l20 rfl))) (.cons (.str _) .nil)) .nil)), trivial⟩
        · exact ifF (decide_eq_false fun z => e (V.int.inj z)) ⟨⟨_, rfl⟩, b15.trans but16, pl16, pa16, kr16, lb, [], [], [], n16, NL16, .inl ⟨rfl, List.nodup_nil, fun z hz => (List.not_mem_nil hz).elim⟩, rfl, (fun q hq => (List.not_mem_nil hq).elim), ps16, trivial⟩
      · rintro σ H22 ⟨⟨y4', rfl⟩, b22, pl22, pa22, kr22, lb', zB, ks, ws, n22, NL22, gB, hks, hkb, ps22, ksr22⟩
        refine ⟨sz1 _, fun t0 ht0 => ?_⟩
        have s23 := Same.new (o := .tup [.str "go"]) ht0
        have t23 := at_new (o := .tup [.str "go"]) ht0
        revert s23 t23
        generalize upd H22 t0 _ = H23
        intro s23 t23
        refine ⟨fun σ H' => (∃ (y4 : Option V) (iv : V) (ins : PyData), σ = [some (.ref p), some (.ref lw), some (.ref nd), some (.ref pa), y4, some (.ref ps), some iv] ∧ Dp K H' iv ins ∧ areWords 3 ins = true) ∧ But p H H' ∧ Pl H' p ∧ H' pa = some (.dK wa) ∧ KvsR K H' wa ka ∧ H' nd = some (.dK (nmK ll ls lw li la lb')) ∧ NmL H' ⟨zL, zS, [w0, w1', w2'], zI, zA, zB⟩ ll ls lw li la lb' ∧ H' ps = some (.dK ws) ∧ KvsR K H' ws ks, ?_, ?_⟩
        · refine ⟨_, rfl, p, 3, rfl, pl22.mono s23, by decide, by decide, fun r H24 r1 r2 but24 pl24 => ⟨rfl, _, rfl, ?_⟩⟩
          have k24 := (pl22.mono s23).kp but24
          have k2 := s23.kp.trans k24
          have b24 := (b22.trans (Same.but s23)).trans but24
          have NL24 := NL22.kp k2
          have pa24 := but24 _ _ (s23 _ _ pa22) pap
          have ps24 := but24 _ _ (s23 _ _ ps22) psp
          have n24 := but24 _ _ (s23 _ _ n22) ndp
          by_cases e : r = 0
          · refine ifT (decide_eq_true (congrArg V.int e)) ?_
            refine ⟨_, rfl, _, rfl, _, rfl, p, 2, rfl, pl24, by decide, by decide, fun r' H25 r1' r2' but25 pl25 => ?_⟩
            obtain ⟨n, rfl⟩ := Int.eq_ofNat_of_zero_le r1'
            have k25 := pl24.kp but25
            refine ⟨_, _, rfl, rfl, _, rfl, lw, _, rfl, .inl (.inl (k25 _ _ NL24.l3 rfl)), fun q hq => ?_⟩
            have ec : cutV (([w0, w1', w2'] : List Str).map V.str) (some 1) (some (2 + (n : Int))) = (((([w0, w1', w2'] : List Str)).drop 1).take (2 + n - 1)).map V.str := by
              rw [← cut_map [w0, w1', w2'] 1 (2 + n) (by omega) (by show 2 + n ≤ 3; omega)]
              rfl
            rw [ec]
            refine ⟨q, _, rfl, .inl ⟨.inl (.inl upd_same), fun t ht => ?_⟩⟩
            have s26 := (Same.new (o := .lst (((([w0, w1', w2'] : List Str)).drop 1 |>.take (2 + n - 1)).map V.str)) hq).trans (Same.new (o := .tup (((([w0, w1', w2'] : List Str)).drop 1 |>.take (2 + n - 1)).map V.str)) ht)
            have t26 := at_new (o := .tup (((([w0, w1', w2'] : List Str)).drop 1 |>.take (2 + n - 1)).map V.str)) ht
            have k26 := k25.trans s26.kp
            refine ⟨⟨_, .ref t, .tuple (((([w0, w1', w2'] : List Str)).drop 1 |>.take (2 + n - 1)).map .str), rfl, .tup (.inl (.inl t26)) (dp_strs _), ?_⟩, (b24.trans but25).trans (Same.but s26), pl25.mono s26, s26 _ _ (but25 _ _ pa24 pap), (kr22.mono k2).mono k26, s26 _ _ (but25 _ _ n24 ndp), NL24.kp k26, s26 _ _ (but25 _ _ ps24 psp), (ksr22.mono k2).mono k26⟩
            exact words_ok (by rw [List.length_take, List.length_drop]; show 1 ≤ min (2 + n - 1) (3 - 1); omega) (by rw [List.length_take, List.length_drop]; show ((min (2 + n - 1) (3 - 1) : Nat) : Int) ≤ 3; omega) (nd_take (nd_drop gW.2.1 1) _) fun y hy => name_word (gW.2.2 y (List.mem_of_mem_drop (List.mem_of_mem_take hy)))
          · exact ifF (decide_eq_false fun z => e (V.int.inj z)) ⟨⟨_, .ref t0, .tuple [.str "go"], rfl, .tup (.inl (.inl (k24 _ _ t23 rfl))) (.cons (.str _) .nil), by decide +kernel⟩, b24, pl24, pa24, kr22.mono k2, n24, NL24, ps24, ksr22.mono k2⟩
        · rintro σ H27 ⟨⟨y4'', iv, ins, rfl, di27, hi27⟩, b27, pl27, pa27, kr27, n27, NL27, ps27, ksr27⟩
          intro sd hsd
          have sdp := pl27.neN hsd
          have sdH := b27.free sdp hsd
          have sdnd : sd ≠ nd := fun e => by rw [e, n27] at hsd; cases hsd
          have sdpa : sd ≠ pa := fun e => by rw [e, pa27] at hsd; cases hsd
          have sdps : sd ≠ ps := fun e => by rw [e, ps27] at hsd; cases hsd
          refine ⟨_, rfl, _, rfl, _, rfl, _, rfl, sz_lit (by show 0 ≤ 100000; decide), fun rl hrl => ?_⟩
          have sdrl : rl ≠ sd := fun e => by rw [e, upd_same] at hrl; cases hrl
          refine ⟨Same.new hrl _ _ upd_same, spK nd pa ps iv (.ref rl), rfl, (by show 5 ≤ 15; decide), ?_⟩
          have s28 : Same H27 (upd (upd (upd H27 sd (.dK [])) rl (.lst [])) sd (.dK (mergeK [] (spK nd pa ps iv (.ref rl))))) := disp_same hsd (Same.new hrl)
          refine k sd nd pa ps rl iv ⟨zL, zS, [w0, w1', w2'], zI, zA, zB⟩ ka ks wa ws ins _ (b27.trans (Same.but s28)) (pl27.mono s28) ?_ ndH paH psH sdH ⟨⟨gL, gS, gW, gI, gA, gB⟩, hka, hkv, hks, hkb, hi27⟩ ⟨ll, ls, lw, li, la, lb', s28 _ _ n27, NL27.kp s28.kp⟩ upd_same ?_ (s28 _ _ pa27) (kr27.mono s28.kp) (s28 _ _ ps27) (ksr27.mono s28.kp) (di27.mono s28)
          · refine List.nodup_cons.mpr ⟨?_, List.nodup_cons.mpr ⟨?_, List.nodup_cons.mpr ⟨?_, List.nodup_cons.mpr ⟨?_, List.nodup_cons.mpr ⟨List.not_mem_nil, List.nodup_nil⟩⟩⟩⟩⟩
            · simp [sdp.symm, ndp.symm, pap.symm, psp.symm]
            · simp [sdnd, sdpa, sdps]
            · simp [pand.symm, psnd.symm]
            · simp [pspa.symm]
          · rw [upd_ne sdrl]
            exact upd_same
end
end Op
namespace Op
open PySem L2 PyProof.Rows
/-! ### the rows that a law draws -/
def inS (G : Gn) (r : Str) : Prop := r ∈ G.slots ∨ r = "in"
inductive GRow (G : Gn) (rec : Bool → List PyData → Prop) (lp : Bool) : PyData → Prop
  | ask {a l : Str} : a ∈ G.asks → l ∈ G.labels → GRow G rec lp (.tuple [.str "ask", .str a, .str l])
  | timer {l : Str} : l ∈ G.labels → GRow G rec lp (.tuple [.str "timer", .str l])
  | await {l s : Str} : l ∈ G.labels → s ∈ G.slots → GRow G rec lp (.tuple [.str "await", .str l, .str s])
  | first {ls : List Str} {s : Str} : (∀ l ∈ ls, l ∈ G.labels) → ls.Nodup → 1 ≤ ls.length → ls.length ≤ 3 → s ∈ G.slots → GRow G rec lp (.tuple [.str "first", .tuple (ls.map .str), .str s])
  | drop {l : Str} : l ∈ G.labels → GRow G rec lp (.tuple [.str "drop", .str l])
  | take {b s : Str} : b ∈ G.boxes → s ∈ G.slots → GRow G rec lp (.tuple [.str "take", .str b, .str s])
  | note {s : Str} {ws : List Str} : s ∈ G.slots → areWords 3 (.tuple (ws.map .str)) = true → GRow G rec lp (.tuple [.str "note", .str s, .tuple (ws.map .str)])
  | put {s v : Str} : s ∈ G.slots → isWordS v = true → GRow G rec lp (.tuple [.str "put", .str s, .str v])
  | fin {r : Str} : inS G r → GRow G rec lp (.tuple [.str "end", .str r])
  | anew {r : Str} : inS G r → GRow G rec lp (.tuple [.str "anew", .str r])
  | leave : lp = true → GRow G rec lp (.tuple [.str "leave"])
  | cond {r v : Str} {a b : List PyData} : inS G r → isWordS v = true → rec lp a → rec lp b → GRow G rec lp (.tuple [.str "if", .str r, .str v, .list a, .list b])
  | loop {a : List PyData} : rec true a → GRow G rec lp (.tuple [.str "loop", .list a])
  | part {a : List PyData} : rec lp a → GRow G rec lp (.tuple [.str "part", .list a])
  | both {ls : List (List PyData)} : 2 ≤ ls.length → ls.length ≤ 3 → (∀ a ∈ ls, rec false a) → GRow G rec lp (.tuple [.str "both", .tuple (ls.map .list)])
  | gate {i : Str} {a b : List PyData} : i ∈ G.ids → rec lp a → rec lp b → GRow G rec lp (.tuple [.str "gate", .str i, .list a, .list b])
  | past {i : Str} {a : List PyData} : i ∈ G.ids → rec lp a → GRow G rec lp (.tuple [.str "past", .str i, .list a])
def GRows (G : Gn) : Nat → Bool → List PyData → Prop
  | 0, _, _ => False
  | n + 1, lp, ds => ∀ d ∈ ds, GRow G (GRows G n) lp d
theorem GRows.app {G : Gn} {n : Nat} {lp : Bool} {a b : List PyData} (h : GRows G (n + 1) lp a) (k : GRows G (n + 1) lp b) : GRows G (n + 1) lp (a ++ b) := fun d hd => by
  rcases List.mem_append.mp hd with hd | hd
  · exact h d hd
  · exact k d hd
def innerOf : PyData → List PyData
  | .tuple (.str kind :: ps) => innerL kind ps
  | _ => []
/-- how many rows -/
def cntR (rec : List PyData → Nat) (d : PyData) : Nat := 1 + ((innerOf d).map fun x => rec (listOf x)).sum
def cntL : Nat → List PyData → Nat
  | 0, _ => 0
  | n + 1, ds => (ds.map (cntR (cntL n))).sum
theorem cntL_app (n : Nat) (a b : List PyData) : cntL n (a ++ b) = cntL n a + cntL n b := by
  cases n with
  | zero => rfl
  | succ n =>
    show ((a ++ b).map (cntR (cntL n))).sum = _
    rw [List.map_append, List.sum_append]
    rfl
/-- a row without lists -/
def GFlat (G : Gn) (d : PyData) : Prop := (∀ rec lp, GRow G rec lp d) ∧ innerOf d = []
theorem flat_in {kind : Str} {ps : List PyData} (hk : kind ≠ "both") (h : ∀ x ∈ ps, isList x = false) : innerOf (.tuple (.str kind :: ps)) = [] := by
  show innerL kind ps = []
  unfold innerL
  rw [if_neg hk]
  exact List.filter_eq_nil_iff.mpr fun x hx => by rw [h x hx]; exact Bool.false_ne_true
theorem flat1 {x : PyData} (h : isList x = false) : ∀ y ∈ [x], isList y = false := fun y hy => by rw [List.mem_singleton.mp hy]; exact h
theorem flat2 {x y : PyData} (h : isList x = false) (k : isList y = false) : ∀ z ∈ [x, y], isList z = false := fun z hz => by
  rcases List.mem_cons.mp hz with rfl | hz
  · exact h
  · rw [List.mem_singleton.mp hz]; exact k
theorem GFlat.rows {G : Gn} {n : Nat} {lp : Bool} {ds : List PyData} (h : ∀ d ∈ ds, GFlat G d) : GRows G (n + 1) lp ds := fun d hd => (h d hd).1 _ _
theorem GFlat.cnt {G : Gn} {n : Nat} : ∀ {ds : List PyData}, (∀ d ∈ ds, GFlat G d) → cntL (n + 1) ds = ds.length
  | [], _ => rfl
  | d :: r, h => by
    have h1 := GFlat.cnt (n := n) (ds := r) fun d hd => h d (List.mem_cons_of_mem _ hd)
    show cntR (cntL n) d + (r.map (cntR (cntL n))).sum = _
    have h2 : cntR (cntL n) d = 1 := by
      unfold cntR
      rw [(h d List.mem_cons_self).2]
      rfl
    have h1 : (r.map (cntR (cntL n))).sum = r.length := h1
    rw [h1, h2, List.length_cons]
    omega
section
variable {H H' : Hp} {p nd : Addr} {G : Gn}
theorem NmO.but (h : NmO H nd G) (pl : Pl H p) (b : But p H H') : NmO H' nd G := by
  obtain ⟨a1, a2, a3, a4, a5, a6, h1, h2⟩ := h
  refine ⟨a1, a2, a3, a4, a5, a6, b _ _ h1 fun e => ?_, h2.kp (pl.kp b)⟩
  obtain ⟨_, _, _, hp, _⟩ := pl
  rw [e, hp] at h1
  have := HO.dK.inj (Option.some.inj h1)
  have := congrArg List.length this
  exact absurd (show 3 = 6 from this) (by decide)
theorem NmO.mono (h : NmO H nd G) (s : Same H H') : NmO H' nd G := by
  obtain ⟨a1, a2, a3, a4, a5, a6, h1, h2⟩ := h
  exact ⟨a1, a2, a3, a4, a5, a6, s _ _ h1, h2.kp s.kp⟩
end
end Op
namespace Op
open PySem L2 PyProof.Rows
section
variable {P : Program} {w : World} {K : PySem.W.Frag} {mg : Str → Option Value} {base : Heap}
/-- at most N rows without lists -/
def spFlat (K : PySem.W.Frag) (N : Nat) : Sp := fun vs H Q _ => ∃ (p nd : Addr) (G : Gn), vs = [.ref p, .ref nd] ∧ Pl H p ∧ NmO H nd G ∧ GnV G ∧
  ∀ (l : Addr) (xs : List V) (ds : List PyData) H', But p H H' → Pl H' p → H' l = some (.lst xs) → DpAll K H' xs ds → ds.length ≤ N → wts ds ≤ 200 → (∀ d ∈ ds, GFlat G d) → Q (.ref l) H'
theorem wl {z : Str} (h : nameOk z) : z.length ≤ 8 := w8_of h.1
theorem wt2 {k a : Str} (h1 : k.length ≤ 8) (h2 : a.length ≤ 8) : wt (.tuple [.str k, .str a]) ≤ 19 := by
  rw [wt_tuple, wts_cons, wts_cons, wts_nil, wt_str, wt_str]; omega
theorem wt3 {k a b : Str} (h1 : k.length ≤ 8) (h2 : a.length ≤ 8) (h3 : b.length ≤ 8) : wt (.tuple [.str k, .str a, .str b]) ≤ 28 := by
  rw [wt_tuple, wts_cons, wts_cons, wts_cons, wts_nil, wt_str, wt_str, wt_str]; omega
theorem two_mem {α : Type} {P : α → Prop} {a b : α} (h1 : P a) (h2 : P b) : ∀ x ∈ [a, b], P x := fun x hx => by
  rcases List.mem_cons.mp hx with rfl | hx
  · exact h1
  · rw [List.mem_singleton.mp hx]; exact h2
theorem sc__law_pair : FnScope ["_law_pool_here", "_law_names_here", "_law_timer", "_law_label", "_law_start"] ["_law_pool_here", "_law_names_here"] (defScope s__law_pair) := ⟨rfl, rfl, rfl, by decide +kernel, rfl, by decide +kernel, by decide +kernel⟩
theorem ok_pair {f : Addr} {fd : FuncData} (F : Fun K "_law_pair" "_law_pair" s__law_pair f fd) (T : Txt mg) (c__law_draw : Cal P w K mg base CX0 1 "_law_draw" ["_law_pool_here", "_law_many"] spD) (c__law_item : Cal P w K mg base CX0 2 "_law_item" ["_law_pool_here", "_law_items"] (spItem K)) : FnOk P w K mg base CX0 3 f fd ["_law_pool_here", "_law_names_here"] (spFlat K 2) := by
  refine F.ok sc__law_pair (fun vs H Q E h => ?_) (fun cdv A outer s H vs Q E hr h => ?_)
  · obtain ⟨p, nd, G, rfl, _⟩ := h
    rfl
  · obtain ⟨p, nd, G, rfl, hp, hn, gv, k⟩ := h
    have hu := hu_of hr
    refine ⟨_, (pss_cons (ps_set (i := 2) sc__law_pair.nd rfl (.inl rfl) (pe_cmpR op_eq (pe_cal c__law_draw (hr.mono (by omega)) rfl pass0 (pa_cons (pv 0) (pa_cons pe_int pa_nil))) pe_int (nomark _)))
      (pss_cons (ps_set (i := 3) sc__law_pair.nd rfl (.inl rfl) (pe_cal c__law_item (hr.mono (by omega)) rfl pass0 (pa_cons (pv 0) (pa_cons (pe_dget hu (pv 1) pe_str (fun _ _ => rfl)) pa_nil))))
      (pss_cons (ps_set (i := 4) sc__law_pair.nd rfl (.inl rfl) (pe_tup (pa_cons pe_str (pa_cons (pe_cal c__law_item (hr.mono (by omega)) rfl pass0 (pa_cons (pv 0) (pa_cons (pe_dget hu (pv 1) pe_str (fun _ _ => rfl)) pa_nil))) (pa_cons (pv 3) pa_nil)))))
      (Evl.pss_cut (ps_if (pt_val (pv 2)) (pss_one (ps_set (i := 4) sc__law_pair.nd rfl (.inl rfl) (pe_tup (pa_cons pe_str (pa_cons (pv 3) pa_nil))))) pss_nil)
      (pss_one (ps_ret (pe_lst (pa_cons (pv 4) (pa_cons (pe_tup (pa_cons pe_str (pa_cons (pv 3) (pa_cons (pe_cal c__law_item (hr.mono (by omega)) rfl pass0 (pa_cons (pv 0) (pa_cons (pe_dget hu (pv 1) pe_str (fun _ _ => rfl)) pa_nil))) pa_nil)))) pa_nil))))))))), ?_⟩
    refine ⟨_, rfl, p, 3, rfl, hp, by decide, by decide, fun r H1 r1 r2 but1 pl1 => ⟨rfl, ?_⟩⟩
    obtain ⟨a1, a2, a3, a4, a5, a6, n1, NL1⟩ := hn.but hp but1
    have ndp : nd ≠ p := fun e => by
      obtain ⟨_, _, _, hh, _⟩ := pl1
      rw [e, hh] at n1
      have := congrArg List.length (HO.dK.inj (Option.some.inj n1))
      exact absurd (show 3 = 6 from this) (by decide)
    have e1 := gv.labels.1
    have e2 := gv.slots.1
    have e5 := gv.asks.1
    refine ⟨_, rfl, _, rfl, nd, _, rfl, DGet.k (k := (.inr "labels" : Key)) n1, p, a1, G.labels, rfl, pl1, .inl (.inl NL1.l1), by omega, by omega, fun lab H2 hlab but2 pl2 => ?_⟩
    have n2 := but2 _ _ n1 ndp
    have NL2 := NL1.kp (pl1.kp but2)
    refine ⟨_, rfl, _, rfl, nd, _, rfl, DGet.k (k := (.inr "asks" : Key)) n2, p, a5, G.asks, rfl, pl2, .inl (.inl NL2.l5), by omega, by omega, fun ask H3 hask but3 pl3 => ?_⟩
    have n3 := but3 _ _ n2 ndp
    have NL3 := NL2.kp (pl2.kp but3)
    refine ⟨_, rfl, sz_lit (by show 3 ≤ 100000; decide), fun t ht => ?_⟩
    have s4 := Same.new (o := .tup [.str "ask", .str ask, .str lab]) ht
    have t4 := at_new (o := .tup [.str "ask", .str ask, .str lab]) ht
    revert s4 t4
    generalize upd H3 t _ = H4
    intro s4 t4
    have b4 := (but1.trans (but2.trans but3)).trans (Same.but s4)
    have wlab := wl (gv.labels.2.2 _ hlab)
    have wask := wl (gv.asks.2.2 _ hask)
    refine ⟨fun σ H' => (∃ (y2 : Option V) (v : V) (d : PyData), σ = [some (.ref p), some (.ref nd), y2, some (.str lab), some v] ∧ Dp K H' v d ∧ GFlat G d ∧ wt d ≤ 30) ∧ Same H4 H', ?_, ?_⟩
    · refine ⟨_, rfl, _, rfl, ?_⟩
      by_cases e : r = 0
      · refine ifT (decide_eq_true (congrArg V.int e)) ⟨_, rfl, sz2 _ _, fun t' ht' => ?_⟩
        exact ⟨⟨_, _, _, rfl, .tup (.inl (.inl upd_same)) (.cons (.str _) (.cons (.str _) .nil)), ⟨fun _ _ => .timer hlab, flat_in (by decide +kernel) (flat1 rfl)⟩, by have := wt2 (k := "timer") (by decide +kernel) wlab; omega⟩, Same.new ht'⟩
      · exact ifF (decide_eq_false fun z => e (V.int.inj z)) ⟨⟨_, _, _, rfl, .tup (.inl (.inl t4)) (.cons (.str _) (.cons (.str _) (.cons (.str _) .nil))), ⟨fun _ _ => .ask hask hlab, flat_in (by decide +kernel) (flat2 rfl rfl)⟩, by have := wt3 (k := "ask") (by decide +kernel) wask wlab; omega⟩, fun _ _ z => z⟩
    · rintro σ H5 ⟨⟨y2, v, d, rfl, dv, gd, wd⟩, s5⟩
      have s45 := s4.trans s5
      have n5 := s45 _ _ n3
      have NL5 := NL3.kp s45.kp
      have pl5 := pl3.mono s45
      refine ⟨_, rfl, _, rfl, _, rfl, _, rfl, nd, _, rfl, DGet.k (k := (.inr "slots" : Key)) n5, p, a2, G.slots, rfl, pl5, .inl (.inl NL5.l2), by omega, by omega, fun sl H6 hsl but6 pl6 => ?_⟩
      refine ⟨sz_lit (by show 3 ≤ 100000; decide), fun t6 ht6 => ⟨sz2 _ _, fun q hq => ?_⟩⟩
      have s7 := Same.new (o := .tup [.str "await", .str lab, .str sl]) ht6
      have s8 := Same.new (o := .lst [v, .ref t6]) hq
      have wsl := wl (gv.slots.2.2 _ hsl)
      refine k q _ [d, .tuple [.str "await", .str lab, .str sl]] _ (((b4.trans (Same.but s5)).trans but6).trans (Same.but (s7.trans s8))) (pl6.mono (s7.trans s8)) upd_same (.cons ((dv.kp (pl5.kp but6)).mono (s7.trans s8)) (.cons (.tup (.inl (.inl (s8 _ _ (at_new (o := .tup [.str "await", .str lab, .str sl]) ht6)))) (.cons (.str _) (.cons (.str _) (.cons (.str _) .nil)))) .nil)) (by show 2 ≤ 2; decide) ?_ (two_mem gd ⟨fun _ _ => .await hlab hsl, flat_in (by decide +kernel) (flat2 rfl rfl)⟩)
      have := wt3 (k := "await") (by decide +kernel) wlab wsl
      rw [wts_cons, wts_cons, wts_nil]
      omega
end
end Op
namespace Op
open PySem L2 PyProof.Rows
theorem nd_ne {H : Hp} {p nd a1 a2 a3 a4 a5 a6 : Addr} (pl : Pl H p) (n1 : H nd = some (.dK (nmK a1 a2 a3 a4 a5 a6))) : nd ≠ p := fun e => by
  obtain ⟨_, _, _, hh, _⟩ := pl
  rw [e, hh] at n1
  have := congrArg List.length (HO.dK.inj (Option.some.inj n1))
  exact absurd (show 3 = 6 from this) (by decide)
theorem wtf {k a : Str} {zs : List Str} (h1 : k.length ≤ 8) (h2 : a.length ≤ 8) (h3 : zs.length ≤ 3) (h4 : ∀ z ∈ zs, z.length ≤ 8) : wt (.tuple [.str k, .tuple (zs.map .str), .str a]) ≤ 60 ∧ wt (.tuple [.str k, .str a, .tuple (zs.map .str)]) ≤ 60 := by
  have h5 : wts (zs.map .str) ≤ 27 := by
    have key : ∀ l : List Str, (∀ z ∈ l, z.length ≤ 8) → wts (l.map .str) ≤ 9 * l.length := by
      intro l
      induction l with
      | nil => intro _; rw [List.map_nil, wts_nil]; exact Nat.zero_le _
      | cons x r ih =>
        intro h
        have := ih fun z hz => h z (List.mem_cons_of_mem _ hz)
        have := h x List.mem_cons_self
        rw [List.map_cons, wts_cons, wt_str, List.length_cons]
        omega
    have := key zs h4
    omega
  constructor
  · rw [wt_tuple, wts_cons, wts_cons, wts_cons, wts_nil, wt_str, wt_str, wt_tuple]; omega
  · rw [wt_tuple, wts_cons, wts_cons, wts_cons, wts_nil, wt_str, wt_str, wt_tuple]; omega
section
variable {P : Program} {w : World} {K : PySem.W.Frag} {mg : Str → Option Value} {base : Heap}
theorem sc__law_race : FnScope ["_law_pool_here", "_law_names_here", "_law_one", "_law_two", "_law_rows"] ["_law_pool_here", "_law_names_here"] (defScope s__law_race) := ⟨rfl, rfl, rfl, by decide +kernel, rfl, by decide +kernel, by decide +kernel⟩
theorem ok_race {f : Addr} {fd : FuncData} (F : Fun K "_law_race" "_law_race" s__law_race f fd) (T : Txt mg) (c__law_item : Cal P w K mg base CX0 2 "_law_item" ["_law_pool_here", "_law_items"] (spItem K)) : FnOk P w K mg base CX0 3 f fd ["_law_pool_here", "_law_names_here"] (spFlat K 5) := by
  refine F.ok sc__law_race (fun vs H Q E h => ?_) (fun cdv A outer s H vs Q E hr h => ?_)
  · obtain ⟨p, nd, G, rfl, _⟩ := h
    rfl
  · obtain ⟨p, nd, G, rfl, hp, hn, gv, k⟩ := h
    have hu := hu_of hr
    refine ⟨_, (pss_cons (ps_set (i := 2) sc__law_race.nd rfl (.inl rfl) (pe_ix ix_list (pe_dget hu (pv 1) pe_str (fun _ _ => rfl)) pe_int (fun _ _ => rfl)))
      (pss_cons (ps_set (i := 3) sc__law_race.nd rfl (.inl rfl) (pe_ix ix_list (pe_dget hu (pv 1) pe_str (fun _ _ => rfl)) pe_int (fun _ _ => rfl)))
      (pss_cons (ps_set (i := 4) sc__law_race.nd rfl (.inl rfl) (pe_lst (pa_cons (pe_tup (pa_cons pe_str (pa_cons (pe_cal c__law_item (hr.mono (by omega)) rfl pass0 (pa_cons (pv 0) (pa_cons (pe_dget hu (pv 1) pe_str (fun _ _ => rfl)) pa_nil))) (pa_cons (pv 2) pa_nil)))) (pa_cons (pe_tup (pa_cons pe_str (pa_cons (pv 3) pa_nil))) pa_nil))))
      (pss_cons (ps_expr (pe_bm PySem.F.plainAttrs_list PySem.F.slot_list_append PySem.F.type_list_append mt_append (pv 4) (pa_cons (pe_tup (pa_cons pe_str (pa_cons (pe_tup (pa_cons (pv 3) (pa_cons (pv 2) pa_nil))) (pa_cons (pe_cal c__law_item (hr.mono (by omega)) rfl pass0 (pa_cons (pv 0) (pa_cons (pe_dget hu (pv 1) pe_str (fun _ _ => rfl)) pa_nil))) pa_nil)))) pa_nil)))
      (pss_one (ps_ret (pe_op op_cat (pv 4) (pe_lst (pa_cons (pe_tup (pa_cons pe_str (pa_cons (pv 2) pa_nil))) (pa_cons (pe_tup (pa_cons pe_str (pa_cons (pv 3) pa_nil))) pa_nil)))))))))), ?_⟩
    obtain ⟨a1, a2, a3, a4, a5, a6, n1, NL1⟩ := hn
    have ndp := nd_ne hp n1
    have e2 := gv.slots.1
    have e5 := gv.asks.1
    obtain ⟨x1, x2, x3, eL⟩ : ∃ x1 x2 x3, G.labels = [x1, x2, x3] := by
      have := gv.labels.1
      match hG : G.labels, this with
      | [x1, x2, x3], _ => exact ⟨x1, x2, x3, rfl⟩
    have l1 := NL1.l1
    rw [eL] at l1
    have m1 : x1 ∈ G.labels := by rw [eL]; simp
    have m2 : x2 ∈ G.labels := by rw [eL]; simp
    have hnd : [x2, x1].Nodup := by
      have := gv.labels.2.1
      rw [eL] at this
      obtain ⟨h1, _⟩ := List.nodup_cons.mp this
      simp only [List.nodup_cons, List.mem_singleton, List.not_mem_nil, not_false_iff, List.nodup_nil, and_true]
      exact fun e => h1 (by rw [e]; simp)
    have w1 := wl (gv.labels.2.2 _ m1)
    have w2 := wl (gv.labels.2.2 _ m2)
    refine ⟨_, rfl, nd, _, rfl, DGet.k (k := (.inr "labels" : Key)) n1, a1, _, 0, _, rfl, rfl, .inl (.inl l1), rfl, ?_⟩
    refine ⟨_, rfl, nd, _, rfl, DGet.k (k := (.inr "labels" : Key)) n1, a1, _, 1, _, rfl, rfl, .inl (.inl l1), rfl, ?_⟩
    refine ⟨_, rfl, _, rfl, nd, _, rfl, DGet.k (k := (.inr "asks" : Key)) n1, p, a5, G.asks, rfl, hp, .inl (.inl NL1.l5), by omega, by omega, fun ask H2 hask but2 pl2 => ?_⟩
    have n2 := but2 _ _ n1 ndp
    have NL2 := NL1.kp (hp.kp but2)
    have wask := wl (gv.asks.2.2 _ hask)
    refine ⟨_, rfl, sz_lit (by show 3 ≤ 100000; decide), fun t1 ht1 => ⟨_, rfl, sz2 _ _, fun t2 ht2 => ⟨sz2 _ _, fun l hl => ?_⟩⟩⟩
    have q1 := Same.new (o := .tup [.str "ask", .str ask, .str x1]) ht1
    have q2 := Same.new (o := .tup [.str "timer", .str x2]) ht2
    have q3 := Same.new (o := .lst [.ref t1, .ref t2]) hl
    have u1 := q3 _ _ (q2 _ _ (at_new (o := .tup [.str "ask", .str ask, .str x1]) ht1))
    have u2 := q3 _ _ (at_new (o := .tup [.str "timer", .str x2]) ht2)
    have u3 := at_new (o := .lst [.ref t1, .ref t2]) hl
    have s3 := q1.trans (q2.trans q3)
    have fl := q1.free (q2.free hl)
    clear q1 q2 q3
    revert u1 u2 u3 s3
    generalize upd (upd (upd H2 t1 _) t2 _) l _ = H3
    intro u1 u2 u3 s3
    have n3 := s3 _ _ n2
    have NL3 := NL2.kp s3.kp
    have pl3 := pl2.mono s3
    refine ⟨_, rfl, .inl ⟨rfl, _, .inl (.inl u3)⟩, _, rfl, _, rfl, sz2 _ _, fun t4 ht4 => ?_⟩
    have s4 := Same.new (o := .tup [.str x2, .str x1]) ht4
    have u4 := at_new (o := .tup [.str x2, .str x1]) ht4
    revert s4 u4
    generalize upd H3 t4 _ = H4
    intro s4 u4
    refine ⟨_, rfl, _, rfl, nd, _, rfl, DGet.k (k := (.inr "slots" : Key)) (s4 _ _ n3), p, a2, G.slots, rfl, pl3.mono s4, .inl (.inl (s4 _ _ NL3.l2)), by omega, by omega, fun sl H5 hsl but5 pl5 => ?_⟩
    have k5 := (pl3.mono s4).kp but5
    have wsl := wl (gv.slots.2.2 _ hsl)
    refine ⟨sz_lit (by show 3 ≤ 100000; decide), fun t6 ht6 => ?_⟩
    have s6 := Same.new (o := .tup [.str "first", .ref t4, .str sl]) ht6
    have u6 := at_new (o := .tup [.str "first", .ref t4, .str sl]) ht6
    revert s6 u6
    generalize upd H5 t6 _ = H6
    intro s6 u6
    have k46 := k5.trans s6.kp
    have k36 := s4.kp.trans k46
    have l6 := k36 _ _ u3 rfl
    have but6 : But p H H6 := ((but2.trans (Same.but s3)).trans (Same.but s4)).trans (but5.trans (Same.but s6))
    have flH : H l = none := by
      have lp : l ≠ p := pl2.neN fl
      exact but2.free lp fl
    refine ⟨l, _, _, rfl, rfl, l6, lt_sz (by show 2 < 100000; decide), ?_⟩
    have nt : ∀ t o, seqO o = true → H6 t = some o → (∀ xs, o ≠ .lst xs) → upd H6 l (.lst ([.ref t1, .ref t2] ++ [.ref t6])) t = some o := fun t o _ ht hx => by
      rw [upd_ne fun e => by rw [e, l6] at ht; exact hx _ (Option.some.inj ht).symm]
      exact ht
    have v1 := nt _ _ rfl (k36 _ _ u1 rfl) (fun xs z => by cases z)
    have v2 := nt _ _ rfl (k36 _ _ u2 rfl) (fun xs z => by cases z)
    have v4 := nt _ _ rfl (k46 _ _ u4 rfl) (fun xs z => by cases z)
    have v6 := nt _ _ rfl u6 (fun xs z => by cases z)
    have vl : upd H6 l (.lst ([.ref t1, .ref t2] ++ [.ref t6])) l = _ := upd_same
    have b7 := but6.upd_new (o := .lst ([.ref t1, .ref t2] ++ [.ref t6])) flH
    have pl7 := (pl5.mono s6).put (o := .lst ([.ref t1, .ref t2] ++ [.ref t6])) l6
    revert v1 v2 v4 v6 vl b7 pl7
    generalize upd H6 l _ = H7
    intro v1 v2 v4 v6 vl b7 pl7
    refine ⟨_, rfl, _, rfl, sz2 _ _, fun t8 ht8 => ⟨_, rfl, sz2 _ _, fun t9 ht9 => ⟨sz2 _ _, fun l9 hl9 => ?_⟩⟩⟩
    have q1 := Same.new (o := .tup [.str "drop", .str x1]) ht8
    have q2 := Same.new (o := .tup [.str "drop", .str x2]) ht9
    have q3 := Same.new (o := .lst [.ref t8, .ref t9]) hl9
    have c8 := q3 _ _ (q2 _ _ (at_new (o := .tup [.str "drop", .str x1]) ht8))
    have c9 := q3 _ _ (at_new (o := .tup [.str "drop", .str x2]) ht9)
    have c10 := at_new (o := .lst [.ref t8, .ref t9]) hl9
    have s10 := q1.trans (q2.trans q3)
    clear q1 q2 q3
    revert c8 c9 c10 s10
    generalize upd (upd (upd H7 t8 _) t9 _) l9 _ = H10
    intro c8 c9 c10 s10
    refine ⟨l, l9, _, _, rfl, rfl, s10 _ _ vl, c10, sz_lit (by show 3 + 2 ≤ 100000; decide), fun q hq => ?_⟩
    have sZ := Same.new (o := .lst ([.ref t1, .ref t2] ++ [.ref t6] ++ [.ref t8, .ref t9])) hq
    have sA := s10.trans sZ
    refine k q _ [.tuple [.str "ask", .str ask, .str x1], .tuple [.str "timer", .str x2], .tuple [.str "first", .tuple (([x2, x1] : List Str).map .str), .str sl], .tuple [.str "drop", .str x1], .tuple [.str "drop", .str x2]] _ (b7.trans (Same.but sA)) (pl7.mono sA) upd_same ?_ (by show 5 ≤ 5; decide) ?_ ?_
    · refine .cons (.tup (.inl (.inl (sA _ _ v1))) (.cons (.str _) (.cons (.str _) (.cons (.str _) .nil)))) (.cons (.tup (.inl (.inl (sA _ _ v2))) (.cons (.str _) (.cons (.str _) .nil))) (.cons (.tup (.inl (.inl (sA _ _ v6))) (.cons (.str _) (.cons (.tup (.inl (.inl (sA _ _ v4))) (.cons (.str _) (.cons (.str _) .nil))) (.cons (.str _) .nil)))) (.cons (.tup (.inl (.inl (sZ _ _ c8))) (.cons (.str _) (.cons (.str _) .nil))) (.cons (.tup (.inl (.inl (sZ _ _ c9))) (.cons (.str _) (.cons (.str _) .nil))) .nil))))
    · have z1 := wt3 (k := "ask") (by decide +kernel) wask w1
      have z2 := wt2 (k := "timer") (by decide +kernel) w2
      have z3 := (wtf (k := "first") (zs := [x2, x1]) (by decide +kernel) wsl (by show 2 ≤ 3; decide) (two_mem w2 w1)).1
      have z4 := wt2 (k := "drop") (by decide +kernel) w1
      have z5 := wt2 (k := "drop") (by decide +kernel) w2
      rw [wts_cons, wts_cons, wts_cons, wts_cons, wts_cons, wts_nil]
      omega
    · intro d hd
      simp only [List.mem_cons, List.not_mem_nil, or_false] at hd
      rcases hd with rfl | rfl | rfl | rfl | rfl
      · exact ⟨fun _ _ => .ask hask m1, flat_in (by decide +kernel) (flat2 rfl rfl)⟩
      · exact ⟨fun _ _ => .timer m2, flat_in (by decide +kernel) (flat1 rfl)⟩
      · exact ⟨fun _ _ => .first (two_mem m2 m1) hnd (by show 1 ≤ 2; decide) (by show 2 ≤ 3; decide) hsl, flat_in (by decide +kernel) (flat2 rfl rfl)⟩
      · exact ⟨fun _ _ => .drop m1, flat_in (by decide +kernel) (flat1 rfl)⟩
      · exact ⟨fun _ _ => .drop m2, flat_in (by decide +kernel) (flat1 rfl)⟩
end
end Op
namespace Op
open PySem L2 PyProof.Rows
section
variable {P : Program} {w : World} {K : PySem.W.Frag} {mg : Str → Option Value} {base : Heap}
def spPlain (K : PySem.W.Frag) : Sp := fun vs H Q _ => ∃ (p nd : Addr) (G : Gn), vs = [.ref p, .ref nd] ∧ Pl H p ∧ NmO H nd G ∧ GnV G ∧
  ∀ (v : V) (d : PyData) H', But p H H' → Pl H' p → Dp K H' v d → wt d ≤ 60 → GFlat G d → Q v H'
theorem sc__law_plain : FnScope ["_law_pool_here", "_law_names_here", "_law_pick", "_law_label", "_law_slot", "_law_words"] ["_law_pool_here", "_law_names_here"] (defScope s__law_plain) := ⟨rfl, rfl, rfl, by decide +kernel, rfl, by decide +kernel, by decide +kernel⟩
theorem ok_plain {f : Addr} {fd : FuncData} (F : Fun K "_law_plain" "_law_plain" s__law_plain f fd) (T : Txt mg) (c__law_draw : Cal P w K mg base CX0 1 "_law_draw" ["_law_pool_here", "_law_many"] spD) (c__law_item : Cal P w K mg base CX0 2 "_law_item" ["_law_pool_here", "_law_items"] (spItem K)) : FnOk P w K mg base CX0 3 f fd ["_law_pool_here", "_law_names_here"] (spPlain K) := by
  refine F.ok sc__law_plain (fun vs H Q E h => ?_) (fun cdv A outer s H vs Q E hr h => ?_)
  · obtain ⟨p, nd, G, rfl, _⟩ := h
    rfl
  · obtain ⟨p, nd, G, rfl, hp, hn, gv, k⟩ := h
    have hu := hu_of hr
    refine ⟨_, (pss_cons (ps_set (i := 2) sc__law_plain.nd rfl (.inl rfl) (pe_cal c__law_draw (hr.mono (by omega)) rfl pass0 (pa_cons (pv 0) (pa_cons pe_int pa_nil))))
      (pss_cons (ps_set (i := 3) sc__law_plain.nd rfl (.inl rfl) (pe_cal c__law_item (hr.mono (by omega)) rfl pass0 (pa_cons (pv 0) (pa_cons (pe_dget hu (pv 1) pe_str (fun _ _ => rfl)) pa_nil))))
      (pss_cons (ps_set (i := 4) sc__law_plain.nd rfl (.inl rfl) (pe_cal c__law_item (hr.mono (by omega)) rfl pass0 (pa_cons (pv 0) (pa_cons (pe_dget hu (pv 1) pe_str (fun _ _ => rfl)) pa_nil))))
      (pss_cons (ps_set (i := 5) sc__law_plain.nd rfl (.inl rfl) (pe_dget hu (pv 1) pe_str (fun _ _ => rfl)))
      (pss_cons (ps_if (pt_cmpR op_eq (pv 2) pe_int (nomark _)) (pss_one (ps_ret (pe_tup (pa_cons pe_str (pa_cons (pe_cal c__law_item (hr.mono (by omega)) rfl pass0 (pa_cons (pv 0) (pa_cons (pe_dget hu (pv 1) pe_str (fun _ _ => rfl)) pa_nil))) (pa_cons (pv 3) pa_nil)))))) pss_nil)
      (pss_cons (ps_if (pt_cmpR op_eq (pv 2) pe_int (nomark _)) (pss_one (ps_ret (pe_tup (pa_cons pe_str (pa_cons (pv 3) pa_nil))))) pss_nil)
      (pss_cons (ps_if (pt_cmpR op_eq (pv 2) pe_int (nomark _)) (pss_one (ps_ret (pe_tup (pa_cons pe_str (pa_cons (pv 3) (pa_cons (pv 4) pa_nil)))))) pss_nil)
      (pss_cons (ps_if (pt_cmpR op_eq (pv 2) pe_int (nomark _)) (pss_one (ps_ret (pe_tup (pa_cons pe_str (pa_cons (pv 3) pa_nil))))) pss_nil)
      (pss_cons (ps_if (PW.pt (pw_and (pt_cmpR op_eq (pv 2) pe_int (nomark _)) (pw_and1 (pt_cmpR op_gt (pe_callB call_len_seq (by rfl) T.b_len (by decide +kernel) (pa_cons (pe_dget hu (pv 1) pe_str (fun _ _ => rfl)) pa_nil)) pe_int (nomark _))))) (pss_one (ps_ret (pe_tup (pa_cons pe_str (pa_cons (pe_ix ix_list (pe_dget hu (pv 1) pe_str (fun _ _ => rfl)) pe_int (fun _ _ => rfl)) (pa_cons (pv 4) pa_nil)))))) pss_nil)
      (pss_cons (ps_if (pt_cmpR op_eq (pv 2) pe_int (nomark _)) (pss_one (ps_ret (pe_tup (pa_cons pe_str (pa_cons (pv 4) (pa_cons (pe_tup (pa_cons (pe_ix ix_list (pv 5) pe_int (fun _ _ => rfl)) (pa_cons (pe_ix ix_list (pv 5) (pe_op op_mul (pe_cal c__law_draw (hr.mono (by omega)) rfl pass0 (pa_cons (pv 0) (pa_cons pe_int pa_nil))) pe_int) (fun _ _ => rfl)) pa_nil))) pa_nil)))))) pss_nil)
      (pss_cons (ps_if (pt_cmpR op_eq (pv 2) pe_int (nomark _)) (pss_one (ps_ret (pe_tup (pa_cons pe_str (pa_cons (pe_tup (pa_cons (pv 3) pa_nil)) (pa_cons (pv 4) pa_nil)))))) pss_nil)
      (pss_cons (ps_if (pt_cmpR op_eq (pv 2) pe_int (nomark _)) (pss_one (ps_ret (pe_tup (pa_cons pe_str (pa_cons (pv 4) pa_nil))))) pss_nil)
      (pss_cons (ps_if (pt_cmpR op_eq (pv 2) pe_int (nomark _)) (pss_one (ps_ret (pe_tup (pa_cons pe_str (pa_cons pe_str pa_nil))))) pss_nil)
      (pss_one (ps_ret (pe_tup (pa_cons pe_str (pa_cons (pv 4) (pa_cons (pe_cal c__law_item (hr.mono (by omega)) rfl pass0 (pa_cons (pv 0) (pa_cons (pv 5) pa_nil))) pa_nil))))))))))))))))))), ?_⟩
    refine ⟨_, rfl, p, 10, rfl, hp, by decide, by decide, fun r H1 r1 r2 but1 pl1 => ?_⟩
    obtain ⟨a1, a2, a3, a4, a5, a6, n1, NL1⟩ := hn.but hp but1
    have ndp := nd_ne pl1 n1
    have e1 := gv.labels.1
    have e2 := gv.slots.1
    have e3 := gv.words.1
    have e5 := gv.asks.1
    refine ⟨_, rfl, _, rfl, nd, _, rfl, DGet.k (k := (.inr "labels" : Key)) n1, p, a1, G.labels, rfl, pl1, .inl (.inl NL1.l1), by omega, by omega, fun lab H2 hlab but2 pl2 => ?_⟩
    have n2 := but2 _ _ n1 ndp
    have NL2 := NL1.kp (pl1.kp but2)
    refine ⟨_, rfl, _, rfl, nd, _, rfl, DGet.k (k := (.inr "slots" : Key)) n2, p, a2, G.slots, rfl, pl2, .inl (.inl NL2.l2), by omega, by omega, fun sl H3 hsl but3 pl3 => ?_⟩
    have n3 := but3 _ _ n2 ndp
    have NL3 := NL2.kp (pl2.kp but3)
    have b3 := but1.trans (but2.trans but3)
    have wlab := wl (gv.labels.2.2 _ hlab)
    have wsl := wl (gv.slots.2.2 _ hsl)
    refine ⟨_, rfl, nd, _, rfl, DGet.k (k := (.inr "words" : Key)) n3, ?_⟩
    refine ⟨_, rfl, rfl, _, rfl, ?_⟩
    by_cases c0 : r = 0
    · refine ifT (decide_eq_true (congrArg V.int c0)) ⟨_, rfl, _, rfl, nd, _, rfl, DGet.k (k := (.inr "asks" : Key)) n3, p, a5, G.asks, rfl, pl3, .inl (.inl NL3.l5), by omega, by omega, fun ask H4 hask but4 pl4 => ⟨_, rfl, sz_lit (by show 3 ≤ 100000; decide), fun t ht => ?_⟩⟩
      have wask := wl (gv.asks.2.2 _ hask)
      exact k _ _ _ ((b3.trans but4).trans (Same.but (Same.new ht))) (pl4.mono (Same.new ht)) (.tup (.inl (.inl upd_same)) (.cons (.str _) (.cons (.str _) (.cons (.str _) .nil)))) (by have := wt3 (k := "ask") (by decide +kernel) wask wlab; omega) ⟨fun _ _ => .ask hask hlab, flat_in (by decide +kernel) (flat2 rfl rfl)⟩
    refine ifF (decide_eq_false fun z => c0 (V.int.inj z)) ⟨_, rfl, rfl, _, rfl, ?_⟩
    by_cases c1 : r = 1
    · refine ifT (decide_eq_true (congrArg V.int c1)) ⟨_, rfl, sz2 _ _, fun t ht => ?_⟩
      exact k _ _ _ (b3.trans (Same.but (Same.new ht))) (pl3.mono (Same.new ht)) (.tup (.inl (.inl upd_same)) (.cons (.str _) (.cons (.str _) .nil))) (by have := wt2 (k := "timer") (by decide +kernel) wlab; omega) ⟨fun _ _ => .timer hlab, flat_in (by decide +kernel) (flat1 rfl)⟩
    refine ifF (decide_eq_false fun z => c1 (V.int.inj z)) ⟨_, rfl, rfl, _, rfl, ?_⟩
    by_cases c2 : r = 2
    · refine ifT (decide_eq_true (congrArg V.int c2)) ⟨_, rfl, _, rfl, sz_lit (by show 3 ≤ 100000; decide), fun t ht => ?_⟩
      exact k _ _ _ (b3.trans (Same.but (Same.new ht))) (pl3.mono (Same.new ht)) (.tup (.inl (.inl upd_same)) (.cons (.str _) (.cons (.str _) (.cons (.str _) .nil)))) (by have := wt3 (k := "await") (by decide +kernel) wlab wsl; omega) ⟨fun _ _ => .await hlab hsl, flat_in (by decide +kernel) (flat2 rfl rfl)⟩
    refine ifF (decide_eq_false fun z => c2 (V.int.inj z)) ⟨_, rfl, rfl, _, rfl, ?_⟩
    by_cases c3 : r = 3
    · refine ifT (decide_eq_true (congrArg V.int c3)) ⟨_, rfl, sz2 _ _, fun t ht => ?_⟩
      exact k _ _ _ (b3.trans (Same.but (Same.new ht))) (pl3.mono (Same.new ht)) (.tup (.inl (.inl upd_same)) (.cons (.str _) (.cons (.str _) .nil))) (by have := wt2 (k := "drop") (by decide +kernel) wlab; omega) ⟨fun _ _ => .drop hlab, flat_in (by decide +kernel) (flat1 rfl)⟩
    refine ifF (decide_eq_false fun z => c3 (V.int.inj z)) ⟨_, rfl, rfl, _, rfl, ?_⟩
    by_cases c4 : r = 4
    · refine ifT (decide_eq_true (congrArg V.int c4)) ⟨_, rfl, nd, _, rfl, DGet.k (k := (.inr "boxes" : Key)) n3, a6, _, rfl, .inl (.inl (.inl NL3.l6)), _, _, rfl, rfl, _, rfl, ?_⟩
      rw [List.length_map]
      rcases gv.boxes with g0 | g1
      · refine ifF (decide_eq_false (by rw [g0.1]; decide)) ?_
        refine ⟨_, rfl, rfl, _, rfl, ifF (by rw [c4]; decide +kernel) ⟨_, rfl, rfl, _, rfl, ifF (by rw [c4]; decide +kernel) ⟨_, rfl, rfl, _, rfl, ifF (by rw [c4]; decide +kernel) ⟨_, rfl, rfl, _, rfl, ifF (by rw [c4]; decide +kernel) ?_⟩⟩⟩⟩
        refine ⟨_, rfl, _, rfl, _, rfl, p, a3, G.words, rfl, pl3, .inl (.inl NL3.l3), by omega, by omega, fun wd H4 hwd but4 pl4 => ⟨sz_lit (by show 3 ≤ 100000; decide), fun t ht => ?_⟩⟩
        exact k _ _ _ ((b3.trans but4).trans (Same.but (Same.new ht))) (pl4.mono (Same.new ht)) (.tup (.inl (.inl upd_same)) (.cons (.str _) (.cons (.str _) (.cons (.str _) .nil)))) (by have := wt3 (k := "put") (by decide +kernel) wsl (wl (gv.words.2.2 _ hwd)); omega) ⟨fun _ _ => .put hsl (name_word (gv.words.2.2 _ hwd)), flat_in (by decide +kernel) (flat2 rfl rfl)⟩
      · refine ifT (decide_eq_true (by rw [g1.1]; decide)) ?_
        obtain ⟨z0, eB⟩ : ∃ z0, G.boxes = [z0] := by
          have := g1.1
          match hG : G.boxes, this with
          | [z0], _ => exact ⟨z0, rfl⟩
        have l6 := NL3.l6
        rw [eB] at l6
        have hz : z0 ∈ G.boxes := by rw [eB]; simp
        refine ⟨_, rfl, nd, _, rfl, DGet.k (k := (.inr "boxes" : Key)) n3, a6, _, 0, _, rfl, rfl, .inl (.inl l6), rfl, _, rfl, sz_lit (by show 3 ≤ 100000; decide), fun t ht => ?_⟩
        exact k _ _ _ (b3.trans (Same.but (Same.new ht))) (pl3.mono (Same.new ht)) (.tup (.inl (.inl upd_same)) (.cons (.str _) (.cons (.str _) (.cons (.str _) .nil)))) (by have := wt3 (k := "take") (by decide +kernel) (wl (g1.2.2 _ hz)) wsl; omega) ⟨fun _ _ => .take hz hsl, flat_in (by decide +kernel) (flat2 rfl rfl)⟩
    refine ifF (decide_eq_false fun z => c4 (V.int.inj z)) (ifF rfl ⟨_, rfl, rfl, _, rfl, ?_⟩)
    by_cases c5 : r = 5
    · refine ifT (decide_eq_true (congrArg V.int c5)) ?_
      obtain ⟨w0, w1, w2, eW⟩ : ∃ w0 w1 w2, G.words = [w0, w1, w2] := by
        have := gv.words.1
        match hG : G.words, this with
        | [w0, w1, w2], _ => exact ⟨w0, w1, w2, rfl⟩
      have l3 := NL3.l3
      have gw := gv.words
      rw [eW] at l3 gw
      refine ⟨_, rfl, _, rfl, a3, _, 1, _, rfl, rfl, .inl (.inl l3), rfl, _, rfl, _, rfl, p, 2, rfl, pl3, by decide, by decide, fun r' H4 r1' r2' but4 pl4 => ?_⟩
      have l34 := pl3.kp but4 _ _ l3 rfl
      obtain ⟨wx, hx, hxw, hxn⟩ : ∃ wx, atI (([w0, w1, w2] : List Str).map V.str) (r' * 2) = some (.str wx) ∧ nameOk wx ∧ ([w1, wx] : List Str).Nodup := by
        obtain ⟨h1, h2⟩ := List.nodup_cons.mp gw.2.1
        obtain ⟨h3, h4⟩ := List.nodup_cons.mp h2
        have : r' = 0 ∨ r' = 1 := by omega
        rcases this with rfl | rfl
        · refine ⟨w0, rfl, gw.2.2 _ (by simp), ?_⟩
          simp only [List.nodup_cons, List.mem_singleton, List.not_mem_nil, not_false_iff, List.nodup_nil, and_true]
          exact fun e => h1 (by rw [e]; simp)
        · refine ⟨w2, rfl, gw.2.2 _ (by simp), ?_⟩
          simp only [List.nodup_cons, List.mem_singleton, List.not_mem_nil, not_false_iff, List.nodup_nil, and_true]
          exact fun e => h3 (by rw [e]; simp)
      refine ⟨_, _, rfl, rfl, .inr ⟨by decide, by decide⟩, a3, _, _, _, rfl, rfl, .inl (.inl l34), hx, sz2 _ _, fun t1 ht1 => ⟨sz_lit (by show 3 ≤ 100000; decide), fun t ht => ?_⟩⟩
      have q1 := Same.new (o := .tup [.str w1, .str wx]) ht1
      have q2 := Same.new (o := .tup [.str "note", .str sl, .ref t1]) ht
      have hw1 : nameOk w1 := gw.2.2 _ (by simp)
      have hws := words_ok (m := 3) (zs := [w1, wx]) (by show 1 ≤ 2; decide) (by show ((2 : Nat) : Int) ≤ 3; decide) hxn (two_mem (name_word hw1) (name_word hxw))
      exact k _ _ _ ((b3.trans but4).trans (Same.but (q1.trans q2))) (pl4.mono (q1.trans q2)) (.tup (.inl (.inl upd_same)) (.cons (.str _) (.cons (.str _) (.cons (.tup (.inl (.inl (q2 _ _ (at_new (o := .tup [.str w1, .str wx]) ht1)))) (.cons (.str _) (.cons (.str _) .nil))) .nil)))) (wtf (k := "note") (zs := [w1, wx]) (by decide +kernel) wsl (by show 2 ≤ 3; decide) (two_mem (wl hw1) (wl hxw))).2 ⟨fun _ _ => .note (ws := [w1, wx]) hsl hws, flat_in (by decide +kernel) (flat2 rfl rfl)⟩
    refine ifF (decide_eq_false fun z => c5 (V.int.inj z)) ⟨_, rfl, rfl, _, rfl, ?_⟩
    by_cases c6 : r = 6
    · refine ifT (decide_eq_true (congrArg V.int c6)) ⟨_, rfl, sz1 _, fun t1 ht1 => ⟨_, rfl, sz_lit (by show 3 ≤ 100000; decide), fun t ht => ?_⟩⟩
      have q1 := Same.new (o := .tup [.str lab]) ht1
      have q2 := Same.new (o := .tup [.str "first", .ref t1, .str sl]) ht
      exact k _ _ _ (b3.trans (Same.but (q1.trans q2))) (pl3.mono (q1.trans q2)) (.tup (.inl (.inl upd_same)) (.cons (.str _) (.cons (.tup (.inl (.inl (q2 _ _ (at_new (o := .tup [.str lab]) ht1)))) (.cons (.str _) .nil)) (.cons (.str _) .nil)))) (wtf (k := "first") (zs := [lab]) (by decide +kernel) wsl (by show 1 ≤ 3; decide) (fun z hz => by rw [List.mem_singleton.mp hz]; exact wlab)).1 ⟨fun _ _ => .first (ls := [lab]) (fun z hz => by rw [List.mem_singleton.mp hz]; exact hlab) (by simp) (by show 1 ≤ 1; decide) (by show 1 ≤ 3; decide) hsl, flat_in (by decide +kernel) (flat2 rfl rfl)⟩
    refine ifF (decide_eq_false fun z => c6 (V.int.inj z)) ⟨_, rfl, rfl, _, rfl, ?_⟩
    by_cases c7 : r = 7
    · refine ifT (decide_eq_true (congrArg V.int c7)) ⟨_, rfl, sz2 _ _, fun t ht => ?_⟩
      exact k _ _ _ (b3.trans (Same.but (Same.new ht))) (pl3.mono (Same.new ht)) (.tup (.inl (.inl upd_same)) (.cons (.str _) (.cons (.str _) .nil))) (by have := wt2 (k := "end") (by decide +kernel) wsl; omega) ⟨fun _ _ => .fin (.inl hsl), flat_in (by decide +kernel) (flat1 rfl)⟩
    refine ifF (decide_eq_false fun z => c7 (V.int.inj z)) ⟨_, rfl, rfl, _, rfl, ?_⟩
    by_cases c8 : r = 8
    · refine ifT (decide_eq_true (congrArg V.int c8)) ⟨sz2 _ _, fun t ht => ?_⟩
      exact k _ _ _ (b3.trans (Same.but (Same.new ht))) (pl3.mono (Same.new ht)) (.tup (.inl (.inl upd_same)) (.cons (.str _) (.cons (.str _) .nil))) (by have := wt2 (k := "anew") (a := "in") (by decide +kernel) (by decide +kernel); omega) ⟨fun _ _ => .anew (.inr rfl), flat_in (by decide +kernel) (flat1 rfl)⟩
    refine ifF (decide_eq_false fun z => c8 (V.int.inj z)) ?_
    refine ⟨_, rfl, _, rfl, _, rfl, p, a3, G.words, rfl, pl3, .inl (.inl NL3.l3), by omega, by omega, fun wd H4 hwd but4 pl4 => ⟨sz_lit (by show 3 ≤ 100000; decide), fun t ht => ?_⟩⟩
    exact k _ _ _ ((b3.trans but4).trans (Same.but (Same.new ht))) (pl4.mono (Same.new ht)) (.tup (.inl (.inl upd_same)) (.cons (.str _) (.cons (.str _) (.cons (.str _) .nil)))) (by have := wt3 (k := "put") (by decide +kernel) wsl (wl (gv.words.2.2 _ hwd)); omega) ⟨fun _ _ => .put hsl (name_word (gv.words.2.2 _ hwd)), flat_in (by decide +kernel) (flat2 rfl rfl)⟩
end
end Op
namespace Op
open PySem L2 PyProof.Rows
def fuK (L D : Int) : HO := .dK [((.inr "left" : Key), .int L), (.inr "deep", .int D)]
theorem fuK_put (L D L' : Int) : putK [((.inr "left" : Key), V.int L), (.inr "deep", .int D)] (.inr "left") (.int L') = [((.inr "left" : Key), .int L'), (.inr "deep", .int D)] := by first | rfl | kernel_rfl
structure GS (H : Hp) (p nd fu : Addr) (G : Gn) (L D : Int) : Prop where
  pl : Pl H p
  nm : NmO H nd G
  fu : H fu = some (fuK L D)
section
variable {H H' : Hp} {p nd fu : Addr} {G : Gn} {L D L' : Int}
theorem GS.fp (h : GS H p nd fu G L D) : fu ≠ p := fun e => by
  obtain ⟨_, _, _, hh, _⟩ := h.pl
  have := h.fu
  rw [e, hh] at this
  have := congrArg List.length (HO.dK.inj (Option.some.inj this))
  exact absurd (show 3 = 2 from this) (by decide)
theorem GS.nf (h : GS H p nd fu G L D) : nd ≠ fu := fun e => by
  obtain ⟨a1, a2, a3, a4, a5, a6, n1, _⟩ := h.nm
  have := h.fu
  rw [← e, n1] at this
  have := congrArg List.length (HO.dK.inj (Option.some.inj this))
  exact absurd (show 6 = 2 from this) (by decide)
theorem GS.np (h : GS H p nd fu G L D) : nd ≠ p := by
  obtain ⟨a1, a2, a3, a4, a5, a6, n1, _⟩ := h.nm
  exact nd_ne h.pl n1
theorem GS.but (h : GS H p nd fu G L D) (b : But p H H') (pl : Pl H' p) : GS H' p nd fu G L D := ⟨pl, h.nm.but h.pl b, b _ _ h.fu h.fp⟩
theorem GS.mono (h : GS H p nd fu G L D) (s : Same H H') : GS H' p nd fu G L D := ⟨h.pl.mono s, h.nm.mono s, s _ _ h.fu⟩
theorem GS.kp (h : GS H p nd fu G L D) (f : Fr [p, fu] H H') : Kp H H' := fun b o hb ho => f b o hb fun m => by
  rcases List.mem_cons.mp m with e | m
  · obtain ⟨_, _, _, hh, _⟩ := h.pl
    rw [e, hh] at hb
    cases hb
    cases ho
  · rw [List.mem_singleton.mp m, h.fu] at hb
    cases hb
    cases ho
theorem But.fr2 (b : But p H H') : Fr [p, fu] H H' := fun c o hc hn => b c o hc fun e => hn (by rw [e]; exact List.mem_cons_self)
theorem GS.left (h : GS H p nd fu G L D) (L' : Int) : GS (L2.upd H fu (fuK L' D)) p nd fu G L' D := by
  refine ⟨h.pl.upd h.fp, ?_, upd_same⟩
  obtain ⟨a1, a2, a3, a4, a5, a6, n1, n2⟩ := h.nm
  exact ⟨a1, a2, a3, a4, a5, a6, by rw [L2.upd_ne h.nf]; exact n1, n2.kp (kp_upd h.fu rfl)⟩
end
section
variable {P : Program} {w : World} {K : PySem.W.Frag} {mg : Str → Option Value} {base : Heap}
def spBlock (K : PySem.W.Frag) (n : Nat) : Sp := fun vs H Q _ => ∃ (p nd fu : Addr) (G : Gn) (L D : Int) (lp : Bool), vs = [.ref p, .ref nd, .ref fu, .int (6 - (n : Int)), .bl lp] ∧ GS H p nd fu G L D ∧ GnV G ∧ 0 ≤ L ∧ L ≤ 100 ∧ D ≤ 3 ∧ (6 - (n : Int)) ≤ D + 1 ∧
  ∀ (l : Addr) (xs : List V) (ds : List PyData) (H' : Hp) (L' : Int), Fr [p, fu] H H' → GS H' p nd fu G L' D → 0 ≤ L' → L' ≤ L → H' l = some (.lst xs) → DpAll K H' xs ds → GRows G n lp ds → (cntL n ds : Int) ≤ 5 * (L - L') → (wts ds : Int) ≤ 300 * (L - L') → Q (.ref l) H'
def spSome (K : PySem.W.Frag) (n : Nat) : Sp := fun vs H Q _ => ∃ (p nd fu : Addr) (G : Gn) (L D : Int) (lp : Bool), vs = [.ref p, .ref nd, .ref fu, .int (6 - (n : Int)), .bl lp] ∧ GS H p nd fu G L D ∧ GnV G ∧ 0 ≤ L ∧ L ≤ 100 ∧ D ≤ 3 ∧ (6 - (n : Int)) ≤ D + 1 ∧
  ∀ (l : Addr) (xs : List V) (ds : List PyData) (H' : Hp) (L' : Int), Fr [p, fu] H H' → GS H' p nd fu G L' D → 0 ≤ L' → L' ≤ L → H' l = some (.lst xs) → DpAll K H' xs ds → GRows G n lp ds → (cntL n ds : Int) ≤ 5 + 5 * (L - L') → (wts ds : Int) ≤ 300 + 300 * (L - L') → Q (.ref l) H'
theorem sc__law_block : FnScope ["_law_pool_here", "_law_names_here", "_law_fuel", "_law_depth", "_law_loop", "_law_rows", "_law_k"] ["_law_pool_here", "_law_names_here", "_law_fuel", "_law_depth", "_law_loop"] (defScope s__law_block) := ⟨rfl, rfl, rfl, by decide +kernel, rfl, by decide +kernel, by decide +kernel⟩
theorem ok_block {f : Addr} {fd : FuncData} {k n : Nat} (F : Fun K "_law_block" "_law_block" s__law_block f fd) (T : Txt mg) (hk : 1 ≤ k) (c__law_draw : Cal P w K mg base CX0 1 "_law_draw" ["_law_pool_here", "_law_many"] spD) (c__law_some : Cal P w K mg base CX0 k "_law_some" ["_law_pool_here", "_law_names_here", "_law_fuel", "_law_depth", "_law_loop"] (spSome K (n + 1))) : FnOk P w K mg base CX0 (k + 1) f fd ["_law_pool_here", "_law_names_here", "_law_fuel", "_law_depth", "_law_loop"] (spBlock K (n + 1)) := by
  refine F.ok sc__law_block (fun vs H Q E h => ?_) (fun cdv A outer s H vs Q E hr h => ?_)
  · obtain ⟨p, nd, fu, G, L, D, lp, rfl, _⟩ := h
    rfl
  · obtain ⟨p, nd, fu, G, L, D, lp, rfl, gs, gv, hL, hL2, hD, hd, kk⟩ := h
    have hu := hu_of hr
    refine ⟨_, (pss_cons (ps_set (i := 5) sc__law_block.nd rfl (.inl rfl) (pe_lst pa_nil))
      (pss_cons (ps_for PassesOwn.never rfl (pi_range1 (by rfl) T.b_range (pa_cons (pe_op op_add pe_int (pe_cal c__law_draw (hr.mono (by omega)) rfl pass0 (pa_cons (pv 0) (pa_cons pe_int pa_nil)))) pa_nil)) (pg_name (i := 6) sc__law_block.nd rfl (.inl rfl)) (pss_one (ps_if (pt_cmpR op_gt (pe_dget hu (pv 2) pe_str (fun _ _ => rfl)) pe_int (nomark _)) (pss_cons (ps_dput hu (pv 2) pe_str (pe_op op_sub (pe_dget hu (pv 2) pe_str (fun _ _ => rfl)) pe_int) rfl)
      (pss_one (ps_set (i := 5) sc__law_block.nd rfl (.inl rfl) (pe_op op_cat (pv 5) (pe_cal c__law_some (hr.mono (by omega)) rfl pass0 (pa_cons (pv 0) (pa_cons (pv 1) (pa_cons (pv 2) (pa_cons (pv 3) (pa_cons (pv 4) pa_nil)))))))))) pss_nil)))
      (pss_one (ps_ret (pv 5))))), ?_⟩
    refine ⟨sz_lit (by show 0 ≤ 100000; decide), fun l0 hl0 => ?_⟩
    have s1 := Same.new (o := .lst []) hl0
    have l1 := at_new (o := .lst []) hl0
    revert s1 l1
    generalize upd H l0 _ = H1
    intro s1 l1
    have gs1 := gs.mono s1
    refine ⟨_, rfl, p, 3, rfl, gs1.pl, by decide, by decide, fun r H2 r1 r2 but2 pl2 => ⟨_, _, rfl, rfl, ?_⟩⟩
    have gs2 := gs1.but but2 pl2
    have l2 := gs1.pl.kp but2 _ _ l1 rfl
    have fr2 : Fr [p, fu] H H2 := s1.fr.trans but2.fr2
    refine ⟨1 + r, rfl, by omega, by omega, ?_⟩
    refine for_it walk_range (fun i σ H' => ∃ (l : Addr) (xs : List V) (ds : List PyData) (L' : Int) (y6 : Option V), σ = [some (.ref p), some (.ref nd), some (.ref fu), some (.int (6 - ((n + 1 : Nat) : Int))), some (.bl lp), some (.ref l), y6] ∧ Fr [p, fu] H H' ∧ GS H' p nd fu G L' D ∧ 0 ≤ L' ∧ L' ≤ L ∧ H' l = some (.lst xs) ∧ DpAll K H' xs ds ∧ GRows G (n + 1) lp ds ∧ (cntL (n + 1) ds : Int) ≤ 5 * (L - L') ∧ (wts ds : Int) ≤ 300 * (L - L')) ⟨l0, [], [], L, _, rfl, fr2, gs2, hL, Int.le_refl _, l2, .nil, (fun d hd => (List.not_mem_nil hd).elim), by show ((0 : Nat) : Int) ≤ _; omega, by rw [wts_nil]; omega⟩ (fun _ _ _ _ _ => trivial) ?_ ?_
    · rintro i v σ H5 H4 hi ⟨l, xs, ds, L', y6, rfl, fr4, gs4, h0, h1, hl4, dp4, g4, c4, w4⟩ ⟨rfl, rfl⟩
      have hxl := dp4.len
      have hwl := wts_len ds
      refine ⟨_, rfl, fu, _, rfl, DGet.k (k := (.inr "left" : Key)) gs4.fu, _, _, rfl, rfl, _, rfl, ?_⟩
      by_cases e : 0 < L'
      · refine ifT (decide_eq_true e) ⟨_, rfl, fu, _, rfl, DGet.k (k := (.inr "left" : Key)) gs4.fu, _, _, rfl, rfl, _, rfl, fu, _, rfl, DPut.k (k := (.inr "left" : Key)) gs4.fu (lt_sz (by show 2 < 100000; decide)), ?_⟩
        rw [fuK_put]
        have gs5 := gs4.left (L' - 1)
        have fr5 : Fr [p, fu] H (upd H4 fu (fuK (L' - 1) D)) := fr4.upd (by simp)
        have k45 : Kp H4 (upd H4 fu (fuK (L' - 1) D)) := kp_upd gs4.fu rfl
        revert gs5 fr5 k45
        show GS (upd H4 fu (.dK _)) p nd fu G (L' - 1) D → Fr [p, fu] H (upd H4 fu (.dK _)) → Kp H4 (upd H4 fu (.dK _)) → _
        generalize upd H4 fu _ = H6
        intro gs5 fr5 k45
        refine ⟨_, rfl, _, rfl, _, rfl, _, rfl, _, rfl, _, rfl, p, nd, fu, G, L' - 1, D, lp, rfl, gs5, gv, by omega, by omega, hD, hd, fun l7 xs7 ds7 H7 L7 fr7 gs7 z0 z1 hl7 dp7 g7 c7 w7 => ?_⟩
        have k57 := gs5.kp fr7
        have hxl7 := dp7.len
        have hwl7 := wts_len ds7
        refine ⟨l, l7, _, _, rfl, rfl, k57 _ _ (k45 _ _ hl4 rfl) rfl, hl7, sz_lit (by omega), fun q hq => ?_⟩
        have s8 := Same.new (o := .lst (xs ++ xs7)) hq
        refine ⟨q, xs ++ xs7, ds ++ ds7, L7, _, rfl, fr5.trans (fr7.trans s8.fr), gs7.mono s8, z0, by omega, upd_same, DpAll.mono s8 ((DpAll.kp (k45.trans k57) dp4).append dp7), g4.app g7, ?_, ?_⟩
        · rw [cntL_app]
          omega
        · rw [wts_append]
          omega
      · exact ifF (decide_eq_false e) ⟨l, xs, ds, L', _, rfl, fr4, gs4, h0, h1, hl4, dp4, g4, c4, w4⟩
    · rintro σ H4 ⟨l, xs, ds, L', y6, rfl, fr4, gs4, h0, h1, hl4, dp4, g4, c4, w4⟩
      exact ⟨_, rfl, kk l xs ds H4 L' fr4 gs4 h0 h1 hl4 dp4 g4 c4 w4⟩
end
end Op
namespace Op
open PySem L2 PyProof.Rows
theorem word5_ok {G : Gn} (gv : GnV G) : ∀ z ∈ G.words ++ (["none", "rang"] : List Str), isWordS z = true ∧ z.length ≤ 8 := fun z hz => by
  rcases List.mem_append.mp hz with hz | hz
  · exact ⟨name_word (gv.words.2.2 z hz), wl (gv.words.2.2 z hz)⟩
  · simp only [List.mem_cons, List.not_mem_nil, or_false] at hz
    rcases hz with rfl | rfl <;> exact ⟨by decide +kernel, by decide +kernel⟩
theorem cnt_one {n : Nat} {d : PyData} : cntL (n + 1) [d] = cntR (cntL n) d := by
  show cntR (cntL n) d + 0 = _
  rw [Nat.add_zero]
theorem cntR1 {rec : List PyData → Nat} {kind : Str} {ps a : List PyData} (hk : kind ≠ "both") (h : ps.filter isList = [.list a]) : cntR rec (.tuple (.str kind :: ps)) = 1 + rec a := by
  show 1 + ((innerL kind ps).map fun x => rec (listOf x)).sum = _
  unfold innerL
  rw [if_neg hk, h]
  show 1 + (rec a + 0) = _
  rw [Nat.add_zero]
theorem cntR2 {rec : List PyData → Nat} {kind : Str} {ps a b : List PyData} (hk : kind ≠ "both") (h : ps.filter isList = [.list a, .list b]) : cntR rec (.tuple (.str kind :: ps)) = 1 + (rec a + rec b) := by
  show 1 + ((innerL kind ps).map fun x => rec (listOf x)).sum = _
  unfold innerL
  rw [if_neg hk, h]
  show 1 + (rec a + (rec b + 0)) = _
  rw [Nat.add_zero]
theorem cntRB {rec : List PyData → Nat} {a b : List PyData} : cntR rec (.tuple [.str "both", .tuple [.list a, .list b]]) = 1 + (rec a + rec b) := by
  show 1 + ((innerL "both" [.tuple [.list a, .list b]]).map fun x => rec (listOf x)).sum = _
  unfold innerL
  rw [if_pos rfl]
  show 1 + (rec a + (rec b + 0)) = _
  rw [Nat.add_zero]
theorem one_row {G : Gn} {n : Nat} {lp : Bool} {d : PyData} (h : GRow G (GRows G n) lp d) : GRows G (n + 1) lp [d] := fun x hx => by rw [List.mem_singleton.mp hx]; exact h
def fl1 (lp : Bool) (pk : Int) : Bool := (lp && !decide (pk = 10)) || decide (pk = 9)
def fl2 (lp : Bool) (pk : Int) : Bool := lp && !decide (pk = 10)
theorem dec_intV {a b : Int} : decide (V.int a = V.int b) = decide (a = b) := decide_eq_decide.mpr ⟨fun e => V.int.inj e, fun e => by rw [e]⟩
theorem rd_and {σ : L2.St} {H : Hp} {Q : VK} {lp : Bool} {pk : Int} (h4 : σ[4]? = some (some (.bl lp))) (h5 : σ[5]? = some (some (.int pk))) (h : Q (.bl (fl2 lp pk)) H) : tAndV (tVar 4) (tOp rNe (tVar 5) (tC (.int 10))) σ H Q := by
  refine ⟨_, h4, lp, rfl, ?_⟩
  cases lp with
  | true =>
    refine ifT rfl ⟨_, h5, rfl, ?_⟩
    have e : fl2 true pk = !decide (V.int pk = V.int 10) := by unfold fl2; rw [dec_intV]; rfl
    rw [← e]
    exact h
  | false => exact ifF rfl h
theorem rd_or {σ : L2.St} {H : Hp} {Q : VK} {lp : Bool} {pk : Int} (h4 : σ[4]? = some (some (.bl lp))) (h5 : σ[5]? = some (some (.int pk))) (h : Q (.bl (fl1 lp pk)) H) : tOrV (tAndV (tVar 4) (tOp rNe (tVar 5) (tC (.int 10)))) (tOp rEq (tVar 5) (tC (.int 9))) σ H Q := by
  refine rd_and h4 h5 ⟨_, rfl, ?_⟩
  cases q : fl2 lp pk with
  | true =>
    refine ifT rfl ?_
    have e : fl1 lp pk = true := by unfold fl1; unfold fl2 at q; rw [q]; rfl
    rw [e] at h
    exact h
  | false =>
    refine ifF rfl ⟨_, h5, rfl, ?_⟩
    have e : fl1 lp pk = decide (V.int pk = V.int 9) := by unfold fl1; unfold fl2 at q; rw [q, dec_intV]; rfl
    rw [← e]
    exact h
section
variable {P : Program} {w : World} {K : PySem.W.Frag} {mg : Str → Option Value} {base : Heap}
theorem sc__law_some : FnScope ["_law_pool_here", "_law_names_here", "_law_fuel", "_law_depth", "_law_loop", "_law_pick", "_law_slot", "_law_word", "_law_one", "_law_two"] ["_law_pool_here", "_law_names_here", "_law_fuel", "_law_depth", "_law_loop"] (defScope s__law_some) := ⟨rfl, rfl, rfl, by decide +kernel, rfl, by decide +kernel, by decide +kernel⟩
theorem ok_some {f : Addr} {fd : FuncData} {k n : Nat} (F : Fun K "_law_some" "_law_some" s__law_some f fd) (T : Txt mg) (hk : 3 ≤ k) (c__law_draw : Cal P w K mg base CX0 1 "_law_draw" ["_law_pool_here", "_law_many"] spD) (c__law_item : Cal P w K mg base CX0 2 "_law_item" ["_law_pool_here", "_law_items"] (spItem K)) (c__law_pair : Cal P w K mg base CX0 3 "_law_pair" ["_law_pool_here", "_law_names_here"] (spFlat K 2)) (c__law_race : Cal P w K mg base CX0 3 "_law_race" ["_law_pool_here", "_law_names_here"] (spFlat K 5)) (c__law_plain : Cal P w K mg base CX0 3 "_law_plain" ["_law_pool_here", "_law_names_here"] (spPlain K))
    (c__law_block : Cal P w K mg base CX0 k "_law_block" ["_law_pool_here", "_law_names_here", "_law_fuel", "_law_depth", "_law_loop"] (spBlock K n)) : FnOk P w K mg base CX0 (k + 1) f fd ["_law_pool_here", "_law_names_here", "_law_fuel", "_law_depth", "_law_loop"] (spSome K (n + 1)) := by
  refine F.ok sc__law_some (fun vs H Q E h => ?_) (fun cdv A outer s H vs Q E hr h => ?_)
  · obtain ⟨p, nd, fu, G, L, D, lp, rfl, _⟩ := h
    rfl
  · obtain ⟨p, nd, fu, G, L, D, lp, rfl, gs, gv, hL, hL2, hD, hd, kk⟩ := h
    have hu := hu_of hr
    refine ⟨_, (pss_cons (ps_set (i := 5) sc__law_some.nd rfl (.inl rfl) (pe_cal c__law_draw (hr.mono (by omega)) rfl pass0 (pa_cons (pv 0) (pa_cons pe_int pa_nil))))
      (pss_cons (ps_set (i := 6) sc__law_some.nd rfl (.inl rfl) (pe_cal c__law_item (hr.mono (by omega)) rfl pass0 (pa_cons (pv 0) (pa_cons (pe_dget hu (pv 1) pe_str (fun _ _ => rfl)) pa_nil))))
      (pss_cons (ps_set (i := 7) sc__law_some.nd rfl (.inl rfl) (pe_cal c__law_item (hr.mono (by omega)) rfl pass0 (pa_cons (pv 0) (pa_cons (pe_op op_cat (pe_dget hu (pv 1) pe_str (fun _ _ => rfl)) (pe_lst (pa_cons pe_str (pa_cons pe_str pa_nil)))) pa_nil))))
      (pss_cons (ps_if (pt_cmpR op_lt (pv 5) pe_int (nomark _)) (pss_one (ps_ret (pe_cal c__law_pair (hr.mono (by omega)) rfl pass0 (pa_cons (pv 0) (pa_cons (pv 1) pa_nil))))) pss_nil)
      (pss_cons (ps_if (pt_cmpR op_eq (pv 5) pe_int (nomark _)) (pss_one (ps_ret (pe_cal c__law_race (hr.mono (by omega)) rfl pass0 (pa_cons (pv 0) (pa_cons (pv 1) pa_nil))))) pss_nil)
      (pss_cons (ps_if (PW.pt (pw_or (pt_cmpR op_lt (pv 5) pe_int (nomark _)) (pw_or1 (pt_cmpR op_gt (pv 3) (pe_dget hu (pv 2) pe_str (fun _ _ => rfl)) (nomark _))))) (pss_one (ps_ret (pe_lst (pa_cons (pe_cal c__law_plain (hr.mono (by omega)) rfl pass0 (pa_cons (pv 0) (pa_cons (pv 1) pa_nil))) pa_nil)))) pss_nil)
      (pss_cons (ps_set (i := 8) sc__law_some.nd rfl (.inl rfl) (pe_cal c__law_block (hr.mono (by omega)) rfl pass0 (pa_cons (pv 0) (pa_cons (pv 1) (pa_cons (pv 2) (pa_cons (pe_op op_add (pv 3) pe_int) (pa_cons (pe_or (pe_and (pv 4) (pe_one (pe_cmpR op_ne (pv 5) pe_int (nomark _)))) (pe_one (pe_cmpR op_eq (pv 5) pe_int (nomark _)))) pa_nil)))))))
      (pss_cons (ps_if (pt_cmpR op_eq (pv 5) pe_int (nomark _)) (pss_one (ps_ret (pe_lst (pa_cons (pe_tup (pa_cons pe_str (pa_cons (pe_op op_cat (pv 8) (pe_lst (pa_cons (pe_tup (pa_cons pe_str (pa_cons (pv 6) (pa_cons (pv 7) (pa_cons (pe_lst (pa_cons (pe_tup (pa_cons pe_str pa_nil)) pa_nil)) (pa_cons (pe_cal c__law_pair (hr.mono (by omega)) rfl pass0 (pa_cons (pv 0) (pa_cons (pv 1) pa_nil))) pa_nil)))))) pa_nil))) pa_nil))) pa_nil)))) pss_nil)
      (pss_cons (ps_if (pt_cmpR op_eq (pv 5) pe_int (nomark _)) (pss_one (ps_ret (pe_lst (pa_cons (pe_tup (pa_cons pe_str (pa_cons (pe_cal c__law_item (hr.mono (by omega)) rfl pass0 (pa_cons (pv 0) (pa_cons (pe_dget hu (pv 1) pe_str (fun _ _ => rfl)) pa_nil))) (pa_cons (pv 8) pa_nil)))) pa_nil)))) pss_nil)
      (pss_cons (ps_if (PW.pt (pw_and (pt_cmpR op_eq (pv 5) pe_int (nomark _)) (pw_and1 (pt_val (pv 4))))) (pss_one (ps_ret (pe_lst (pa_cons (pe_tup (pa_cons pe_str pa_nil)) pa_nil)))) pss_nil)
      (pss_cons (ps_if (pt_cmpR op_eq (pv 5) pe_int (nomark _)) (pss_one (ps_ret (pe_lst (pa_cons (pe_tup (pa_cons pe_str (pa_cons (pv 8) pa_nil))) pa_nil)))) pss_nil)
      (pss_cons (ps_set (i := 9) sc__law_some.nd rfl (.inl rfl) (pe_cal c__law_block (hr.mono (by omega)) rfl pass0 (pa_cons (pv 0) (pa_cons (pv 1) (pa_cons (pv 2) (pa_cons (pe_op op_add (pv 3) pe_int) (pa_cons (pe_and (pv 4) (pe_one (pe_cmpR op_ne (pv 5) pe_int (nomark _)))) pa_nil)))))))
      (pss_cons (ps_if (pt_cmpR op_eq (pv 5) pe_int (nomark _)) (pss_one (ps_ret (pe_lst (pa_cons (pe_tup (pa_cons pe_str (pa_cons (pv 6) (pa_cons (pv 7) (pa_cons (pv 8) (pa_cons (pv 9) pa_nil)))))) pa_nil)))) pss_nil)
      (pss_cons (ps_if (pt_cmpR op_eq (pv 5) pe_int (nomark _)) (pss_one (ps_ret (pe_lst (pa_cons (pe_tup (pa_cons pe_str (pa_cons (pe_tup (pa_cons (pv 8) (pa_cons (pv 9) pa_nil))) pa_nil))) pa_nil)))) pss_nil)
      (pss_one (ps_ret (pe_lst (pa_cons (pe_tup (pa_cons pe_str (pa_cons (pe_cal c__law_item (hr.mono (by omega)) rfl pass0 (pa_cons (pv 0) (pa_cons (pe_dget hu (pv 1) pe_str (fun _ _ => rfl)) pa_nil))) (pa_cons (pv 8) (pa_cons (pv 9) pa_nil))))) pa_nil)))))))))))))))))), ?_⟩
    have e2 := gv.slots.1
    have e3 := gv.words.1
    have e4 := gv.ids.1
    refine ⟨_, rfl, p, 14, rfl, gs.pl, by decide, by decide, fun pk H1 pk1 pk2 but1 pl1 => ?_⟩
    have gs1 := gs.but but1 pl1
    obtain ⟨a1, a2, a3, a4, a5, a6, n1, NL1⟩ := gs1.nm
    have ndp := nd_ne pl1 n1
    refine ⟨_, rfl, _, rfl, nd, _, rfl, DGet.k (k := (.inr "slots" : Key)) n1, p, a2, G.slots, rfl, pl1, .inl (.inl NL1.l2), by omega, by omega, fun sl H2 hsl but2 pl2 => ?_⟩
    have n2 := but2 _ _ n1 ndp
    have NL2 := NL1.kp (pl1.kp but2)
    have gs2 := gs1.but but2 pl2
    have wsl := wl (gv.slots.2.2 _ hsl)
    refine ⟨_, rfl, _, rfl, nd, _, rfl, DGet.k (k := (.inr "words" : Key)) n2, sz2 _ _, fun q1 hq1 => ⟨a3, q1, _, _, rfl, rfl, Same.new hq1 _ _ NL2.l3, upd_same, sz_lit (by rw [List.length_map]; show _ + 2 ≤ _; omega), fun q2 hq2 => ?_⟩⟩
    have s3 := (Same.new (o := .lst [.str "none", .str "rang"]) hq1).trans (Same.new (o := .lst (G.words.map V.str ++ [.str "none", .str "rang"])) hq2)
    have l3 : upd (upd H2 q1 (.lst [.str "none", .str "rang"])) q2 (.lst (G.words.map V.str ++ [.str "none", .str "rang"])) q2 = some (.lst ((G.words ++ (["none", "rang"] : List Str)).map V.str)) := by rw [upd_same, List.map_append]; rfl
    revert s3 l3
    generalize upd (upd H2 q1 _) q2 _ = H3
    intro s3 l3
    refine ⟨p, q2, G.words ++ (["none", "rang"] : List Str), rfl, pl2.mono s3, .inl (.inl l3), by rw [List.length_append]; show 1 ≤ _ + 2; omega, by rw [List.length_append]; show _ + 2 ≤ 1000; omega, fun wd H4 hwd but4 pl4 => ?_⟩
    obtain ⟨wdw, wdl⟩ := word5_ok gv wd hwd
    have gs4 := (gs2.mono s3).but but4 pl4
    have b4 : But p H H4 := but1.trans (but2.trans ((Same.but s3).trans but4))
    have fr4 : Fr [p, fu] H H4 := b4.fr2
    clear NL1 NL2 n1 n2 l3
    refine ⟨_, rfl, _, _, rfl, rfl, _, rfl, ?_⟩
    by_cases c4 : pk < 4
    · refine ifT (decide_eq_true c4) ⟨_, rfl, _, rfl, p, nd, G, rfl, pl4, gs4.nm, gv, fun l xs ds H5 but5 pl5 hl5 dp5 h5 w5 g5 => ?_⟩
      exact kk l xs ds H5 L (fr4.trans but5.fr2) (gs4.but but5 pl5) hL (Int.le_refl _) hl5 dp5 (GFlat.rows g5) (by rw [GFlat.cnt g5]; omega) (by omega)
    refine ifF (decide_eq_false c4) ⟨_, rfl, rfl, _, rfl, ?_⟩
    by_cases c5 : pk = 4
    · refine ifT (decide_eq_true (congrArg V.int c5)) ⟨_, rfl, _, rfl, p, nd, G, rfl, pl4, gs4.nm, gv, fun l xs ds H5 but5 pl5 hl5 dp5 h5 w5 g5 => ?_⟩
      exact kk l xs ds H5 L (fr4.trans but5.fr2) (gs4.but but5 pl5) hL (Int.le_refl _) hl5 dp5 (GFlat.rows g5) (by rw [GFlat.cnt g5]; omega) (by omega)
    refine ifF (decide_eq_false fun z => c5 (V.int.inj z)) ⟨_, rfl, _, _, rfl, rfl, _, rfl, ?_⟩
    by_cases c8 : pk < 8
    · refine ifT (decide_eq_true c8) (ifT rfl ?_)
      refine ⟨_, rfl, _, rfl, p, nd, G, rfl, pl4, gs4.nm, gv, fun v d H5 but5 pl5 dv w5 g5 => ⟨sz1 _, fun q hq => ?_⟩⟩
      have s6 := Same.new (o := .lst [v]) hq
      have gd : ∀ x ∈ [d], GFlat G x := fun x hx => by rw [List.mem_singleton.mp hx]; exact g5
      exact kk q [v] [d] _ L (fr4.trans (but5.fr2.trans s6.fr)) ((gs4.but but5 pl5).mono s6) hL (Int.le_refl _) upd_same (.cons (dv.mono s6) .nil) (GFlat.rows gd) (by rw [GFlat.cnt gd]; show ((1 : Nat) : Int) ≤ _; omega) (by rw [wts_cons, wts_nil]; omega)
    refine ifF (decide_eq_false c8) ⟨_, rfl, _, rfl, fu, _, rfl, DGet.k (k := (.inr "deep" : Key)) gs4.fu, _, _, rfl, rfl, _, rfl, ?_⟩
    by_cases cD : D < 6 - ((n + 1 : Nat) : Int)
    · refine ifT (decide_eq_true cD) ?_
      refine ⟨_, rfl, _, rfl, p, nd, G, rfl, pl4, gs4.nm, gv, fun v d H5 but5 pl5 dv w5 g5 => ⟨sz1 _, fun q hq => ?_⟩⟩
      have s6 := Same.new (o := .lst [v]) hq
      have gd : ∀ x ∈ [d], GFlat G x := fun x hx => by rw [List.mem_singleton.mp hx]; exact g5
      exact kk q [v] [d] _ L (fr4.trans (but5.fr2.trans s6.fr)) ((gs4.but but5 pl5).mono s6) hL (Int.le_refl _) upd_same (.cons (dv.mono s6) .nil) (GFlat.rows gd) (by rw [GFlat.cnt gd]; show ((1 : Nat) : Int) ≤ _; omega) (by rw [wts_cons, wts_nil]; omega)
    refine ifF (decide_eq_false cD) ?_
    have hdep : (6 - ((n + 1 : Nat) : Int)) + 1 = 6 - (n : Int) := by omega
    refine ⟨_, rfl, _, rfl, _, rfl, _, rfl, _, _, rfl, rfl, rd_or rfl rfl ?_⟩
    refine ⟨p, nd, fu, G, L, D, fl1 lp pk, by show [V.ref p, V.ref nd, V.ref fu, V.int (6 - ((n + 1 : Nat) : Int) + 1), V.bl (fl1 lp pk)] = _; rw [hdep], gs4, gv, hL, hL2, hD, by omega, fun l5 xs5 A5 H5 L5 fr5 gs5 z0 z1 hl5 dp5 g5 c5' w5 => ?_⟩
    have hn2 : ∃ m, n = m + 2 := ⟨n - 2, by omega⟩
    obtain ⟨m, rfl⟩ := hn2
    have fr05 := fr4.trans fr5
    refine ⟨_, rfl, rfl, _, rfl, ?_⟩
    by_cases c9 : pk = 9
    · refine ifT (decide_eq_true (congrArg V.int c9)) ?_
      have ef : fl1 lp pk = true := by rw [c9]; unfold fl1; cases lp <;> rfl
      rw [ef] at g5
      refine ⟨_, rfl, _, rfl, _, rfl, sz1 _, fun t1 ht1 => ⟨sz1 _, fun l2 hl2 => ?_⟩⟩
      have q1 := Same.new (o := .tup [.str "leave"]) ht1
      have q2 := Same.new (o := .lst [.ref t1]) hl2
      have u1 := q2 _ _ (at_new (o := .tup [.str "leave"]) ht1)
      have u2 := at_new (o := .lst [.ref t1]) hl2
      have s6 := q1.trans q2
      clear q1 q2
      revert u1 u2 s6
      generalize upd (upd H5 t1 _) l2 _ = H6
      intro u1 u2 s6
      have gs6 := gs5.mono s6
      refine ⟨_, rfl, _, rfl, p, nd, G, rfl, gs6.pl, gs6.nm, gv, fun l7 xs7 P7 H7 but7 pl7 hl7 dp7 h7 w7 g7 => ?_⟩
      have k7 := gs6.pl.kp but7
      refine ⟨sz_lit (by show 5 ≤ 100000; decide), fun t8 ht8 => ⟨sz1 _, fun l9 hl9 => ?_⟩⟩
      have q1 := Same.new (o := .tup [.str "if", .str sl, .str wd, .ref l2, .ref l7]) ht8
      have q2 := Same.new (o := .lst [.ref t8]) hl9
      have v8 := q2 _ _ (at_new (o := .tup [.str "if", .str sl, .str wd, .ref l2, .ref l7]) ht8)
      have v9 := at_new (o := .lst [.ref t8]) hl9
      have s9 := q1.trans q2
      clear q1 q2
      revert v8 v9 s9
      generalize upd (upd H7 t8 _) l9 _ = H9
      intro v8 v9 s9
      have k59 := (s6.kp.trans k7).trans s9.kp
      have hxl := dp5.len
      have hwl := wts_len A5
      refine ⟨l5, l9, _, _, rfl, rfl, k59 _ _ hl5 rfl, v9, sz_lit (by show _ + 1 ≤ _; omega), fun l10 hl10 => ⟨sz2 _ _, fun t11 ht11 => ⟨sz1 _, fun l12 hl12 => ?_⟩⟩⟩
      have q1 := Same.new (o := .lst (xs5 ++ [.ref t8])) hl10
      have q2 := Same.new (o := .tup [.str "loop", .ref l10]) ht11
      have q3 := Same.new (o := .lst [.ref t11]) hl12
      have y10 := q3 _ _ (q2 _ _ (at_new (o := .lst (xs5 ++ [.ref t8])) hl10))
      have y11 := q3 _ _ (at_new (o := .tup [.str "loop", .ref l10]) ht11)
      have y12 := at_new (o := .lst [.ref t11]) hl12
      have sZ := q1.trans (q2.trans q3)
      clear q1 q2 q3
      revert y10 y11 y12 sZ
      generalize upd (upd (upd H9 l10 _) t11 _) l12 _ = HZ
      intro y10 y11 y12 sZ
      have s79 := s9.trans sZ
      have k5Z := k59.trans sZ.kp
      have k6Z := (k7.trans s9.kp).trans sZ.kp
      have dIf : Dp K HZ (.ref t8) (.tuple [.str "if", .str sl, .str wd, .list [.tuple [.str "leave"]], .list P7]) := .tup (.inl (.inl (sZ _ _ v8))) (.cons (.str _) (.cons (.str _) (.cons (.str _) (.cons (.lst (.inl (.inl (k6Z _ _ u2 rfl))) (.cons (.tup (.inl (.inl (k6Z _ _ u1 rfl))) (.cons (.str _) .nil)) .nil)) (.cons (.lst (.inl (.inl (s79 _ _ hl7))) (DpAll.mono s79 dp7)) .nil)))))
      have gIf : GRow G (GRows G (m + 1)) true (.tuple [.str "if", .str sl, .str wd, .list [.tuple [.str "leave"]], .list P7]) := .cond (.inl hsl) wdw (one_row (.leave rfl)) (GFlat.rows g7)
      have cIf : cntL (m + 2) [.tuple [.str "if", .str sl, .str wd, .list [.tuple [.str "leave"]], .list P7]] = 1 + (cntL (m + 1) [.tuple [.str "leave"]] + cntL (m + 1) P7) := by rw [cnt_one, cntR2 (by decide +kernel) rfl]
      have cLv : cntL (m + 1) [.tuple [.str "leave"]] = 1 := by
        rw [cnt_one]
        show 1 + ((innerL "leave" []).map _).sum = 1
        unfold innerL
        rw [if_neg (by decide +kernel)]
        rfl
      have cP := GFlat.cnt (n := m) g7
      refine kk l12 [.ref t11] [.tuple [.str "loop", .list (A5 ++ [.tuple [.str "if", .str sl, .str wd, .list [.tuple [.str "leave"]], .list P7]])]] HZ L5 (fr05.trans ((s6.fr.trans but7.fr2).trans s79.fr)) ((gs6.but but7 pl7).mono s79) z0 z1 y12 (.cons (.tup (.inl (.inl y11)) (.cons (.str _) (.cons (.lst (.inl (.inl y10)) ((DpAll.kp k5Z dp5).append (.cons dIf .nil))) .nil))) .nil) (one_row (.loop (g5.app (one_row gIf)))) ?_ ?_
      · rw [cnt_one, cntR1 (by decide +kernel) rfl, cntL_app, cIf, cLv, cP]
        omega
      · rw [wts_cons, wts_nil, wt_tuple, wts_cons, wts_cons, wts_nil, wt_list, wts_append, wts_cons, wts_nil, wt_tuple, wts_cons, wts_cons, wts_cons, wts_cons, wts_cons, wts_nil, wt_list, wt_list, wts_cons, wts_nil, wt_tuple, wts_cons, wts_nil, wt_str, wt_str, wt_str, wt_str, wt_str, show ("loop" : Str).length = 4 by decide +kernel, show ("if" : Str).length = 2 by decide +kernel, show ("leave" : Str).length = 5 by decide +kernel]
        omega
    refine ifF (decide_eq_false fun z => c9 (V.int.inj z)) ⟨_, rfl, rfl, _, rfl, ?_⟩
    have ef : fl1 lp pk = fl2 lp pk := by unfold fl1 fl2; rw [decide_eq_false c9, Bool.or_false]
    rw [ef] at g5
    obtain ⟨a1, a2, a3, a4, a5, a6, n5, NL5⟩ := gs5.nm
    have widl : ∀ i ∈ G.ids, i.length ≤ 8 := fun i hi => wl (gv.ids.2.2 i hi)
    by_cases c12 : pk = 12
    · refine ifT (decide_eq_true (congrArg V.int c12)) ?_
      have e2' : fl2 lp pk = lp := by rw [c12]; unfold fl2; cases lp <;> rfl
      rw [e2'] at g5
      refine ⟨_, rfl, _, rfl, nd, _, rfl, DGet.k (k := (.inr "ids" : Key)) n5, p, a4, G.ids, rfl, gs5.pl, .inl (.inl NL5.l4), by omega, by omega, fun i H6 hi but6 pl6 => ⟨_, rfl, sz_lit (by show 3 ≤ 100000; decide), fun t7 ht7 => ⟨sz1 _, fun l8 hl8 => ?_⟩⟩⟩
      have q1 := Same.new (o := .tup [.str "past", .str i, .ref l5]) ht7
      have q2 := Same.new (o := .lst [.ref t7]) hl8
      have k6 := gs5.pl.kp but6
      have kZ := (k6.trans q1.kp).trans q2.kp
      refine kk l8 [.ref t7] [.tuple [.str "past", .str i, .list A5]] _ L5 (fr05.trans (but6.fr2.trans (q1.trans q2).fr)) ((gs5.but but6 pl6).mono (q1.trans q2)) z0 z1 upd_same (.cons (.tup (.inl (.inl (q2 _ _ (at_new (o := .tup [.str "past", .str i, .ref l5]) ht7)))) (.cons (.str _) (.cons (.str _) (.cons (.lst (.inl (.inl (kZ _ _ hl5 rfl))) (DpAll.kp kZ dp5)) .nil)))) .nil) (one_row (.past hi g5)) ?_ ?_
      · rw [cnt_one, cntR1 (by decide +kernel) rfl]
        omega
      · have := widl i hi
        rw [wts_cons, wts_nil, wt_tuple, wts_cons, wts_cons, wts_cons, wts_nil, wt_list, wt_str, wt_str, show ("past" : Str).length = 4 by decide +kernel]
        omega
    refine ifF (decide_eq_false fun z => c12 (V.int.inj z)) ⟨_, rfl, rfl, _, rfl, ?_⟩
    by_cases c13 : pk = 13
    · refine ifT (decide_eq_true (congrArg V.int c13)) ⟨_, rfl, lp, rfl, ?_⟩
      cases lp with
      | true =>
        refine ifT rfl ⟨sz1 _, fun t7 ht7 => ⟨sz1 _, fun l8 hl8 => ?_⟩⟩
        have q1 := Same.new (o := .tup [.str "leave"]) ht7
        have q2 := Same.new (o := .lst [.ref t7]) hl8
        refine kk l8 [.ref t7] [.tuple [.str "leave"]] _ L5 (fr05.trans (q1.trans q2).fr) (gs5.mono (q1.trans q2)) z0 z1 upd_same (.cons (.tup (.inl (.inl (q2 _ _ (at_new (o := .tup [.str "leave"]) ht7)))) (.cons (.str _) .nil)) .nil) (one_row (.leave rfl)) ?_ ?_
        · have : cntL (m + 2 + 1) [.tuple [.str "leave"]] = 1 := by
            rw [cnt_one]
            show 1 + ((innerL "leave" []).map _).sum = 1
            unfold innerL
            rw [if_neg (by decide +kernel)]
            rfl
          rw [this]
          omega
        · rw [wts_cons, wts_nil, wt_tuple, wts_cons, wts_nil, wt_str, show ("leave" : Str).length = 5 by decide +kernel]
          omega
      | false =>
        refine ifF rfl ⟨_, rfl, rfl, _, rfl, ifT (decide_eq_true (congrArg V.int c13)) ⟨_, rfl, sz2 _ _, fun t7 ht7 => ⟨sz1 _, fun l8 hl8 => ?_⟩⟩⟩
        have q1 := Same.new (o := .tup [.str "part", .ref l5]) ht7
        have q2 := Same.new (o := .lst [.ref t7]) hl8
        have e2' : fl2 false pk = false := rfl
        rw [e2'] at g5
        refine kk l8 [.ref t7] [.tuple [.str "part", .list A5]] _ L5 (fr05.trans (q1.trans q2).fr) (gs5.mono (q1.trans q2)) z0 z1 upd_same (.cons (.tup (.inl (.inl (q2 _ _ (at_new (o := .tup [.str "part", .ref l5]) ht7)))) (.cons (.str _) (.cons (.lst (.inl (.inl ((q1.trans q2) _ _ hl5))) (DpAll.mono (q1.trans q2) dp5)) .nil))) .nil) (one_row (.part g5)) ?_ ?_
        · rw [cnt_one, cntR1 (by decide +kernel) rfl]
          omega
        · rw [wts_cons, wts_nil, wt_tuple, wts_cons, wts_cons, wts_nil, wt_list, wt_str, show ("part" : Str).length = 4 by decide +kernel]
          omega
    refine ifF (decide_eq_false fun z => c13 (V.int.inj z)) (ifF rfl ⟨_, rfl, rfl, _, rfl, ifF (decide_eq_false fun z => c13 (V.int.inj z)) ?_⟩)
    refine ⟨_, rfl, _, rfl, _, rfl, _, rfl, _, _, rfl, rfl, rd_and rfl rfl ?_⟩
    refine ⟨p, nd, fu, G, L5, D, fl2 lp pk, by show [V.ref p, V.ref nd, V.ref fu, V.int (6 - ((m + 2 + 1 : Nat) : Int) + 1), V.bl (fl2 lp pk)] = _; rw [hdep], gs5, gv, z0, by omega, hD, by omega, fun l6 xs6 B6 H6 L6 fr6 gs6 y0 y1 hl6 dp6 g6 c6' w6 => ?_⟩
    have k56 := gs5.kp fr6
    have hl56 := k56 _ _ hl5 rfl
    have dp56 := DpAll.kp k56 dp5
    have fr06 := fr05.trans fr6
    refine ⟨_, rfl, rfl, _, rfl, ?_⟩
    by_cases d8 : pk = 8
    · refine ifT (decide_eq_true (congrArg V.int d8)) ⟨_, rfl, _, rfl, _, rfl, _, rfl, sz_lit (by show 5 ≤ 100000; decide), fun t7 ht7 => ⟨sz1 _, fun l8 hl8 => ?_⟩⟩
      have q1 := Same.new (o := .tup [.str "if", .str sl, .str wd, .ref l5, .ref l6]) ht7
      have q2 := Same.new (o := .lst [.ref t7]) hl8
      have sq := q1.trans q2
      have e2' : fl2 lp pk = lp := by rw [d8]; unfold fl2; cases lp <;> rfl
      rw [e2'] at g5 g6
      refine kk l8 [.ref t7] [.tuple [.str "if", .str sl, .str wd, .list A5, .list B6]] _ L6 (fr06.trans sq.fr) (gs6.mono sq) y0 (by omega) upd_same (.cons (.tup (.inl (.inl (q2 _ _ (at_new (o := .tup [.str "if", .str sl, .str wd, .ref l5, .ref l6]) ht7)))) (.cons (.str _) (.cons (.str _) (.cons (.str _) (.cons (.lst (.inl (.inl (sq _ _ hl56))) (DpAll.mono sq dp56)) (.cons (.lst (.inl (.inl (sq _ _ hl6))) (DpAll.mono sq dp6)) .nil)))))) .nil) (one_row (.cond (.inl hsl) wdw g5 g6)) ?_ ?_
      · rw [cnt_one, cntR2 (by decide +kernel) rfl]
        omega
      · rw [wts_cons, wts_nil, wt_tuple, wts_cons, wts_cons, wts_cons, wts_cons, wts_cons, wts_nil, wt_list, wt_list, wt_str, wt_str, wt_str, show ("if" : Str).length = 2 by decide +kernel]
        omega
    refine ifF (decide_eq_false fun z => d8 (V.int.inj z)) ⟨_, rfl, rfl, _, rfl, ?_⟩
    by_cases d10 : pk = 10
    · refine ifT (decide_eq_true (congrArg V.int d10)) ⟨_, rfl, _, rfl, sz2 _ _, fun t6 ht6 => ⟨sz2 _ _, fun t7 ht7 => ⟨sz1 _, fun l8 hl8 => ?_⟩⟩⟩
      have q0 := Same.new (o := .tup [.ref l5, .ref l6]) ht6
      have q1 := Same.new (o := .tup [.str "both", .ref t6]) ht7
      have q2 := Same.new (o := .lst [.ref t7]) hl8
      have sq := q0.trans (q1.trans q2)
      have e2' : fl2 lp pk = false := by rw [d10]; unfold fl2; cases lp <;> rfl
      rw [e2'] at g5 g6
      refine kk l8 [.ref t7] [.tuple [.str "both", .tuple (([A5, B6] : List (List PyData)).map .list)]] _ L6 (fr06.trans sq.fr) (gs6.mono sq) y0 (by omega) upd_same (.cons (.tup (.inl (.inl (q2 _ _ (at_new (o := .tup [.str "both", .ref t6]) ht7)))) (.cons (.str _) (.cons (.tup (.inl (.inl (q2 _ _ (q1 _ _ (at_new (o := .tup [.ref l5, .ref l6]) ht6))))) (.cons (.lst (.inl (.inl (sq _ _ hl56))) (DpAll.mono sq dp56)) (.cons (.lst (.inl (.inl (sq _ _ hl6))) (DpAll.mono sq dp6)) .nil))) .nil))) .nil) (one_row (.both (by show 2 ≤ 2; decide) (by show 2 ≤ 3; decide) (two_mem g5 g6))) ?_ ?_
      · show (cntL (m + 2 + 1) [.tuple [.str "both", .tuple [.list A5, .list B6]]] : Int) ≤ _
        rw [cnt_one, cntRB]
        omega
      · show (wts [.tuple [.str "both", .tuple [.list A5, .list B6]]] : Int) ≤ _
        rw [wts_cons, wts_nil, wt_tuple, wts_cons, wts_cons, wts_nil, wt_tuple, wts_cons, wts_cons, wts_nil, wt_list, wt_list, wt_str, show ("both" : Str).length = 4 by decide +kernel]
        omega
    refine ifF (decide_eq_false fun z => d10 (V.int.inj z)) ?_
    obtain ⟨b1, b2, b3, b4', b5, b6, n6, NL6⟩ := gs6.nm
    refine ⟨_, rfl, _, rfl, nd, _, rfl, DGet.k (k := (.inr "ids" : Key)) n6, p, b4', G.ids, rfl, gs6.pl, .inl (.inl NL6.l4), by omega, by omega, fun i H7 hi but7 pl7 => ⟨_, rfl, _, rfl, sz_lit (by show 4 ≤ 100000; decide), fun t7 ht7 => ⟨sz1 _, fun l8 hl8 => ?_⟩⟩⟩
    have q1 := Same.new (o := .tup [.str "gate", .str i, .ref l5, .ref l6]) ht7
    have q2 := Same.new (o := .lst [.ref t7]) hl8
    have k7 := gs6.pl.kp but7
    have kZ := (k7.trans q1.kp).trans q2.kp
    have e2' : fl2 lp pk = lp := by unfold fl2; rw [decide_eq_false d10]; cases lp <;> rfl
    rw [e2'] at g5 g6
    refine kk l8 [.ref t7] [.tuple [.str "gate", .str i, .list A5, .list B6]] _ L6 (fr06.trans (but7.fr2.trans (q1.trans q2).fr)) ((gs6.but but7 pl7).mono (q1.trans q2)) y0 (by omega) upd_same (.cons (.tup (.inl (.inl (q2 _ _ (at_new (o := .tup [.str "gate", .str i, .ref l5, .ref l6]) ht7)))) (.cons (.str _) (.cons (.str _) (.cons (.lst (.inl (.inl (kZ _ _ hl56 rfl))) (DpAll.kp kZ dp56)) (.cons (.lst (.inl (.inl (kZ _ _ hl6 rfl))) (DpAll.kp kZ dp6)) .nil))))) .nil) (one_row (.gate hi g5 g6)) ?_ ?_
    · rw [cnt_one, cntR2 (by decide +kernel) rfl]
      omega
    · have := widl i hi
      rw [wts_cons, wts_nil, wt_tuple, wts_cons, wts_cons, wts_cons, wts_cons, wts_nil, wt_list, wt_list, wt_str, wt_str, show ("gate" : Str).length = 4 by decide +kernel]
      omega
end
end Op
namespace Op
open PySem L2 PyProof.Rows
theorem spK_rows (nd pa ps : Addr) (iv rv rv' : V) : putK (spK nd pa ps iv rv) (.inr "rows") rv' = spK nd pa ps iv rv' := by first | rfl | kernel_rfl
section
variable {P : Program} {w : World} {K : PySem.W.Frag} {mg : Str → Option Value} {base : Heap}
theorem ok_gen {f1 f2 : Addr} {fd1 fd2 : FuncData} (F1 : Fun K "_law_block" "_law_block" s__law_block f1 fd1) (F2 : Fun K "_law_some" "_law_some" s__law_some f2 fd2) (T : Txt mg) (g1 : mg "_law_block" = some (.ref f1)) (g2 : mg "_law_some" = some (.ref f2)) (k1 : PySem.W.keepIn K (.ref f1) = true) (k2 : PySem.W.keepIn K (.ref f2) = true)
    (b1 : Binds K fd1 ["_law_pool_here", "_law_names_here", "_law_fuel", "_law_depth", "_law_loop"] []) (b2 : Binds K fd2 ["_law_pool_here", "_law_names_here", "_law_fuel", "_law_depth", "_law_loop"] []) (c__law_draw : Cal P w K mg base CX0 1 "_law_draw" ["_law_pool_here", "_law_many"] spD) (c__law_item : Cal P w K mg base CX0 2 "_law_item" ["_law_pool_here", "_law_items"] (spItem K)) (c__law_pair : Cal P w K mg base CX0 3 "_law_pair" ["_law_pool_here", "_law_names_here"] (spFlat K 2)) (c__law_race : Cal P w K mg base CX0 3 "_law_race" ["_law_pool_here", "_law_names_here"] (spFlat K 5)) (c__law_plain : Cal P w K mg base CX0 3 "_law_plain" ["_law_pool_here", "_law_names_here"] (spPlain K)) : ∀ n : Nat, Cal P w K mg base CX0 (2 * n + 3) "_law_block" ["_law_pool_here", "_law_names_here", "_law_fuel", "_law_depth", "_law_loop"] (spBlock K n)
  | 0 => ⟨f1, fd1, g1, k1, b1, F1.ok sc__law_block (fun vs H Q E h => by obtain ⟨p, nd, fu, G, L, D, lp, rfl, _⟩ := h; rfl) (fun cdv A outer s H vs Q E hr h => by
      obtain ⟨p, nd, fu, G, L, D, lp, _, _, _, _, _, h1, h2, _⟩ := h
      exact absurd h2 (by show ¬ (6 - ((0 : Nat) : Int)) ≤ D + 1; omega))⟩
  | n + 1 => ⟨f1, fd1, g1, k1, b1, ok_block (k := 2 * n + 4) F1 T (by omega) c__law_draw ⟨f2, fd2, g2, k2, b2, ok_some (k := 2 * n + 3) F2 T (by omega) c__law_draw c__law_item c__law_pair c__law_race c__law_plain (ok_gen F1 F2 T g1 g2 k1 k2 b1 b2 c__law_draw c__law_item c__law_pair c__law_race c__law_plain n)⟩⟩
/-- what a spec holds -/
structure SpO (K : PySem.W.Frag) (H : Hp) (sd nd pa ps l : Addr) (iv : V) (xs : List V) (wa ws : List (Key × V)) (ka ks : List (Str × PyData)) (ins : PyData) (ds : List PyData) : Prop where
  sd : H sd = some (.dK (spK nd pa ps iv (.ref l)))
  l : H l = some (.lst xs)
  dp : DpAll K H xs ds
  pa : H pa = some (.dK wa)
  ka : KvsR K H wa ka
  ps : H ps = some (.dK ws)
  ks : KvsR K H ws ks
  iv : Dp K H iv ins
def spSpec (K : PySem.W.Frag) : Sp := fun vs H Q _ => ∃ (p : Addr) (left deep : Int), vs = [.ref p, .int left, .int deep] ∧ Pl H p ∧ 0 ≤ left ∧ left ≤ 20 ∧ 0 ≤ deep ∧ deep ≤ 3 ∧
  ∀ (sd nd pa ps l : Addr) (iv : V) (xs : List V) (G : Gn) (ka ks : List (Str × PyData)) (wa ws : List (Key × V)) (ins : PyData) (ds : List PyData) H', But p H H' → Pl H' p → [p, sd, nd, pa, ps].Nodup → H nd = none → H pa = none → H ps = none → H sd = none →
    PartsV G ka ks ins → NmO H' nd G → SpO K H' sd nd pa ps l iv xs wa ws ka ks ins ds → GRows G 5 false ds → (cntL 5 ds : Int) ≤ 5 * left → (wts ds : Int) ≤ 300 * left → Q (.ref sd) H'
theorem sc__law_spec : FnScope ["_law_pool_here", "_law_left", "_law_deep", "_law_spec_here", "_law_fuel"] ["_law_pool_here", "_law_left", "_law_deep"] (defScope s__law_spec) := ⟨rfl, rfl, rfl, by decide +kernel, rfl, by decide +kernel, by decide +kernel⟩
theorem ok_spec {f : Addr} {fd : FuncData} (F : Fun K "_law_spec" "_law_spec" s__law_spec f fd) (T : Txt mg) (c__law_parts : Cal P w K mg base CX0 3 "_law_parts" ["_law_pool_here"] (spParts K)) (c__law_block : Cal P w K mg base CX0 13 "_law_block" ["_law_pool_here", "_law_names_here", "_law_fuel", "_law_depth", "_law_loop"] (spBlock K 5)) : FnOk P w K mg base CX0 14 f fd ["_law_pool_here", "_law_left", "_law_deep"] (spSpec K) := by
  refine F.ok sc__law_spec (fun vs H Q E h => ?_) (fun cdv A outer s H vs Q E hr h => ?_)
  · obtain ⟨p, left, deep, rfl, _⟩ := h
    rfl
  · obtain ⟨p, left, deep, rfl, hp, h0, h1, h2, h3, k⟩ := h
    have hu := hu_of hr
    refine ⟨_, (pss_cons (ps_set (i := 3) sc__law_spec.nd rfl (.inl rfl) (pe_cal c__law_parts (hr.mono (by omega)) rfl pass0 (pa_cons (pv 0) pa_nil)))
      (pss_cons (ps_set (i := 4) sc__law_spec.nd rfl (.inl rfl) (pe_disp (pps_cons pe_str (pv 1) (pps_cons pe_str (pv 2) pps_nil)) (by rfl) (by rfl) (fun z => by cases z) (by decide)))
      (pss_cons (ps_dput hu (pv 3) pe_str (pe_cal c__law_block (hr.mono (by omega)) rfl pass0 (pa_cons (pv 0) (pa_cons (pe_dget hu (pv 3) pe_str (fun _ _ => rfl)) (pa_cons (pv 4) (pa_cons pe_int (pa_cons pe_bl pa_nil)))))) rfl)
      (pss_cons (ps_dput hu (pv 3) pe_str (pe_op op_cat (pe_dget hu (pv 3) pe_str (fun _ _ => rfl)) (pe_cal c__law_block (hr.mono (by omega)) rfl pass0 (pa_cons (pv 0) (pa_cons (pe_dget hu (pv 3) pe_str (fun _ _ => rfl)) (pa_cons (pv 4) (pa_cons pe_int (pa_cons pe_bl pa_nil))))))) rfl)
      (pss_one (ps_ret (pv 3))))))), ?_⟩
    refine ⟨_, rfl, p, rfl, hp, fun sd nd pa ps rl iv G ka ks wa ws ins H1 but1 pl1 hnd ndH paH psH sdH pv' nm1 sd1 rl1 pa1 kr1 ps1 ks1 iv1 => ?_⟩
    have hnd' := hnd
    simp only [List.nodup_cons, List.mem_cons, List.not_mem_nil, or_false, not_or, not_false_iff, List.nodup_nil, and_true] at hnd'
    obtain ⟨⟨q1, q2, q3, q4⟩, ⟨q5, q6, q7⟩, ⟨q8, q9⟩, q10⟩ := hnd'
    intro fu hfu
    refine ⟨_, rfl, _, rfl, upd_same, [(.inr "left", .int left), (.inr "deep", .int deep)], rfl, (by show 2 ≤ 15; decide), ?_⟩
    have s2 : Same H1 (upd (upd H1 fu (.dK [])) fu (.dK (mergeK [] [(.inr "left", .int left), (.inr "deep", .int deep)]))) := disp_same hfu fun _ _ z => z
    have f2 : upd (upd H1 fu (.dK [])) fu (.dK (mergeK [] [(.inr "left", .int left), (.inr "deep", .int deep)])) fu = some (fuK left deep) := upd_same
    have fuH : H fu = none := but1.free (pl1.neN hfu) hfu
    have fsd : fu ≠ sd := fun e => by rw [e, sd1] at hfu; cases hfu
    have fpa : fu ≠ pa := fun e => by rw [e, pa1] at hfu; cases hfu
    have fps : fu ≠ ps := fun e => by rw [e, ps1] at hfu; cases hfu
    revert s2 f2
    generalize upd (upd H1 fu (.dK [])) fu _ = H2
    intro s2 f2
    have gs2 : GS H2 p nd fu G left deep := ⟨pl1.mono s2, nm1.mono s2, f2⟩
    have b2 := but1.trans (Same.but s2)
    have gv := pv'.gn
    have kp2 := s2.kp
    refine ⟨_, rfl, _, rfl, sd, _, rfl, DGet.k (k := (.inr "names" : Key)) (s2 _ _ sd1), _, rfl, p, nd, fu, G, left, deep, false, rfl, gs2, gv, h0, by omega, h3, by show (6 - ((5 : Nat) : Int)) ≤ deep + 1; omega, fun l3 xs3 A3 H3 L3 fr3 gs3 z0 z1 hl3 dp3 g3 c3 w3 => ?_⟩
    have k3 := gs2.kp fr3
    have nL : ∀ b, b ≠ p → b ≠ fu → b ∉ [p, fu] := fun b h1 h2 m => by
      rcases List.mem_cons.mp m with e | m
      · exact h1 e
      · exact h2 (List.mem_singleton.mp m)
    have sd3 := fr3 _ _ (s2 _ _ sd1) (nL _ (fun e => q1 e.symm) fsd.symm)
    have pa3 := fr3 _ _ (s2 _ _ pa1) (nL _ (fun e => q3 e.symm) fpa.symm)
    have ps3 := fr3 _ _ (s2 _ _ ps1) (nL _ (fun e => q4 e.symm) fps.symm)
    have b3 : But p H H3 := fun c o hc hn => fr3 _ _ (b2 c o hc hn) (nL _ hn fun e => by rw [e, fuH] at hc; cases hc)
    refine ⟨_, rfl, sd, _, rfl, DPut.k (k := (.inr "rows" : Key)) sd3 (lt_sz (by show 5 < 100000; decide)), ?_⟩
    rw [spK_rows]
    have sd4 : upd H3 sd (.dK (spK nd pa ps iv (.ref l3))) sd = _ := upd_same
    have k4 : Kp H3 (upd H3 sd (.dK (spK nd pa ps iv (.ref l3)))) := kp_upd sd3 rfl
    have b4 := b3.upd_new (o := .dK (spK nd pa ps iv (.ref l3))) sdH
    have gs4 : GS (upd H3 sd (.dK (spK nd pa ps iv (.ref l3)))) p nd fu G L3 deep := by
      refine ⟨gs3.pl.upd fun e => q1 e.symm, ?_, by rw [upd_ne fsd]; exact gs3.fu⟩
      obtain ⟨a1, a2, a3, a4, a5, a6, n1, n2⟩ := gs3.nm
      exact ⟨a1, a2, a3, a4, a5, a6, by rw [upd_ne (fun e => q5 e.symm)]; exact n1, n2.kp k4⟩
    have pa4 : upd H3 sd (.dK (spK nd pa ps iv (.ref l3))) pa = _ := (upd_ne (fun e => q6 e.symm)).trans pa3
    have ps4 : upd H3 sd (.dK (spK nd pa ps iv (.ref l3))) ps = _ := (upd_ne (fun e => q7 e.symm)).trans ps3
    revert sd4 k4 b4 gs4 pa4 ps4
    generalize upd H3 sd _ = H4
    intro sd4 k4 b4 gs4 pa4 ps4
    refine ⟨_, rfl, sd, _, rfl, DGet.k (k := (.inr "rows" : Key)) sd4, ?_⟩
    refine ⟨_, rfl, _, rfl, sd, _, rfl, DGet.k (k := (.inr "names" : Key)) sd4, _, rfl, p, nd, fu, G, L3, deep, false, rfl, gs4, gv, z0, by omega, h3, by show (6 - ((5 : Nat) : Int)) ≤ deep + 1; omega, fun l5 xs5 A5 H5 L5 fr5 gs5 y0 y1 hl5 dp5 g5 c5 w5 => ?_⟩
    have k5 := gs4.kp fr5
    have k35 := k4.trans k5
    have sd5 := fr5 _ _ sd4 (nL _ (fun e => q1 e.symm) fsd.symm)
    have pa5 := fr5 _ _ pa4 (nL _ (fun e => q3 e.symm) fpa.symm)
    have ps5 := fr5 _ _ ps4 (nL _ (fun e => q4 e.symm) fps.symm)
    have b5 : But p H H5 := fun c o hc hn => fr5 _ _ (b4 c o hc hn) (nL _ hn fun e => by rw [e, fuH] at hc; cases hc)
    have hx3 := dp3.len
    have hx5 := dp5.len
    have hw3 := wts_len A3
    have hw5 := wts_len A5
    refine ⟨l3, l5, _, _, rfl, rfl, k35 _ _ hl3 rfl, hl5, sz_lit (by omega), fun q hq => ?_⟩
    have s6 := Same.new (o := .lst (xs3 ++ xs5)) hq
    have l6 := at_new (o := .lst (xs3 ++ xs5)) hq
    revert s6 l6
    generalize upd H5 q _ = H6
    intro s6 l6
    have sd6 := s6 _ _ sd5
    refine ⟨_, rfl, sd, _, rfl, DPut.k (k := (.inr "rows" : Key)) sd6 (lt_sz (by show 5 < 100000; decide)), ?_⟩
    rw [spK_rows]
    have k7 : Kp H6 (upd H6 sd (.dK (spK nd pa ps iv (.ref q)))) := kp_upd sd6 rfl
    have k57 := s6.kp.trans k7
    have k37 := k35.trans k57
    have k17 := (kp2.trans k3).trans k37
    refine ⟨_, rfl, k sd nd pa ps q iv (xs3 ++ xs5) G ka ks wa ws ins (A3 ++ A5) _ ((b5.trans (Same.but s6)).upd_new sdH) ((gs5.pl.mono s6).upd fun e => q1 e.symm) hnd ndH paH psH sdH pv' ?_ ⟨upd_same, k7 _ _ l6 rfl, (DpAll.kp k37 dp3).append (DpAll.kp k57 dp5), ?_, kr1.mono k17, ?_, ks1.mono k17, iv1.kp k17⟩ (g3.app g5) ?_ ?_⟩
    · obtain ⟨a1, a2, a3, a4, a5, a6, n1, n2⟩ := gs5.nm
      exact ⟨a1, a2, a3, a4, a5, a6, by rw [upd_ne (fun e => q5 e.symm)]; exact s6 _ _ n1, n2.kp k57⟩
    · exact (upd_ne (fun e => q6 e.symm)).trans (s6 _ _ pa5)
    · exact (upd_ne (fun e => q7 e.symm)).trans (s6 _ _ ps5)
    · rw [cntL_app]
      omega
    · rw [wts_append]
      omega
end
end Op
namespace Op
open PySem L2 PyProof.Rows
section
variable {E : Env0} {c : Chk} {kind sh : Str} {parts : List PyData} {depth : Int} {lp : Bool} {rec : Bool → List PyData → List Int → Chk → Out} {pre : List Int} {i : Nat}
theorem row_ok (h1 : shapes.lookup kind = some sh) (h2 : kind ≠ "edit") (h3 : kind = "leave" → lp = true) (h4 : parts.length = sh.length) (h5 : (hasC 98 sh || hasC 116 sh) = true → depth < 5) (h6 : fitAll E sh parts = true) (h7 : idFits c kind parts = true) :
    chkRow rec E depth lp pre (.tuple (.str kind :: parts)) i c = chkIn (rec (inside lp kind)) (pre ++ [(i : Int)]) (innerL kind parts) 0 (collect { c with total := c.total + 1 } kind sh parts) := by
  have hf : fits E c (.tuple (.str kind :: parts)) depth lp = true := by
    show (match shapes.lookup kind with | none => false | some sh => fitRow E c kind parts depth lp sh) = true
    rw [h1]
    show fitRow E c kind parts depth lp sh = true
    unfold fitRow
    rw [if_neg (fun z => h2 z.1), if_neg (fun z => by have := h3 z.1; rw [this] at z; exact absurd z.2 (by decide)), if_neg (fun z => z h4), if_neg (fun z => by have := z.2; have := h5 z.1; omega), if_pos h6]
    exact h7
  show (if fits E c (.tuple (.str kind :: parts)) depth lp = true then chkIn (rec (inside lp kind)) (pre ++ [(i : Int)]) (innerL kind parts) 0 (collect { c with total := c.total + 1 } kind (shapeOf kind) parts) else .error (pre ++ [(i : Int)])) = _
  rw [if_pos hf]
  have e : shapeOf kind = sh := by unfold shapeOf; rw [h1]; rfl
  rw [e]
end
theorem id_plain {c : Chk} {kind : Str} {parts : List PyData} (h1 : kind ≠ "edit") (h2 : ¬ (kind = "gate" ∨ kind = "past")) : idFits c kind parts = true := by
  unfold idFits
  rw [if_neg h1, if_neg h2]
theorem id_gate0 {c : Chk} {kind : Str} {parts : List PyData} (h1 : kind ≠ "edit") (h2 : c.edits = []) : idFits c kind parts = true := by
  unfold idFits
  rw [if_neg h1, h2]
  split
  · rw [decide_eq_false (fun z => (List.not_mem_nil z).elim)]
    rfl
  · rfl
/-! ### parts -/
theorem pq_a {E : Env0} {d : PyData} : partFits E ⟨#[97]⟩ d = (isWord d && decide (strOf d ∈ E.asks)) := by
  unfold partFits
  rw [if_pos (by decide +kernel)]
theorem pq_g {E : Env0} {d : PyData} : partFits E ⟨#[103]⟩ d = (isWord d && decide (strOf d ∈ E.sigs)) := by
  unfold partFits
  rw [if_neg (by decide +kernel), if_pos (by decide +kernel)]
theorem pq_s {E : Env0} {d : PyData} : partFits E ⟨#[115]⟩ d = (isWord d && !decide (strOf d = "in")) := by
  unfold partFits
  rw [if_neg (by decide +kernel), if_neg (by decide +kernel), if_pos (by decide +kernel)]
theorem pq_m {E : Env0} {d : PyData} : partFits E ⟨#[109]⟩ d = areWords 3 d := by
  unfold partFits
  rw [if_neg (by decide +kernel), if_neg (by decide +kernel), if_neg (by decide +kernel), if_pos (by decide +kernel)]
theorem pq_v {E : Env0} {d : PyData} : partFits E ⟨#[118]⟩ d = areWords 3 d := by
  unfold partFits
  rw [if_neg (by decide +kernel), if_neg (by decide +kernel), if_neg (by decide +kernel), if_pos (by decide +kernel)]
theorem pq_b {E : Env0} {d : PyData} : partFits E ⟨#[98]⟩ d = isList d := by
  unfold partFits
  rw [if_neg (by decide +kernel), if_neg (by decide +kernel), if_neg (by decide +kernel), if_neg (by decide +kernel), if_pos (by decide +kernel)]
theorem pq_t {E : Env0} {d : PyData} : partFits E ⟨#[116]⟩ d = isBranches d := by
  unfold partFits
  rw [if_neg (by decide +kernel), if_neg (by decide +kernel), if_neg (by decide +kernel), if_neg (by decide +kernel), if_neg (by decide +kernel), if_pos (by decide +kernel)]
theorem pq_l {E : Env0} {d : PyData} : partFits E ⟨#[108]⟩ d = isWord d := by
  unfold partFits
  rw [if_neg (by decide +kernel), if_neg (by decide +kernel), if_neg (by decide +kernel), if_neg (by decide +kernel), if_neg (by decide +kernel), if_neg (by decide +kernel)]
theorem pq_w {E : Env0} {d : PyData} : partFits E ⟨#[119]⟩ d = isWord d := by
  unfold partFits
  rw [if_neg (by decide +kernel), if_neg (by decide +kernel), if_neg (by decide +kernel), if_neg (by decide +kernel), if_neg (by decide +kernel), if_neg (by decide +kernel)]
theorem pq_r {E : Env0} {d : PyData} : partFits E ⟨#[114]⟩ d = isWord d := by
  unfold partFits
  rw [if_neg (by decide +kernel), if_neg (by decide +kernel), if_neg (by decide +kernel), if_neg (by decide +kernel), if_neg (by decide +kernel), if_neg (by decide +kernel)]
theorem pq_i {E : Env0} {d : PyData} : partFits E ⟨#[105]⟩ d = isWord d := by
  unfold partFits
  rw [if_neg (by decide +kernel), if_neg (by decide +kernel), if_neg (by decide +kernel), if_neg (by decide +kernel), if_neg (by decide +kernel), if_neg (by decide +kernel)]
/-! ### what is collected stays within the names -/
def InS (zs xs : List Str) : Prop := xs.Nodup ∧ ∀ x ∈ xs, x ∈ zs
theorem InS.put {zs xs : List Str} {s : Str} (h : InS zs xs) (hs : s ∈ zs) : InS zs (putW xs s) := by
  unfold putW
  split
  · exact h
  · rename_i n
    refine ⟨List.nodup_append.mpr ⟨h.1, by simp, fun a ha b hb => ?_⟩, fun y hy => ?_⟩
    · rw [List.mem_singleton.mp hb]
      exact fun e => n (by rw [← e]; exact ha)
    · rcases List.mem_append.mp hy with hy | hy
      · exact h.2 y hy
      · rw [List.mem_singleton.mp hy]
        exact hs
theorem InS.fold {zs : List Str} : ∀ {ys xs : List Str}, InS zs xs → (∀ y ∈ ys, y ∈ zs) → InS zs (ys.foldl putW xs)
  | [], xs, h, _ => h
  | y :: r, xs, h, k => InS.fold (ys := r) (h.put (k y List.mem_cons_self)) fun z hz => k z (List.mem_cons_of_mem _ hz)
theorem nodup_sub : ∀ {l m : List Str}, l.Nodup → (∀ x ∈ l, x ∈ m) → l.length ≤ m.length
  | [], _, _, _ => Nat.zero_le _
  | x :: r, m, h, s => by
    obtain ⟨h1, h2⟩ := List.nodup_cons.mp h
    have hx := s x List.mem_cons_self
    have := nodup_sub (l := r) (m := m.erase x) h2 fun y hy => by
      have hne : y ≠ x := fun e => h1 (by rw [← e]; exact hy)
      exact (List.mem_erase_of_ne hne).mpr (s y (List.mem_cons_of_mem _ hy))
    rw [List.length_erase_of_mem hx] at this
    have hp := List.length_pos_of_mem hx
    rw [List.length_cons]
    omega
structure Mv (G : Gn) (c c' : Chk) (k : Nat) : Prop where
  lab : InS G.labels c.labels → InS G.labels c'.labels
  slo : InS G.slots c.slots → InS G.slots c'.slots
  gat : InS G.ids c.gates → InS G.ids c'.gates
  edi : c'.edits = c.edits
  tot : c'.total = c.total + k
theorem Mv.refl (G : Gn) (c : Chk) : Mv G c c 0 := ⟨fun z => z, fun z => z, fun z => z, rfl, by omega⟩
theorem Mv.trans {G : Gn} {a b c : Chk} {k m : Nat} (h : Mv G a b k) (h' : Mv G b c m) : Mv G a c (k + m) := ⟨fun z => h'.lab (h.lab z), fun z => h'.slo (h.slo z), fun z => h'.gat (h.gat z), h'.edi.trans h.edi, by rw [h'.tot, h.tot]; omega⟩
theorem Mv.one {G : Gn} {c c' : Chk} (h : Mv G { c with total := c.total + 1 } c' 0) : Mv G c c' 1 := ⟨h.lab, h.slo, h.gat, h.edi, by rw [h.tot]; show c.total + 1 + 0 = _; omega⟩
section
variable {G : Gn} {c : Chk} {kind : Str}
theorem mv_l {x : Str} (h : x ∈ G.labels) : Mv G c (colPart kind c ⟨#[108]⟩ (.str x)) 0 := by
  unfold colPart
  rw [if_pos (by decide +kernel)]
  exact ⟨fun z => z.put h, fun z => z, fun z => z, rfl, by show c.total = c.total + 0; omega⟩
theorem mv_m {ls : List Str} (h : ∀ l ∈ ls, l ∈ G.labels) : Mv G c (colPart kind c ⟨#[109]⟩ (.tuple (ls.map .str))) 0 := by
  unfold colPart
  rw [if_neg (by decide +kernel), if_pos (by decide +kernel)]
  refine ⟨fun z => ?_, fun z => z, fun z => z, rfl, by show c.total = c.total + 0; omega⟩
  show InS G.labels (((ls.map PyData.str).map strOf).foldl putW c.labels)
  rw [map_strOf]
  exact z.fold h
theorem mv_sr {ch : Nat} {x : Str} (hc : ch = 115 ∨ ch = 114) (h : inS G x) : Mv G c (colPart kind c ⟨#[ch]⟩ (.str x)) 0 := by
  unfold colPart
  rw [if_neg (by rcases hc with rfl | rfl <;> decide +kernel), if_neg (by rcases hc with rfl | rfl <;> decide +kernel)]
  by_cases e : x = "in"
  · rw [if_neg (fun z => z.2 e), if_neg (fun z => by rcases hc with rfl | rfl <;> exact absurd z.1 (by decide +kernel)), if_neg (by rcases hc with rfl | rfl <;> decide +kernel)]
    exact Mv.refl G c
  · rw [if_pos ⟨by rcases hc with rfl | rfl <;> decide +kernel, e⟩]
    exact ⟨fun z => z, fun z => z.put (h.elim id fun w => absurd w e), fun z => z, rfl, by show c.total = c.total + 0; omega⟩
theorem mv_i {x : Str} (hk : kind ≠ "edit") (h : x ∈ G.ids) : Mv G c (colPart kind c ⟨#[105]⟩ (.str x)) 0 := by
  unfold colPart
  rw [if_neg (by decide +kernel), if_neg (by decide +kernel), if_neg (fun z => absurd z.1 (by decide +kernel)), if_neg (fun z => hk z.2), if_pos (by decide +kernel)]
  exact ⟨fun z => z, fun z => z, fun z => z.put h, rfl, by show c.total = c.total + 0; omega⟩
theorem mv_a {d : PyData} : Mv G c (colPart kind c ⟨#[97]⟩ d) 0 := by
  unfold colPart
  rw [if_neg (by decide +kernel), if_neg (by decide +kernel), if_neg (fun z => absurd z.1 (by decide +kernel)), if_neg (fun z => absurd z.1 (by decide +kernel)), if_neg (by decide +kernel)]
  exact Mv.refl G c
theorem mv_g {d : PyData} : Mv G c (colPart kind c ⟨#[103]⟩ d) 0 := by
  unfold colPart
  rw [if_neg (by decide +kernel), if_neg (by decide +kernel), if_neg (fun z => absurd z.1 (by decide +kernel)), if_neg (fun z => absurd z.1 (by decide +kernel)), if_neg (by decide +kernel)]
  exact Mv.refl G c
theorem mv_w {d : PyData} : Mv G c (colPart kind c ⟨#[119]⟩ d) 0 := by
  unfold colPart
  rw [if_neg (by decide +kernel), if_neg (by decide +kernel), if_neg (fun z => absurd z.1 (by decide +kernel)), if_neg (fun z => absurd z.1 (by decide +kernel)), if_neg (by decide +kernel)]
  exact Mv.refl G c
theorem mv_v {d : PyData} : Mv G c (colPart kind c ⟨#[118]⟩ d) 0 := by
  unfold colPart
  rw [if_neg (by decide +kernel), if_neg (by decide +kernel), if_neg (fun z => absurd z.1 (by decide +kernel)), if_neg (fun z => absurd z.1 (by decide +kernel)), if_neg (by decide +kernel)]
  exact Mv.refl G c
theorem mv_b {d : PyData} : Mv G c (colPart kind c ⟨#[98]⟩ d) 0 := by
  unfold colPart
  rw [if_neg (by decide +kernel), if_neg (by decide +kernel), if_neg (fun z => absurd z.1 (by decide +kernel)), if_neg (fun z => absurd z.1 (by decide +kernel)), if_neg (by decide +kernel)]
  exact Mv.refl G c
theorem mv_t {d : PyData} : Mv G c (colPart kind c ⟨#[116]⟩ d) 0 := by
  unfold colPart
  rw [if_neg (by decide +kernel), if_neg (by decide +kernel), if_neg (fun z => absurd z.1 (by decide +kernel)), if_neg (fun z => absurd z.1 (by decide +kernel)), if_neg (by decide +kernel)]
  exact Mv.refl G c
end
/-- lists of rows, checked one after another -/
theorem in_ok {G : Gn} {f : List PyData → List Int → Chk → Out} {cn : List PyData → Nat} : ∀ (ls : List (List PyData)) (pre : List Int) (j : Nat) (c : Chk), c.edits = [] → (∀ a ∈ ls, ∀ pre c, c.edits = [] → ∃ c', f a pre c = .ok c' ∧ Mv G c c' (cn a)) → ∃ c', chkIn f pre (ls.map .list) j c = .ok c' ∧ Mv G c c' ((ls.map cn).sum)
  | [], pre, j, c, _, _ => ⟨c, rfl, Mv.refl G c⟩
  | a :: r, pre, j, c, he, h => by
    obtain ⟨c1, h1, m1⟩ := h a List.mem_cons_self (pre ++ [(j : Int)]) c he
    obtain ⟨c2, h2, m2⟩ := in_ok r pre (j + 1) c1 (m1.edi.trans he) fun a ha => h a (List.mem_cons_of_mem _ ha)
    refine ⟨c2, ?_, ?_⟩
    · rw [List.map_cons, chkIn_cons]
      show contR _ (f a (pre ++ [(j : Int)]) c) = _
      rw [h1]
      exact h2
    · rw [List.map_cons, List.sum_cons]
      exact m1.trans m2
structure EnvV (E : Env0) (G : Gn) : Prop where
  a : ∀ x ∈ G.asks, x ∈ E.asks
  b : ∀ x ∈ G.boxes, x ∈ E.sigs
  w : E.we = false
theorem in_not {G : Gn} (gv : GnV G) {s : Str} (h : s ∈ G.slots) : ¬ s = "in" := fun e => (gv.slots.2.2 s h).2 (by rw [e]; decide +kernel)
theorem inS_word {G : Gn} (gv : GnV G) {s : Str} (h : inS G s) : isWordS s = true := by
  rcases h with h | rfl
  · exact name_word (gv.slots.2.2 s h)
  · decide +kernel
theorem and2 {a b : Bool} (h1 : a = true) (h2 : b = true) : (a && b) = true := by rw [h1, h2]; rfl
theorem npos {G : Gn} {n : Nat} {lp : Bool} {ds : List PyData} (h : GRows G n lp ds) : 1 ≤ n := by
  cases n with
  | zero => exact h.elim
  | succ n => omega
theorem box_word {G : Gn} (gv : GnV G) {b : Str} (h : b ∈ G.boxes) : isWordS b = true := by
  rcases gv.boxes with g | g
  · exact name_word (g.2.2 b h)
  · exact name_word (g.2.2 b h)
theorem br_ok {ls : List (List PyData)} (h1 : 2 ≤ ls.length) (h2 : ls.length ≤ 3) : isBranches (.tuple (ls.map .list)) = true := by
  show (decide (2 ≤ (ls.map PyData.list).length ∧ (ls.map PyData.list).length ≤ 3) && (ls.map PyData.list).all isList) = true
  rw [List.length_map, decide_eq_true ⟨h1, h2⟩]
  exact List.all_eq_true.mpr fun x hx => by
    obtain ⟨a, _, rfl⟩ := List.mem_map.mp hx
    rfl
theorem in_same {lp : Bool} {kind : Str} (h1 : kind ≠ "both") (h2 : kind ≠ "loop") : inside lp kind = lp := by
  unfold inside
  rw [if_neg h1, decide_eq_false h2, Bool.or_false]
theorem in_loop {lp : Bool} : inside lp "loop" = true := by
  unfold inside
  rw [if_neg (by decide +kernel), decide_eq_true rfl, Bool.or_true]
theorem in_both {lp : Bool} : inside lp "both" = false := by
  unfold inside
  rw [if_pos rfl]
theorem flat_innerL {kind : Str} {ps : List PyData} (hk : kind ≠ "both") (h : ∀ x ∈ ps, isList x = false) : innerL kind ps = [] := flat_in hk h
theorem flat_cnt {rec : List PyData → Nat} {kind : Str} {ps : List PyData} (hk : kind ≠ "both") (h : ∀ x ∈ ps, isList x = false) : cntR rec (.tuple (.str kind :: ps)) = 1 := by
  unfold cntR
  rw [flat_in hk h]
  rfl
theorem grow_chk {G : Gn} (gv : GnV G) {E : Env0} (ev : EnvV E G) {n : Nat} (hn : n < 5) (ih : ∀ lp ds, GRows G n lp ds → ∀ pre c, c.edits = [] → ∃ c', chkL E n lp ds pre c = .ok c' ∧ Mv G c c' (cntL n ds)) {lp : Bool} {d : PyData} (h : GRow G (GRows G n) lp d) (pre : List Int) (i0 : Nat) (c : Chk) (he : c.edits = []) : ∃ c', chkRow (chkL E n) E (5 - (n : Int)) lp pre d i0 c = .ok c' ∧ Mv G c c' (cntR (cntL n) d) := by
  cases h with
  | @ask a l ha hl =>
    have hm : Mv G { c with total := c.total + 1 } (collect { c with total := c.total + 1 } "ask" "al" [.str a, .str l]) 0 := by
      show Mv G _ (colPart "ask" (colPart "ask" { c with total := c.total + 1 } ⟨#[97]⟩ (.str a)) ⟨#[108]⟩ (.str l)) 0
      exact (mv_a.trans (mv_l hl))
    have hf : fitAll E "al" [.str a, .str l] = true := by
      show (partFits E ⟨#[97]⟩ (.str a) && (partFits E ⟨#[108]⟩ (.str l) && true)) = true
      exact (and2 (by rw [pq_a]; show (isWordS a && decide (a ∈ E.asks)) = true; rw [name_word (gv.asks.2.2 a ha), decide_eq_true (ev.a a ha)]; rfl) (and2 (by rw [pq_l]; exact name_word (gv.labels.2.2 l hl)) rfl))
    rw [row_ok (sh := "al") (by decide +kernel) (by decide +kernel) (fun z => absurd z (by decide +kernel)) (by show 2 = _; decide +kernel) (fun z => absurd z (by decide +kernel)) hf (id_gate0 (by decide +kernel) he)]
    rw [flat_innerL (kind := "ask") (by decide +kernel) (by intro x hx; simp only [List.mem_cons, List.not_mem_nil, or_false] at hx; rcases hx with rfl | rfl <;> rfl)]
    refine ⟨_, rfl, ?_⟩
    rw [flat_cnt (kind := "ask") (by decide +kernel) (by intro x hx; simp only [List.mem_cons, List.not_mem_nil, or_false] at hx; rcases hx with rfl | rfl <;> rfl)]
    exact hm.one
  | @timer l hl =>
    have hm : Mv G { c with total := c.total + 1 } (collect { c with total := c.total + 1 } "timer" "l" [.str l]) 0 := by
      show Mv G _ (colPart "timer" { c with total := c.total + 1 } ⟨#[108]⟩ (.str l)) 0
      exact (mv_l hl)
    have hf : fitAll E "l" [.str l] = true := by
      show (partFits E ⟨#[108]⟩ (.str l) && true) = true
      exact (and2 (by rw [pq_l]; exact name_word (gv.labels.2.2 l hl)) rfl)
    rw [row_ok (sh := "l") (by decide +kernel) (by decide +kernel) (fun z => absurd z (by decide +kernel)) (by show 1 = _; decide +kernel) (fun z => absurd z (by decide +kernel)) hf (id_gate0 (by decide +kernel) he)]
    rw [flat_innerL (kind := "timer") (by decide +kernel) (by intro x hx; simp only [List.mem_cons, List.not_mem_nil, or_false] at hx; rcases hx with rfl <;> rfl)]
    refine ⟨_, rfl, ?_⟩
    rw [flat_cnt (kind := "timer") (by decide +kernel) (by intro x hx; simp only [List.mem_cons, List.not_mem_nil, or_false] at hx; rcases hx with rfl <;> rfl)]
    exact hm.one
  | @await l s hl hs =>
    have hm : Mv G { c with total := c.total + 1 } (collect { c with total := c.total + 1 } "await" "ls" [.str l, .str s]) 0 := by
      show Mv G _ (colPart "await" (colPart "await" { c with total := c.total + 1 } ⟨#[108]⟩ (.str l)) ⟨#[115]⟩ (.str s)) 0
      exact ((mv_l hl).trans (mv_sr (.inl rfl) (.inl hs)))
    have hf : fitAll E "ls" [.str l, .str s] = true := by
      show (partFits E ⟨#[108]⟩ (.str l) && (partFits E ⟨#[115]⟩ (.str s) && true)) = true
      exact (and2 (by rw [pq_l]; exact name_word (gv.labels.2.2 l hl)) (and2 (by rw [pq_s]; show (isWordS s && !decide (s = "in")) = true; rw [name_word (gv.slots.2.2 s hs), decide_eq_false (in_not gv hs)]; rfl) rfl))
    rw [row_ok (sh := "ls") (by decide +kernel) (by decide +kernel) (fun z => absurd z (by decide +kernel)) (by show 2 = _; decide +kernel) (fun z => absurd z (by decide +kernel)) hf (id_gate0 (by decide +kernel) he)]
    rw [flat_innerL (kind := "await") (by decide +kernel) (by intro x hx; simp only [List.mem_cons, List.not_mem_nil, or_false] at hx; rcases hx with rfl | rfl <;> rfl)]
    refine ⟨_, rfl, ?_⟩
    rw [flat_cnt (kind := "await") (by decide +kernel) (by intro x hx; simp only [List.mem_cons, List.not_mem_nil, or_false] at hx; rcases hx with rfl | rfl <;> rfl)]
    exact hm.one
  | @first ls s hls hnd h1 h3 hs =>
    have hm : Mv G { c with total := c.total + 1 } (collect { c with total := c.total + 1 } "first" "ms" [.tuple (ls.map .str), .str s]) 0 := by
      show Mv G _ (colPart "first" (colPart "first" { c with total := c.total + 1 } ⟨#[109]⟩ (.tuple (ls.map .str))) ⟨#[115]⟩ (.str s)) 0
      exact ((mv_m hls).trans (mv_sr (.inl rfl) (.inl hs)))
    have hf : fitAll E "ms" [.tuple (ls.map .str), .str s] = true := by
      show (partFits E ⟨#[109]⟩ (.tuple (ls.map .str)) && (partFits E ⟨#[115]⟩ (.str s) && true)) = true
      exact (and2 (by rw [pq_m]; exact words_ok h1 (by omega) hnd fun z hz => name_word (gv.labels.2.2 z (hls z hz))) (and2 (by rw [pq_s]; show (isWordS s && !decide (s = "in")) = true; rw [name_word (gv.slots.2.2 s hs), decide_eq_false (in_not gv hs)]; rfl) rfl))
    rw [row_ok (sh := "ms") (by decide +kernel) (by decide +kernel) (fun z => absurd z (by decide +kernel)) (by show 2 = _; decide +kernel) (fun z => absurd z (by decide +kernel)) hf (id_gate0 (by decide +kernel) he)]
    rw [flat_innerL (kind := "first") (by decide +kernel) (by intro x hx; simp only [List.mem_cons, List.not_mem_nil, or_false] at hx; rcases hx with rfl | rfl <;> rfl)]
    refine ⟨_, rfl, ?_⟩
    rw [flat_cnt (kind := "first") (by decide +kernel) (by intro x hx; simp only [List.mem_cons, List.not_mem_nil, or_false] at hx; rcases hx with rfl | rfl <;> rfl)]
    exact hm.one
  | @drop l hl =>
    have hm : Mv G { c with total := c.total + 1 } (collect { c with total := c.total + 1 } "drop" "l" [.str l]) 0 := by
      show Mv G _ (colPart "drop" { c with total := c.total + 1 } ⟨#[108]⟩ (.str l)) 0
      exact (mv_l hl)
    have hf : fitAll E "l" [.str l] = true := by
      show (partFits E ⟨#[108]⟩ (.str l) && true) = true
      exact (and2 (by rw [pq_l]; exact name_word (gv.labels.2.2 l hl)) rfl)
    rw [row_ok (sh := "l") (by decide +kernel) (by decide +kernel) (fun z => absurd z (by decide +kernel)) (by show 1 = _; decide +kernel) (fun z => absurd z (by decide +kernel)) hf (id_gate0 (by decide +kernel) he)]
    rw [flat_innerL (kind := "drop") (by decide +kernel) (by intro x hx; simp only [List.mem_cons, List.not_mem_nil, or_false] at hx; rcases hx with rfl <;> rfl)]
    refine ⟨_, rfl, ?_⟩
    rw [flat_cnt (kind := "drop") (by decide +kernel) (by intro x hx; simp only [List.mem_cons, List.not_mem_nil, or_false] at hx; rcases hx with rfl <;> rfl)]
    exact hm.one
  | @take b s hb hs =>
    have hm : Mv G { c with total := c.total + 1 } (collect { c with total := c.total + 1 } "take" "gs" [.str b, .str s]) 0 := by
      show Mv G _ (colPart "take" (colPart "take" { c with total := c.total + 1 } ⟨#[103]⟩ (.str b)) ⟨#[115]⟩ (.str s)) 0
      exact (mv_g.trans (mv_sr (.inl rfl) (.inl hs)))
    have hf : fitAll E "gs" [.str b, .str s] = true := by
      show (partFits E ⟨#[103]⟩ (.str b) && (partFits E ⟨#[115]⟩ (.str s) && true)) = true
      exact (and2 (by rw [pq_g]; show (isWordS b && decide (b ∈ E.sigs)) = true; rw [box_word gv hb, decide_eq_true (ev.b b hb)]; rfl) (and2 (by rw [pq_s]; show (isWordS s && !decide (s = "in")) = true; rw [name_word (gv.slots.2.2 s hs), decide_eq_false (in_not gv hs)]; rfl) rfl))
    rw [row_ok (sh := "gs") (by decide +kernel) (by decide +kernel) (fun z => absurd z (by decide +kernel)) (by show 2 = _; decide +kernel) (fun z => absurd z (by decide +kernel)) hf (id_gate0 (by decide +kernel) he)]
    rw [flat_innerL (kind := "take") (by decide +kernel) (by intro x hx; simp only [List.mem_cons, List.not_mem_nil, or_false] at hx; rcases hx with rfl | rfl <;> rfl)]
    refine ⟨_, rfl, ?_⟩
    rw [flat_cnt (kind := "take") (by decide +kernel) (by intro x hx; simp only [List.mem_cons, List.not_mem_nil, or_false] at hx; rcases hx with rfl | rfl <;> rfl)]
    exact hm.one
  | @note s ws hs hw =>
    have hm : Mv G { c with total := c.total + 1 } (collect { c with total := c.total + 1 } "note" "sv" [.str s, .tuple (ws.map .str)]) 0 := by
      show Mv G _ (colPart "note" (colPart "note" { c with total := c.total + 1 } ⟨#[115]⟩ (.str s)) ⟨#[118]⟩ (.tuple (ws.map .str))) 0
      exact ((mv_sr (.inl rfl) (.inl hs)).trans mv_v)
    have hf : fitAll E "sv" [.str s, .tuple (ws.map .str)] = true := by
      show (partFits E ⟨#[115]⟩ (.str s) && (partFits E ⟨#[118]⟩ (.tuple (ws.map .str)) && true)) = true
      exact (and2 (by rw [pq_s]; show (isWordS s && !decide (s = "in")) = true; rw [name_word (gv.slots.2.2 s hs), decide_eq_false (in_not gv hs)]; rfl) (and2 (by rw [pq_v]; exact hw) rfl))
    rw [row_ok (sh := "sv") (by decide +kernel) (by decide +kernel) (fun z => absurd z (by decide +kernel)) (by show 2 = _; decide +kernel) (fun z => absurd z (by decide +kernel)) hf (id_gate0 (by decide +kernel) he)]
    rw [flat_innerL (kind := "note") (by decide +kernel) (by intro x hx; simp only [List.mem_cons, List.not_mem_nil, or_false] at hx; rcases hx with rfl | rfl <;> rfl)]
    refine ⟨_, rfl, ?_⟩
    rw [flat_cnt (kind := "note") (by decide +kernel) (by intro x hx; simp only [List.mem_cons, List.not_mem_nil, or_false] at hx; rcases hx with rfl | rfl <;> rfl)]
    exact hm.one
  | @put s v hs hv =>
    have hm : Mv G { c with total := c.total + 1 } (collect { c with total := c.total + 1 } "put" "sw" [.str s, .str v]) 0 := by
      show Mv G _ (colPart "put" (colPart "put" { c with total := c.total + 1 } ⟨#[115]⟩ (.str s)) ⟨#[119]⟩ (.str v)) 0
      exact ((mv_sr (.inl rfl) (.inl hs)).trans mv_w)
    have hf : fitAll E "sw" [.str s, .str v] = true := by
      show (partFits E ⟨#[115]⟩ (.str s) && (partFits E ⟨#[119]⟩ (.str v) && true)) = true
      exact (and2 (by rw [pq_s]; show (isWordS s && !decide (s = "in")) = true; rw [name_word (gv.slots.2.2 s hs), decide_eq_false (in_not gv hs)]; rfl) (and2 (by rw [pq_w]; exact hv) rfl))
    rw [row_ok (sh := "sw") (by decide +kernel) (by decide +kernel) (fun z => absurd z (by decide +kernel)) (by show 2 = _; decide +kernel) (fun z => absurd z (by decide +kernel)) hf (id_gate0 (by decide +kernel) he)]
    rw [flat_innerL (kind := "put") (by decide +kernel) (by intro x hx; simp only [List.mem_cons, List.not_mem_nil, or_false] at hx; rcases hx with rfl | rfl <;> rfl)]
    refine ⟨_, rfl, ?_⟩
    rw [flat_cnt (kind := "put") (by decide +kernel) (by intro x hx; simp only [List.mem_cons, List.not_mem_nil, or_false] at hx; rcases hx with rfl | rfl <;> rfl)]
    exact hm.one
  | @fin r hr =>
    have hm : Mv G { c with total := c.total + 1 } (collect { c with total := c.total + 1 } "end" "r" [.str r]) 0 := by
      show Mv G _ (colPart "end" { c with total := c.total + 1 } ⟨#[114]⟩ (.str r)) 0
      exact (mv_sr (.inr rfl) hr)
    have hf : fitAll E "r" [.str r] = true := by
      show (partFits E ⟨#[114]⟩ (.str r) && true) = true
      exact (and2 (by rw [pq_r]; exact inS_word gv hr) rfl)
    rw [row_ok (sh := "r") (by decide +kernel) (by decide +kernel) (fun z => absurd z (by decide +kernel)) (by show 1 = _; decide +kernel) (fun z => absurd z (by decide +kernel)) hf (id_gate0 (by decide +kernel) he)]
    rw [flat_innerL (kind := "end") (by decide +kernel) (by intro x hx; simp only [List.mem_cons, List.not_mem_nil, or_false] at hx; rcases hx with rfl <;> rfl)]
    refine ⟨_, rfl, ?_⟩
    rw [flat_cnt (kind := "end") (by decide +kernel) (by intro x hx; simp only [List.mem_cons, List.not_mem_nil, or_false] at hx; rcases hx with rfl <;> rfl)]
    exact hm.one
  | @anew r hr =>
    have hm : Mv G { c with total := c.total + 1 } (collect { c with total := c.total + 1 } "anew" "r" [.str r]) 0 := by
      show Mv G _ (colPart "anew" { c with total := c.total + 1 } ⟨#[114]⟩ (.str r)) 0
      exact (mv_sr (.inr rfl) hr)
    have hf : fitAll E "r" [.str r] = true := by
      show (partFits E ⟨#[114]⟩ (.str r) && true) = true
      exact (and2 (by rw [pq_r]; exact inS_word gv hr) rfl)
    rw [row_ok (sh := "r") (by decide +kernel) (by decide +kernel) (fun z => absurd z (by decide +kernel)) (by show 1 = _; decide +kernel) (fun z => absurd z (by decide +kernel)) hf (id_gate0 (by decide +kernel) he)]
    rw [flat_innerL (kind := "anew") (by decide +kernel) (by intro x hx; simp only [List.mem_cons, List.not_mem_nil, or_false] at hx; rcases hx with rfl <;> rfl)]
    refine ⟨_, rfl, ?_⟩
    rw [flat_cnt (kind := "anew") (by decide +kernel) (by intro x hx; simp only [List.mem_cons, List.not_mem_nil, or_false] at hx; rcases hx with rfl <;> rfl)]
    exact hm.one
  | leave hlp =>
    have hm : Mv G { c with total := c.total + 1 } (collect { c with total := c.total + 1 } "leave" "" []) 0 := by
      show Mv G _ { c with total := c.total + 1 } 0
      exact (Mv.refl G _)
    have hf : fitAll E "" [] = true := by
      show true = true
      exact rfl
    rw [row_ok (sh := "") (by decide +kernel) (by decide +kernel) (fun _ => hlp) (by show 0 = _; decide +kernel) (fun z => absurd z (by decide +kernel)) hf (id_gate0 (by decide +kernel) he)]
    rw [flat_innerL (kind := "leave") (by decide +kernel) (by intro x hx; cases hx)]
    refine ⟨_, rfl, ?_⟩
    rw [flat_cnt (kind := "leave") (by decide +kernel) (by intro x hx; cases hx)]
    exact hm.one
  | @cond r v a b hr hv ga gb =>
    have hm : Mv G { c with total := c.total + 1 } (collect { c with total := c.total + 1 } "if" "rwbb" [.str r, .str v, .list a, .list b]) 0 := by
      show Mv G _ (colPart "if" (colPart "if" (colPart "if" (colPart "if" { c with total := c.total + 1 } ⟨#[114]⟩ (.str r)) ⟨#[119]⟩ (.str v)) ⟨#[98]⟩ (.list a)) ⟨#[98]⟩ (.list b)) 0
      exact ((((mv_sr (.inr rfl) hr).trans mv_w).trans mv_b).trans mv_b)
    have hf : fitAll E "rwbb" [.str r, .str v, .list a, .list b] = true := by
      show (partFits E ⟨#[114]⟩ (.str r) && (partFits E ⟨#[119]⟩ (.str v) && (partFits E ⟨#[98]⟩ (.list a) && (partFits E ⟨#[98]⟩ (.list b) && true)))) = true
      exact (and2 (by rw [pq_r]; exact inS_word gv hr) (and2 (by rw [pq_w]; exact hv) (and2 (by rw [pq_b]; rfl) (and2 (by rw [pq_b]; rfl) rfl))))
    have hn1 : 1 ≤ n := npos ga
    rw [row_ok (sh := "rwbb") (by decide +kernel) (by decide +kernel) (fun z => absurd z (by decide +kernel)) (by show 4 = _; decide +kernel) (fun _ => by omega) hf (id_gate0 (by decide +kernel) he)]
    rw [show innerL "if" [.str r, .str v, .list a, .list b] = ([a, b] : List (List PyData)).map .list by unfold innerL; rw [if_neg (by decide +kernel)]; rfl, in_same (by decide +kernel) (by decide +kernel)]
    obtain ⟨c2, h2, m2⟩ := in_ok (G := G) (f := chkL E n lp) (cn := cntL n) [a, b] (pre ++ [(i0 : Int)]) 0 (collect { c with total := c.total + 1 } "if" "rwbb" [.str r, .str v, .list a, .list b]) (hm.edi.trans he) (fun x hx => by
      simp only [List.mem_cons, List.not_mem_nil, or_false] at hx
      rcases hx with rfl | rfl
      · exact ih lp _ ga
      · exact ih lp _ gb)
    refine ⟨c2, h2, ?_⟩
    rw [cntR2 (by decide +kernel) rfl]
    have := hm.one.trans m2
    simpa [List.sum_cons] using this
  | @loop a ga =>
    have hm : Mv G { c with total := c.total + 1 } (collect { c with total := c.total + 1 } "loop" "b" [.list a]) 0 := by
      show Mv G _ (colPart "loop" { c with total := c.total + 1 } ⟨#[98]⟩ (.list a)) 0
      exact mv_b
    have hf : fitAll E "b" [.list a] = true := by
      show (partFits E ⟨#[98]⟩ (.list a) && true) = true
      exact (and2 (by rw [pq_b]; rfl) rfl)
    have hn1 : 1 ≤ n := npos ga
    rw [row_ok (sh := "b") (by decide +kernel) (by decide +kernel) (fun z => absurd z (by decide +kernel)) (by show 1 = _; decide +kernel) (fun _ => by omega) hf (id_gate0 (by decide +kernel) he)]
    rw [show innerL "loop" [.list a] = ([a] : List (List PyData)).map .list by unfold innerL; rw [if_neg (by decide +kernel)]; rfl, in_loop]
    obtain ⟨c2, h2, m2⟩ := in_ok (G := G) (f := chkL E n true) (cn := cntL n) [a] (pre ++ [(i0 : Int)]) 0 (collect { c with total := c.total + 1 } "loop" "b" [.list a]) (hm.edi.trans he) (fun x hx => by
      simp only [List.mem_cons, List.not_mem_nil, or_false] at hx
      rcases hx with rfl
      · exact ih true _ ga)
    refine ⟨c2, h2, ?_⟩
    rw [cntR1 (by decide +kernel) rfl]
    have := hm.one.trans m2
    simpa [List.sum_cons] using this
  | @part a ga =>
    have hm : Mv G { c with total := c.total + 1 } (collect { c with total := c.total + 1 } "part" "b" [.list a]) 0 := by
      show Mv G _ (colPart "part" { c with total := c.total + 1 } ⟨#[98]⟩ (.list a)) 0
      exact mv_b
    have hf : fitAll E "b" [.list a] = true := by
      show (partFits E ⟨#[98]⟩ (.list a) && true) = true
      exact (and2 (by rw [pq_b]; rfl) rfl)
    have hn1 : 1 ≤ n := npos ga
    rw [row_ok (sh := "b") (by decide +kernel) (by decide +kernel) (fun z => absurd z (by decide +kernel)) (by show 1 = _; decide +kernel) (fun _ => by omega) hf (id_gate0 (by decide +kernel) he)]
    rw [show innerL "part" [.list a] = ([a] : List (List PyData)).map .list by unfold innerL; rw [if_neg (by decide +kernel)]; rfl, in_same (by decide +kernel) (by decide +kernel)]
    obtain ⟨c2, h2, m2⟩ := in_ok (G := G) (f := chkL E n lp) (cn := cntL n) [a] (pre ++ [(i0 : Int)]) 0 (collect { c with total := c.total + 1 } "part" "b" [.list a]) (hm.edi.trans he) (fun x hx => by
      simp only [List.mem_cons, List.not_mem_nil, or_false] at hx
      rcases hx with rfl
      · exact ih lp _ ga)
    refine ⟨c2, h2, ?_⟩
    rw [cntR1 (by decide +kernel) rfl]
    have := hm.one.trans m2
    simpa [List.sum_cons] using this
  | @both ls h1 h2 hls =>
    have hm : Mv G { c with total := c.total + 1 } (collect { c with total := c.total + 1 } "both" "t" [.tuple (ls.map .list)]) 0 := by
      show Mv G _ (colPart "both" { c with total := c.total + 1 } ⟨#[116]⟩ (.tuple (ls.map .list))) 0
      exact mv_t
    have hf : fitAll E "t" [.tuple (ls.map .list)] = true := by
      show (partFits E ⟨#[116]⟩ (.tuple (ls.map .list)) && true) = true
      exact (and2 (by rw [pq_t]; exact br_ok h1 h2) rfl)
    obtain ⟨x0, hx0⟩ : ∃ x0, x0 ∈ ls := by
      cases ls with
      | nil => exact absurd h1 (by decide)
      | cons x r => exact ⟨x, List.mem_cons_self⟩
    have hn1 : 1 ≤ n := npos (hls x0 hx0)
    rw [row_ok (sh := "t") (by decide +kernel) (by decide +kernel) (fun z => absurd z (by decide +kernel)) (by show 1 = _; decide +kernel) (fun _ => by omega) hf (id_gate0 (by decide +kernel) he)]
    rw [show innerL "both" [.tuple (ls.map .list)] = ls.map .list by unfold innerL; rw [if_pos rfl], in_both]
    obtain ⟨c2, h2', m2⟩ := in_ok (G := G) (f := chkL E n false) (cn := cntL n) ls (pre ++ [(i0 : Int)]) 0 (collect { c with total := c.total + 1 } "both" "t" [.tuple (ls.map .list)]) (hm.edi.trans he) (fun x hx => ih false x (hls x hx))
    refine ⟨c2, h2', ?_⟩
    have e : cntR (cntL n) (.tuple [.str "both", .tuple (ls.map .list)]) = 1 + (ls.map (cntL n)).sum := by
      show 1 + ((innerL "both" [.tuple (ls.map .list)]).map fun x => cntL n (listOf x)).sum = _
      unfold innerL
      rw [if_pos rfl]
      show 1 + ((ls.map PyData.list).map fun x => cntL n (listOf x)).sum = _
      rw [List.map_map]
      rfl
    rw [e]
    exact hm.one.trans m2
  | @gate i a b hi ga gb =>
    have hm : Mv G { c with total := c.total + 1 } (collect { c with total := c.total + 1 } "gate" "ibb" [.str i, .list a, .list b]) 0 := by
      show Mv G _ (colPart "gate" (colPart "gate" (colPart "gate" { c with total := c.total + 1 } ⟨#[105]⟩ (.str i)) ⟨#[98]⟩ (.list a)) ⟨#[98]⟩ (.list b)) 0
      exact (((mv_i (by decide +kernel) hi).trans mv_b).trans mv_b)
    have hf : fitAll E "ibb" [.str i, .list a, .list b] = true := by
      show (partFits E ⟨#[105]⟩ (.str i) && (partFits E ⟨#[98]⟩ (.list a) && (partFits E ⟨#[98]⟩ (.list b) && true))) = true
      exact (and2 (by rw [pq_i]; exact name_word (gv.ids.2.2 i hi)) (and2 (by rw [pq_b]; rfl) (and2 (by rw [pq_b]; rfl) rfl)))
    have hn1 : 1 ≤ n := npos ga
    rw [row_ok (sh := "ibb") (by decide +kernel) (by decide +kernel) (fun z => absurd z (by decide +kernel)) (by show 3 = _; decide +kernel) (fun _ => by omega) hf (id_gate0 (by decide +kernel) he)]
    rw [show innerL "gate" [.str i, .list a, .list b] = ([a, b] : List (List PyData)).map .list by unfold innerL; rw [if_neg (by decide +kernel)]; rfl, in_same (by decide +kernel) (by decide +kernel)]
    obtain ⟨c2, h2, m2⟩ := in_ok (G := G) (f := chkL E n lp) (cn := cntL n) [a, b] (pre ++ [(i0 : Int)]) 0 (collect { c with total := c.total + 1 } "gate" "ibb" [.str i, .list a, .list b]) (hm.edi.trans he) (fun x hx => by
      simp only [List.mem_cons, List.not_mem_nil, or_false] at hx
      rcases hx with rfl | rfl
      · exact ih lp _ ga
      · exact ih lp _ gb)
    refine ⟨c2, h2, ?_⟩
    rw [cntR2 (by decide +kernel) rfl]
    have := hm.one.trans m2
    simpa [List.sum_cons] using this
  | @past i a hi ga =>
    have hm : Mv G { c with total := c.total + 1 } (collect { c with total := c.total + 1 } "past" "ib" [.str i, .list a]) 0 := by
      show Mv G _ (colPart "past" (colPart "past" { c with total := c.total + 1 } ⟨#[105]⟩ (.str i)) ⟨#[98]⟩ (.list a)) 0
      exact ((mv_i (by decide +kernel) hi).trans mv_b)
    have hf : fitAll E "ib" [.str i, .list a] = true := by
      show (partFits E ⟨#[105]⟩ (.str i) && (partFits E ⟨#[98]⟩ (.list a) && true)) = true
      exact (and2 (by rw [pq_i]; exact name_word (gv.ids.2.2 i hi)) (and2 (by rw [pq_b]; rfl) rfl))
    have hn1 : 1 ≤ n := npos ga
    rw [row_ok (sh := "ib") (by decide +kernel) (by decide +kernel) (fun z => absurd z (by decide +kernel)) (by show 2 = _; decide +kernel) (fun _ => by omega) hf (id_gate0 (by decide +kernel) he)]
    rw [show innerL "past" [.str i, .list a] = ([a] : List (List PyData)).map .list by unfold innerL; rw [if_neg (by decide +kernel)]; rfl, in_same (by decide +kernel) (by decide +kernel)]
    obtain ⟨c2, h2, m2⟩ := in_ok (G := G) (f := chkL E n lp) (cn := cntL n) [a] (pre ++ [(i0 : Int)]) 0 (collect { c with total := c.total + 1 } "past" "ib" [.str i, .list a]) (hm.edi.trans he) (fun x hx => by
      simp only [List.mem_cons, List.not_mem_nil, or_false] at hx
      rcases hx with rfl
      · exact ih lp _ ga)
    refine ⟨c2, h2, ?_⟩
    rw [cntR1 (by decide +kernel) rfl]
    have := hm.one.trans m2
    simpa [List.sum_cons] using this
theorem gen_chk {G : Gn} (gv : GnV G) {E : Env0} (ev : EnvV E G) : ∀ (n : Nat), n ≤ 5 → ∀ (lp : Bool) (ds : List PyData), GRows G n lp ds → ∀ (pre : List Int) (c : Chk), c.edits = [] → ∃ c', chkL E n lp ds pre c = .ok c' ∧ Mv G c c' (cntL n ds)
  | 0, _, _, _, h => h.elim
  | n + 1, hn, lp, ds, h => by
    have key : ∀ (l : List PyData) (i : Nat) (pre : List Int) (c : Chk), (∀ d ∈ l, GRow G (GRows G n) lp d) → c.edits = [] → ∃ c', chkRows (chkRow (chkL E n) E (5 - (n : Int)) lp pre) l i c = .ok c' ∧ Mv G c c' ((l.map (cntR (cntL n))).sum) := by
      intro l
      induction l with
      | nil => intro i pre c _ _; exact ⟨c, rfl, Mv.refl G c⟩
      | cons d r ih =>
        intro i pre c hl he
        obtain ⟨c1, h1, m1⟩ := grow_chk gv ev (by omega) (fun lp ds hd => gen_chk gv ev n (by omega) lp ds hd) (hl d List.mem_cons_self) pre i c he
        obtain ⟨c2, h2, m2⟩ := ih (i + 1) pre c1 (fun d hd => hl d (List.mem_cons_of_mem _ hd)) (m1.edi.trans he)
        refine ⟨c2, ?_, ?_⟩
        · rw [chkRows_cons]
          rw [h1]
          exact h2
        · rw [List.map_cons, List.sum_cons]
          exact m1.trans m2
    exact fun pre c he => key ds 0 pre c h he
end Op
namespace Op
open PySem L2 PyProof.Rows
section
variable {P : Program} {w : World} {K : PySem.W.Frag} {mg : Str → Option Value} {base : Heap}
theorem sc__law_lists : FnScope ["_law_row", "_law_part"] ["_law_row"] (defScope s__law_lists) := ⟨rfl, rfl, rfl, by decide +kernel, rfl, by decide +kernel, by decide +kernel⟩
theorem ok_lists {f : Addr} {fd : FuncData} (F : Fun K "_law_lists" "_law_lists" s__law_lists f fd) (T : Txt mg) : FnOk P w K mg base CX0 1 f fd ["_law_row"] (spInnerG K) := by
  refine F.ok sc__law_lists (fun vs H Q E h => ?_) (fun cdv A outer s H vs Q E hr h => ?_)
  · obtain ⟨G, t, kind, parts, rfl, _⟩ := h
    rfl
  · obtain ⟨G, t, kind, parts, rfl, hG, hd, hpl, hb, k⟩ := h
    cases hd with
    | @tup _ xs _ hq ha =>
    cases ha with
    | @cons v0 vr d0 dr h0 hr0 =>
    cases h0 with
    | str kind =>
    have hqG := hq
    replace hq := hq.mono hG
    have hvl := hr0.len
    unfold innerL at k
    refine ⟨_, (pss_cons (ps_if (pt_cmpR op_eq (pe_ix ix_tup (pv 0) pe_int (fun _ _ => rfl)) pe_str (nomark _)) (pss_one (ps_ret (pe_callTy call_list_of (by rfl) T.b_list (by decide +kernel) (pa_cons (pe_ix ix_tup (pv 0) pe_int (fun _ _ => rfl)) pa_nil)))) pss_nil)
      (pss_one (ps_ret (pe_lc (own := [("_law_part", 1)]) (g := gName 1)  rfl sc__law_lists.nd (pi_tup (pv 0)) (blkOk_by (own := [("_law_part", 1)]) (N := ["_law_row", "_law_part"]) (sc := defScope s__law_lists) (by decide +kernel)) (fun _ _ _ _ _ => (pg_name (i := 1) sc__law_lists.nd rfl (.inl rfl))) (fun _ _ _ _ _ => (pts_one (pt_val (pe_callB (id := "isinstance") (r := rIsi K) call_isi (by rfl) T.b_isinstance (by decide +kernel) (pa_cons (pv 1) (pa_cons (pe_bltn (v := .ty "list") (by rfl) T.b_list (by decide +kernel) rfl) pa_nil)))))) (fun _ _ _ _ _ => (pv 1)))))), ?_⟩
    refine ⟨_, rfl, t, _, 0, _, rfl, rfl, hq, atI_zero _ _, rfl, _, rfl, ?_⟩
    rw [dec_strV]
    by_cases e1 : kind = "both"
    · rw [if_pos e1] at k
      obtain ⟨ds, r, rfl⟩ := hb e1
      cases hr0 with
      | @cons v1 vs1 d1 dr1 h1 hr1 =>
      cases h1 with
      | @tup q ws _ hqw haw =>
      refine ifT (decide_eq_true e1) ⟨_, rfl, t, _, 1, _, rfl, rfl, hq, atI_one _ _ _, q, ws, rfl, .inr (hqw.mono hG), fun l hl => ?_⟩
      exact k l ws _ (Same.new hl) hl upd_same haw
    · rw [if_neg e1] at k
      refine ifF (decide_eq_false e1) ⟨_, rfl, t, rfl, ⟨_, hq⟩, fun D hD => ?_⟩
      refine lc_it (walk_tup (xs := .str kind :: vr)) (fun i H' => ∃ acc, H' D = some (.lst acc) ∧ acc.length ≤ i ∧ DpAll K G acc (((.str kind :: parts).take i).filter isList) ∧ Same H H') ⟨[], upd_same, Nat.le_refl _, .nil, Same.new hD⟩ (fun i H' _ p => hq.mono (let ⟨_, _, _, _, s⟩ := p; s)) ?_ ?_
      · rintro i x H1 H2 hi ⟨acc, hacc, hal, hdp, sm⟩ ⟨rfl, hx⟩
        obtain ⟨d, hd1, hd2⟩ := DpAll.get (.cons (.str kind) hr0) hx
        refine ⟨rfl, _, rfl, x, _, _, _, _, rfl, .ty _, ty_dp ((hd2.mono hG).mono sm), kit_list d, _, rfl, ?_⟩
        have hi' : i < 2000 := by rw [List.length_cons] at hi; omega
        have e2 : ((.str kind :: parts).take (i + 1)).filter isList = ((.str kind :: parts).take i).filter isList ++ [d].filter isList := by
          rw [TS.take_one hd1, List.filter_append]
        by_cases q : isList d = true
        · rw [q]
          refine ifT rfl ⟨_, rfl, acc, hacc, lt_sz (by omega), acc ++ [x], upd_same, by rw [List.length_append]; show acc.length + 1 ≤ _; omega, ?_, fun b o hb => ?_⟩
          · rw [e2, List.filter_cons_of_pos q, List.filter_nil]
            exact hdp.append (.cons hd2 .nil)
          · rw [upd_ne (ne_of_none hb hD)]
            exact sm b o hb
        · rw [Bool.eq_false_iff.mpr q]
          refine ifF rfl ⟨acc, hacc, by omega, ?_, sm⟩
          rw [e2, List.filter_cons_of_neg (by rw [Bool.eq_false_iff.mpr q]; exact Bool.false_ne_true), List.filter_nil, List.append_nil]
          exact hdp
      · rintro H1 ⟨acc, hacc, _, hdp, sm⟩
        refine k D acc H1 sm hD hacc ?_
        rw [List.take_of_length_le (by rw [List.length_cons, List.length_cons]; omega)] at hdp
        exact hdp
end
end Op
namespace Op
open PySem L2 PyProof.Rows
theorem str_assoc (a b c : Str) : a ++ b ++ c = a ++ (b ++ c) := by
  show Str.mk (a.cps ++ b.cps ++ c.cps) = Str.mk (a.cps ++ (b.cps ++ c.cps))
  rw [Array.append_assoc]
theorem jn_eq (ws : List Str) : jn ws = Str.join " " ws := StrLaws.glued_eq_join " " ws
theorem jn_cons {x : Str} {ys : List Str} (h : ys ≠ []) : jn (x :: ys) = x ++ (" " ++ jn ys) := by
  rw [jn_eq, jn_eq]
  cases ys with
  | nil => exact absurd rfl h
  | cons y r => 
    show x ++ " " ++ Str.join " " (y :: r) = _
    rw [str_assoc]
theorem jn_one (x : Str) : jn [x] = x := by
  rw [jn_eq]
  rfl
theorem jn_snoc {s : Str} : ∀ {ls : List Str}, ls ≠ [] → jn (ls ++ [s]) = jn ls ++ (" " ++ s)
  | [], h => absurd rfl h
  | [x], _ => by
    show jn (x :: [s]) = _
    rw [jn_cons (by simp), jn_one, jn_one]
  | x :: y :: r, _ => by
    have ih := jn_snoc (s := s) (ls := y :: r) (by simp)
    show jn (x :: ((y :: r) ++ [s])) = _
    rw [jn_cons (by simp), ih, jn_cons (x := x) (ys := y :: r) (by simp), str_assoc, str_assoc]
theorem line_first {m s : Str} {ls : List Str} (h : ls ≠ []) : m ++ "first " ++ jn ls ++ " " ++ s = m ++ jn ("first" :: (ls ++ [s])) := by
  rw [jn_cons (by simp), jn_snoc h, str_assoc, str_assoc, str_assoc, show (("first " : Str)) = "first" ++ " " by decide +kernel, str_assoc]
theorem line_note {m s : Str} {ws : List Str} (h : ws ≠ []) : m ++ "note " ++ s ++ " " ++ jn ws = m ++ jn ("note" :: s :: ws) := by
  rw [jn_cons (by simp), jn_cons h, str_assoc, str_assoc, str_assoc, show (("note " : Str)) = "note" ++ " " by decide +kernel, str_assoc]
/-! ### rows with lists, in one form -/
def tailL (blk : Nat → List PyData → List Str) (lv : Nat) (kind : Str) : List (List PyData) → List Str
  | [] => []
  | [a] => blk (lv + 1) a
  | a :: b :: _ => blk (lv + 1) a ++ ((mar lv ++ (if kind = "gate" then ("old" : Str) else "else")) :: blk (lv + 1) b)
structure ElseK (R : List PyData → Prop) (kind : Str) (ps : List PyData) (ws : List Str) (ls : List (List PyData)) : Prop where
  n1 : ¬ kind = "first"
  n2 : ¬ kind = "note"
  n3 : ¬ kind = "both"
  str : (((.str kind :: ps).filter isStr).map strOf) = ws
  inn : innerL kind ps = ls.map .list
  len : ls.length ≤ 2
  rs : ∀ a ∈ ls, R a
  w1 : ws.length ≤ 10
  w2 : ∀ z ∈ ws, z.length ≤ 20
  row : ∀ blk lv, rowL blk lv kind ps = (mar lv ++ jn ws) :: tailL blk lv kind ls
theorem filt_strs : ∀ zs : List Str, ((zs.map PyData.str).filter isStr).map strOf = zs
  | [] => rfl
  | z :: r => by
    show z :: ((r.map PyData.str).filter isStr).map strOf = _
    rw [filt_strs r]
theorem inn_strs {kind : Str} {zs : List Str} (h : kind ≠ "both") : innerL kind (zs.map .str) = [] := by
  unfold innerL
  rw [if_neg h]
  exact List.filter_eq_nil_iff.mpr fun x hx => by
    obtain ⟨z, _, rfl⟩ := List.mem_map.mp hx
    exact Bool.false_ne_true
theorem else_of {R : List PyData → Prop} {kind : Str} {ps : List PyData} (h : RowK R kind ps) (n1 : ¬ kind = "first") (n2 : ¬ kind = "note") (n3 : ¬ kind = "both") : ∃ ws ls, ElseK R kind ps ws ls := by
  cases h with
  | first _ _ _ => exact absurd rfl n1
  | note _ _ _ => exact absurd rfl n2
  | both _ _ => exact absurd rfl n3
  | @cond r v a b h1 h2 h3 h4 =>
    refine ⟨["if", r, v], [a, b], n1, n2, n3, rfl, by unfold innerL; rw [if_neg n3]; rfl, Nat.le_refl _, two_mem h3 h4, by show 3 ≤ 10; decide, cons20 (by decide +kernel) (cons20 (w20 h1) (cons20 (w20 h2) nil20)), fun blk lv => ?_⟩
    rw [rowL_if]
    show _ = (mar lv ++ jn ["if", r, v]) :: (blk (lv + 1) a ++ ((mar lv ++ (if ("if" : Str) = "gate" then ("old" : Str) else "else")) :: blk (lv + 1) b))
    rw [if_neg (by decide +kernel)]
    rfl
  | @gate i a b h1 h3 h4 =>
    refine ⟨["gate", i], [a, b], n1, n2, n3, rfl, by unfold innerL; rw [if_neg n3]; rfl, Nat.le_refl _, two_mem h3 h4, by show 2 ≤ 10; decide, cons20 (by decide +kernel) (cons20 (w20 h1) nil20), fun blk lv => ?_⟩
    rw [rowL_gate]
    show _ = (mar lv ++ jn ["gate", i]) :: (blk (lv + 1) a ++ ((mar lv ++ (if ("gate" : Str) = "gate" then ("old" : Str) else "else")) :: blk (lv + 1) b))
    rw [if_pos rfl]
    rfl
  | @loop a h3 =>
    refine ⟨["loop"], [a], n1, n2, n3, rfl, by unfold innerL; rw [if_neg n3]; rfl, by show 1 ≤ 2; decide, fun x hx => by rw [List.mem_singleton.mp hx]; exact h3, by show 1 ≤ 10; decide, cons20 (by decide +kernel) nil20, fun blk lv => ?_⟩
    rw [rowL_loop (.inl rfl), jn_one]
    rfl
  | @part a h3 =>
    refine ⟨["part"], [a], n1, n2, n3, rfl, by unfold innerL; rw [if_neg n3]; rfl, by show 1 ≤ 2; decide, fun x hx => by rw [List.mem_singleton.mp hx]; exact h3, by show 1 ≤ 10; decide, cons20 (by decide +kernel) nil20, fun blk lv => ?_⟩
    rw [rowL_loop (.inr rfl), jn_one]
    rfl
  | @past i a h1 h3 =>
    refine ⟨["past", i], [a], n1, n2, n3, rfl, by unfold innerL; rw [if_neg n3]; rfl, by show 1 ≤ 2; decide, fun x hx => by rw [List.mem_singleton.mp hx]; exact h3, by show 2 ≤ 10; decide, cons20 (by decide +kernel) (cons20 (w20 h1) nil20), fun blk lv => ?_⟩
    rw [rowL_past]
    rfl
  | @plain _ zs hk h1 h2 =>
    refine ⟨kind :: zs, [], n1, n2, n3, ?_, inn_strs n3, by decide, fun x hx => (List.not_mem_nil hx).elim, by rw [List.length_cons]; omega, cons20 (plain_ne hk).2.2.2.2.2.2.2.2 (mem20 h2), fun blk lv => ?_⟩
    · show kind :: ((zs.map PyData.str).filter isStr).map strOf = _
      rw [filt_strs]
    · rw [rowL_plain hk]
      rfl
end Op
namespace Op
open PySem L2 PyProof.Rows
theorem wts_sub {a : List PyData} {ps : List PyData} (h : PyData.list a ∈ ps) : wts a ≤ wts ps := by
  have := wts_mem h
  rw [wt_list] at this
  omega
theorem inner_of {R : List PyData → Prop} {kind : Str} {ps : List PyData} (h : RowK R kind ps) : ∃ ls : List (List PyData), innerL kind ps = ls.map .list ∧ ls.length ≤ 3 ∧ ∀ a ∈ ls, R a ∧ wts a ≤ wts ps := by
  by_cases n3 : kind = "both"
  · cases h with
    | @both ls h1 h2 =>
      refine ⟨ls.map listOf, ?_, by rw [List.length_map]; exact h1, fun a ha => ?_⟩
      · show (if ("both" : Str) = "both" then _ else _) = _
        rw [if_pos rfl, List.map_map]
        show ls = _
        refine (List.map_id ls).symm.trans (List.map_congr_left fun x hx => ?_)
        have := (h2 x hx).1
        cases x with
        | list d => rfl
        | _ => cases this
      · obtain ⟨x, hx, rfl⟩ := List.mem_map.mp ha
        have hL := (h2 x hx).1
        cases x with
        | list d =>
          refine ⟨(h2 _ hx).2, ?_⟩
          have := wts_sub hx
          rw [wts_cons, wt_tuple]
          show wts d ≤ _
          omega
        | _ => cases hL
    | plain hk _ _ => exact absurd n3 (plain_ne hk).2.2.2.2.2.2.2.1
    | _ => exact absurd n3 (by decide +kernel)
  · have key : ∀ a, PyData.list a ∈ innerL kind ps → wts a ≤ wts ps := fun a ha => by
      unfold innerL at ha
      rw [if_neg n3] at ha
      exact wts_sub (List.mem_filter.mp ha).1
    by_cases n1 : kind = "first"
    · cases h with
      | first _ _ _ => exact ⟨[], by unfold innerL; rw [if_neg n3]; rfl, by decide, fun a ha => (List.not_mem_nil ha).elim⟩
      | plain hk _ _ => exact absurd n1 (plain_ne hk).1
      | _ => exact absurd n1 (by decide +kernel)
    by_cases n2 : kind = "note"
    · cases h with
      | note _ _ _ => exact ⟨[], by unfold innerL; rw [if_neg n3]; rfl, by decide, fun a ha => (List.not_mem_nil ha).elim⟩
      | plain hk _ _ => exact absurd n2 (plain_ne hk).2.1
      | _ => exact absurd n2 (by decide +kernel)
    obtain ⟨ws, ls, E⟩ := else_of h n1 n2 n3
    refine ⟨ls, E.inn, Nat.le_trans E.len (by decide), fun a ha => ⟨E.rs a ha, key a ?_⟩⟩
    rw [E.inn]
    exact List.mem_map.mpr ⟨a, ha, rfl⟩
theorem gName_i {i : Nat} {v : V} {σ : L2.St} {H : Hp} {Q : L2.St → Hp → Prop} (h : Q (σ.set i (some v)) H) : gName i v σ H Q := h
theorem lists_inj : ∀ {a b : List (List PyData)}, a.map PyData.list = b.map PyData.list → a = b
  | [], [], _ => rfl
  | [], _ :: _, h => by cases h
  | _ :: _, [], h => by cases h
  | x :: r, y :: t, h => by
    injection h with h1 h2
    injection h1 with h1
    rw [h1, lists_inj h2]
theorem rk_len {R : List PyData → Prop} {kind : Str} {ps : List PyData} (h : RowK R kind ps) : ps.length ≤ 4 := by
  cases h with
  | plain _ h1 _ => rw [List.length_map]; omega
  | _ => exact Nat.le_of_ble_eq_true rfl
theorem ne_of_words {E : Env0} {ch : Nat} {zs : List Str} (h : partFits E ⟨#[ch]⟩ (.tuple (zs.map .str)) = true) (n : ch = 109 ∨ ch = 118) : zs ≠ [] := by
  have h3 : areWords 3 (.tuple (zs.map .str)) = true := by
    rcases n with rfl | rfl
    · unfold partFits at h
      rw [if_neg (by decide +kernel), if_neg (by decide +kernel), if_neg (by decide +kernel), if_pos (by decide +kernel)] at h
      exact h
    · unfold partFits at h
      rw [if_neg (by decide +kernel), if_neg (by decide +kernel), if_neg (by decide +kernel), if_pos (by decide +kernel)] at h
      exact h
  have := (of_decide_eq_true (Bool.and_eq_true_iff.mp h3).1).1
  rw [List.length_map] at this
  intro e
  rw [e] at this
  exact absurd this (by decide)
theorem rowF_first {R : List PyData → Prop} {zs : List Str} {s : Str} (h : rowF R (.tuple [.str "first", .tuple (zs.map .str), .str s])) : zs ≠ [] := by
  obtain ⟨E, kind, sh, ps, e, _, hs, hF, _⟩ := h
  injection e with e
  injection e with e1 e2
  injection e1 with e1
  subst e1
  subst e2
  rw [show shapes.lookup ("first" : Str) = some "ms" by decide +kernel] at hs
  obtain rfl := Option.some.inj hs
  obtain ⟨x, y, e, hx, _⟩ := fit2 (a := 109) (b := 115) hF
  injection e with e1 _
  subst e1
  exact ne_of_words hx (.inl rfl)
theorem rowF_note {R : List PyData → Prop} {zs : List Str} {s : Str} (h : rowF R (.tuple [.str "note", .str s, .tuple (zs.map .str)])) : zs ≠ [] := by
  obtain ⟨E, kind, sh, ps, e, _, hs, hF, _⟩ := h
  injection e with e
  injection e with e1 e2
  injection e1 with e1
  subst e1
  subst e2
  rw [show shapes.lookup ("note" : Str) = some "sv" by decide +kernel] at hs
  obtain rfl := Option.some.inj hs
  obtain ⟨x, y, e, _, hy⟩ := fit2 (a := 115) (b := 118) hF
  injection e with _ e2
  injection e2 with e2 _
  subst e2
  exact ne_of_words hy (.inr rfl)
/-- refs to lists of lines, all new since G -/
structure Lns (N : Addr → Prop) (H : Hp) (f : List PyData → List Str) (xs : List V) (ls : List (List PyData)) : Prop where
  len : xs.length = ls.length
  at' : ∀ (j : Nat) (a : List PyData), ls[j]? = some a → ∃ p, xs[j]? = some (.ref p) ∧ N p ∧ H p = some (.lst ((f a).map V.str))
theorem Lns.mono {N : Addr → Prop} {H H' : Hp} {f : List PyData → List Str} {xs : List V} {ls : List (List PyData)} (h : Lns N H f xs ls) (s : ∀ p o, N p → H p = some o → H' p = some o) : Lns N H' f xs ls := ⟨h.len, fun j a ha => by
  obtain ⟨p, h1, h2, h3⟩ := h.at' j a ha
  exact ⟨p, h1, h2, s _ _ h2 h3⟩⟩
theorem Lns.snoc {N : Addr → Prop} {H : Hp} {f : List PyData → List Str} {xs : List V} {ls : List (List PyData)} (h : Lns N H f xs ls) {p : Addr} {a : List PyData} (h1 : N p) (h2 : H p = some (.lst ((f a).map V.str))) : Lns N H f (xs ++ [.ref p]) (ls ++ [a]) := ⟨by rw [List.length_append, List.length_append, h.len]; rfl, fun j b hb => by
  rcases Nat.lt_or_ge j ls.length with hj | hj
  · rw [List.getElem?_append_left hj] at hb
    rw [List.getElem?_append_left (by rw [h.len]; exact hj)]
    exact h.at' j b hb
  · rw [List.getElem?_append_right hj] at hb
    rw [List.getElem?_append_right (by rw [h.len]; exact hj), h.len]
    cases q : j - ls.length with
    | zero =>
      rw [q] at hb
      obtain rfl : a = b := Option.some.inj hb
      exact ⟨p, rfl, h1, h2⟩
    | succ m => rw [q] at hb; cases hb⟩
section
variable {P : Program} {w : World} {K : PySem.W.Frag} {mg : Str → Option Value} {base : Heap}
theorem sc__law_lines : FnScope ["_law_rows", "_law_level", "_law_found", "_law_row", "_law_margin", "_law_part", "_law_lists_here"] ["_law_rows", "_law_level"] (defScope s__law_lines) := ⟨rfl, rfl, rfl, by decide +kernel, rfl, by decide +kernel, by decide +kernel⟩
theorem ok_llines {f : Addr} {fd : FuncData} {k n : Nat} (F : Fun K "_law_lines" "_law_lines" s__law_lines f fd) (T : Txt mg) (c__law_lists : Cal P w K mg base CX0 1 "_law_lists" ["_law_row"] (spInnerG K)) (c__law_lines : Cal P w K mg base CX0 (k + 1) "_law_lines" ["_law_rows", "_law_level"] (spBlk K n)) : FnOk P w K mg base CX0 (k + 2) f fd ["_law_rows", "_law_level"] (spBlk K (n + 1)) := by
  refine F.ok sc__law_lines (fun vs H Q E h => ?_) (fun cdv A outer s H vs Q E hr h => ?_)
  · obtain ⟨v, lv, ds, rfl, _⟩ := h
    rfl
  · obtain ⟨v, lv, ds, rfl, hd, hF, hlv, hw, kk⟩ := h
    refine ⟨_, (pss_cons (ps_set (i := 2) sc__law_lines.nd rfl (.inl rfl) (pe_lst pa_nil))
      (pss_cons (ps_for PassesOwn.never rfl (pi_list (pv 0)) (pg_name (i := 3) sc__law_lines.nd rfl (.inl rfl)) (pss_cons (ps_set (i := 4) sc__law_lines.nd rfl (.inl rfl) (pe_op op_mulS pe_str (pv 1)))
      (pss_cons (ps_setLc (i := 6) (own := [("_law_part", 5)]) (g := gName 5) (tt := tYes) rfl sc__law_lines.nd rfl rfl (sw_true rfl rfl rfl (by decide +kernel)) (pi_list (pe_cal c__law_lists (hr.mono (by omega)) rfl pass0 (pa_cons (pv 3) pa_nil))) (blkOk_by (own := [("_law_part", 5)]) (N := ["_law_rows", "_law_level", "_law_found", "_law_row", "_law_margin", "_law_part", "_law_lists_here"]) (sc := defScope s__law_lines) (by decide +kernel)) (fun _ _ _ _ _ => (pg_name (i := 5) sc__law_lines.nd rfl (.inl rfl))) (fun _ _ _ _ _ => pts_nil) (fun _ _ _ _ _ => (pe_cal c__law_lines (hr.mono (by omega)) rfl pass0 (pa_cons (pv 5) (pa_cons (pe_op op_add (pv 1) pe_int) pa_nil)))))
      (pss_one (ps_if (pt_cmpR op_eq (pe_ix ix_tup (pv 3) pe_int (fun _ _ => rfl)) pe_str (nomark _)) (pss_one (ps_expr (pe_bm PySem.F.plainAttrs_list PySem.F.slot_list_append PySem.F.type_list_append mt_append (pv 2) (pa_cons (pe_op op_add_str (pe_op op_add_str (pe_op op_add_str (pe_op op_add_str (pv 4) pe_str) (pe_join pe_str (pe_callTy call_list_of (by rfl) T.b_list (by decide +kernel) (pa_cons (pe_ix ix_tup (pv 3) pe_int (fun _ _ => rfl)) pa_nil)))) pe_str) (pe_ix ix_tup (pv 3) pe_int (fun _ _ => rfl))) pa_nil)))) (pss_one (ps_if (pt_cmpR op_eq (pe_ix ix_tup (pv 3) pe_int (fun _ _ => rfl)) pe_str (nomark _)) (pss_one (ps_expr (pe_bm PySem.F.plainAttrs_list PySem.F.slot_list_append PySem.F.type_list_append mt_append (pv 2) (pa_cons (pe_op op_add_str (pe_op op_add_str (pe_op op_add_str (pe_op op_add_str (pv 4) pe_str) (pe_ix ix_tup (pv 3) pe_int (fun _ _ => rfl))) pe_str) (pe_join pe_str (pe_callTy call_list_of (by rfl) T.b_list (by decide +kernel) (pa_cons (pe_ix ix_tup (pv 3) pe_int (fun _ _ => rfl)) pa_nil)))) pa_nil)))) (pss_one (ps_if (pt_cmpR op_eq (pe_ix ix_tup (pv 3) pe_int (fun _ _ => rfl)) pe_str (nomark _)) (pss_cons (ps_expr (pe_bm PySem.F.plainAttrs_list PySem.F.slot_list_append PySem.F.type_list_append mt_append (pv 2) (pa_cons (pe_op op_add_str (pv 4) pe_str) pa_nil)))
      (pss_one (ps_for PassesOwn.never rfl (pi_tup (pe_ix ix_tup (pv 3) pe_int (fun _ _ => rfl))) (pg_name (i := 5) sc__law_lines.nd rfl (.inl rfl)) (pss_one (ps_set (i := 2) sc__law_lines.nd rfl (.inl rfl) (pe_op op_cat (pe_op op_cat (pv 2) (pe_lst (pa_cons (pe_op op_add_str (pv 4) pe_str) pa_nil))) (pe_cal c__law_lines (hr.mono (by omega)) rfl pass0 (pa_cons (pv 5) (pa_cons (pe_op op_add (pv 1) pe_int) pa_nil))))))))) (pss_cons (ps_expr (pe_bm PySem.F.plainAttrs_list PySem.F.slot_list_append PySem.F.type_list_append mt_append (pv 2) (pa_cons (pe_op op_add_str (pv 4) (pe_join pe_str (pe_lc (own := [("_law_part", 5)]) (g := gName 5)  rfl sc__law_lines.nd (pi_tup (pv 3)) (blkOk_by (own := [("_law_part", 5)]) (N := ["_law_rows", "_law_level", "_law_found", "_law_row", "_law_margin", "_law_part", "_law_lists_here"]) (sc := defScope s__law_lines) (by decide +kernel)) (fun _ _ _ _ _ => (pg_name (i := 5) sc__law_lines.nd rfl (.inl rfl))) (fun _ _ _ _ _ => (pts_one (pt_val (pe_callB (id := "isinstance") (r := rIsi K) call_isi (by rfl) T.b_isinstance (by decide +kernel) (pa_cons (pv 5) (pa_cons (pe_bltn (v := .ty "str") (by rfl) T.b_str (by decide +kernel) rfl) pa_nil)))))) (fun _ _ _ _ _ => (pv 5))))) pa_nil)))
      (pss_cons (ps_if (pt_cmpR op_gt (pe_callB call_len_seq (by rfl) T.b_len (by decide +kernel) (pa_cons (pv 6) pa_nil)) pe_int (nomark _)) (pss_one (ps_set (i := 2) sc__law_lines.nd rfl (.inl rfl) (pe_op op_cat (pv 2) (pe_ix ix_list (pv 6) pe_int (fun _ _ => rfl))))) pss_nil)
      (pss_one (ps_if (pt_cmpR op_gt (pe_callB call_len_seq (by rfl) T.b_len (by decide +kernel) (pa_cons (pv 6) pa_nil)) pe_int (nomark _)) (pss_one (ps_set (i := 2) sc__law_lines.nd rfl (.inl rfl) (pe_op op_cat (pe_op op_cat (pv 2) (pe_lst (pa_cons (pe_op op_add_str (pv 4) (pe_ix ix_list (pe_lst (pa_cons pe_str (pa_cons pe_str pa_nil))) (pe_callTy call_int1 (by rfl) T.b_int (by decide +kernel) (pa_cons (pe_cmpR op_eq (pe_ix ix_tup (pv 3) pe_int (fun _ _ => rfl)) pe_str (nomark _)) pa_nil)) (fun _ _ => rfl))) pa_nil))) (pe_ix ix_list (pv 6) pe_int (fun _ _ => rfl))))) pss_nil)))))))))))))
      (pss_one (ps_ret (pv 2))))), ?_⟩
    cases hd with
    | @lst rws xs _ hq ha =>
    have hxl := ha.len
    have hdl := wts_len ds
    have hml := mar_len lv (by omega)
    refine ⟨sz_lit (by show 0 ≤ 100000; decide), fun l hl => ?_⟩
    have s1 := Same.new (o := .lst []) hl
    have l1 := at_new (o := .lst []) hl
    revert s1 l1
    generalize upd H l _ = H1
    intro s1 l1
    refine ⟨_, rfl, rws, rfl, ⟨_, hq.mono s1⟩, ?_⟩
    refine for_it (walk_list (xs := xs)) (fun i σ H' => (∃ (y3 y4 y5 y6 : Option V) (fo : Addr), σ = [some (.ref rws), some (.int (lv : Int)), some (.ref fo), y3, y4, y5, y6] ∧ H fo = none ∧ H' fo = some (.lst ((rowsT (blkL n) lv (ds.take i)).map V.str))) ∧ Same H H' ∧ (rowsT (blkL n) lv (ds.take i)).length ≤ wts (ds.take i)) ⟨⟨_, _, _, _, l, rfl, hl, l1⟩, s1, Nat.zero_le _⟩ (fun i σ H' _ p => hq.mono p.2.1) ?_ ?_
    · rintro i x σ H2 H3 hi ⟨⟨y3, y4, y5, y6, fo, rfl, hfo, hl2⟩, sm, hlen⟩ ⟨rfl, hx⟩
      obtain ⟨d, hd1, hdx⟩ := ha.get hx
      obtain ⟨kind, ps, rfl, hk⟩ := rowK_of (hF d (List.mem_of_getElem? hd1))
      have hwd := wts_mem (List.mem_of_getElem? hd1)
      rw [wt_tuple, wts_cons] at hwd
      have hRok := rowL_ok (blk := blkL n) (lv := lv) (fun lv' ds hl' hd => blk_ok n lv' ds (by omega) hd) (by omega) hk
      have htk : wts (ds.take (i + 1)) = wts (ds.take i) + wt (.tuple (.str kind :: ps)) := by rw [TS.take_one hd1, wts_append, wts_cons, wts_nil]; omega
      have htl := wts_take_le (i + 1) ds
      rw [wt_tuple, wts_cons] at htk
      have hR1 := hRok.1
      rw [wts_cons] at hR1
      have hpl := rk_len hk
      have fin : ∀ (y4 y5 y6 : Option V) (fo' : Addr) (H4 : Hp), H fo' = none → H4 fo' = some (.lst ((rowsT (blkL n) lv (ds.take i) ++ rowL (blkL n) lv kind ps).map V.str)) → Same H H4 → (∃ (y3 y4' y5' y6' : Option V) (fo : Addr), [some (.ref rws), some (.int (lv : Int)), some (.ref fo'), some x, y4, y5, y6] = [some (.ref rws), some (.int (lv : Int)), some (.ref fo), y3, y4', y5', y6'] ∧ H fo = none ∧ H4 fo = some (.lst ((rowsT (blkL n) lv (ds.take (i + 1))).map V.str))) ∧ Same H H4 ∧ (rowsT (blkL n) lv (ds.take (i + 1))).length ≤ wts (ds.take (i + 1)) := fun y4 y5 y6 fo' H4 h1 h2 h3 => by
        have e : rowsT (blkL n) lv (ds.take (i + 1)) = rowsT (blkL n) lv (ds.take i) ++ rowL (blkL n) lv kind ps := by
          rw [TS.take_one hd1, rowsT_app]
          show _ ++ (rowL (blkL n) lv kind ps ++ []) = _
          rw [List.append_nil]
        refine ⟨⟨_, _, _, _, fo', rfl, h1, by rw [e]; exact h2⟩, h3, ?_⟩
        rw [e, List.length_append, htk]
        omega
      have hdx2 := hdx.mono sm
      cases hdx with
      | @tup t vs _ hqt hvt =>
      cases hvt with
      | @cons v0 vr _ _ h0 hr0 =>
      cases h0
      obtain ⟨ls, hin, hll, hls⟩ := inner_of hk
      refine ⟨_, rfl, "  ", lv, rfl, rfl, by omega, by omega, by decide +kernel, _, rfl, H, t, kind, ps, rfl, sm, .tup hqt (.cons (.str kind) hr0), by omega, ?_, ?_⟩
      · intro e
        subst e
        cases hk with
        | both _ _ => exact ⟨_, _, rfl⟩
        | plain hk _ _ => exact absurd rfl (plain_ne hk).2.2.2.2.2.2.2.1
      intro pI ys HI sI fI lI hI
      rw [hin] at hI
      have hyl := hI.len
      rw [List.length_map] at hyl
      have fon : ∀ {p : Addr}, H3 p = none → p ≠ fo := fun {p} hp e => by rw [e, hl2] at hp; cases hp
      refine ⟨pI, rfl, ⟨_, .inl (.inl lI)⟩, fun D hD => ?_⟩
      refine lc_it (walk_list (xs := ys)) (fun j H' => ∃ acc, H' D = some (.lst acc) ∧ Lns (fun p => HI p = none ∧ p ≠ D) H' (blkL n (lv + 1)) acc (ls.take j) ∧ Same HI H') ⟨[], upd_same, ⟨rfl, fun j a ha => by cases ha⟩, Same.new hD⟩ (fun j H' _ p => let ⟨_, _, _, s⟩ := p; .inl (.inl (s _ _ lI))) ?_ ?_
      · rintro j y H4 H5 hj ⟨acc, hacc, hL, sm4⟩ ⟨rfl, hy⟩
        obtain ⟨d, hdj, hdy⟩ := hI.get hy
        obtain ⟨a, haj, rfl⟩ : ∃ a, ls[j]? = some a ∧ PyData.list a = d := by
          rw [List.getElem?_map] at hdj
          cases q : ls[j]? with
          | none => rw [q] at hdj; cases hdj
          | some a => rw [q] at hdj; exact ⟨a, rfl, Option.some.inj hdj⟩
        have ham := hls a (List.mem_of_getElem? haj)
        refine ⟨rfl, ?_⟩
        unfold tYes
        refine ifT rfl ⟨_, rfl, _, rfl, _, _, rfl, rfl, y, lv + 1, a, rfl, ((hdy.mono sm).mono sI).mono sm4, ham.1, by omega, by omega, fun p5 H6 s6 f6 l6 => ?_⟩
        have hal : acc.length = j := by rw [hL.len, List.length_take]; have := (List.getElem?_eq_some_iff.mp haj).1; omega
        refine ⟨acc, s6 _ _ hacc, lt_sz (by omega), _, upd_same, ?_, fun b o hb => ?_⟩
        · rw [TS.take_one haj]
          have nD : p5 ≠ D := fun e => by rw [e, hacc] at f6; cases f6
          exact (hL.mono fun p o hp ho => by rw [upd_ne hp.2]; exact s6 _ _ ho).snoc ⟨sm4.free f6, nD⟩ (by rw [upd_ne nD]; exact l6)
        · rw [upd_ne (ne_of_none hb hD)]
          exact s6 _ _ (sm4 b o hb)
      · rintro H4 ⟨acc, hacc, hL, sm4⟩
        rw [List.take_of_length_le (by omega)] at hL
        have sm5 : Same H3 H4 := sI.trans sm4
        have hlD : D ≠ fo := fon (sI.free hD)
        have hl4 := sm5 _ _ hl2
        have sm6 := sm.trans sm5
        have hq4 := hqt.mono sm6
        have put : ∀ (H5 : Hp) (ys : List V), Same H H5 → Same H (upd H5 fo (.lst ys)) := fun H5 ys s b o hb => by rw [upd_ne (ne_of_none hb hfo)]; exact s b o hb
        refine gName_i ?_
        refine ⟨_, rfl, t, _, 0, _, rfl, rfl, hq4, atI_zero _ _, rfl, _, rfl, ?_⟩
        rw [dec_strV]
        by_cases n1 : kind = "first"
        · refine ifT (decide_eq_true n1) ?_
          subst n1
          cases hk with
          | plain hk _ _ => exact absurd rfl (plain_ne hk).1
          | @first zs s0 h1 h2 h3 =>
          cases hr0 with
          | @cons v1 r1 _ _ g1 hr1 =>
          cases hr1 with
          | @cons v2 r2 _ _ g2 hr2 =>
          cases hr2
          cases g2
          cases g1 with
          | @tup t1 ws _ hq1 hw1 =>
          obtain rfl := strs_dp hw1
          have hne := rowF_first (hF _ (List.mem_of_getElem? hd1))
          have hz1 : zs.length ≤ 10 := by omega
          have hjl := jn_len hz1 (mem20 h2)
          have hs0 := w20 h3
          have e6 : ("first " : Str).length = 6 := by decide +kernel
          have e1 : (" " : Str).length = 1 := by decide +kernel
          refine ⟨_, rfl, .inl ⟨rfl, _, .inl (.inl hl4)⟩, _, rfl, mar lv, "first ", rfl, rfl, sz_lit (by omega), ⟨_, rfl⟩, _, rfl, t, _, 1, _, rfl, rfl, hq4, atI_one _ _ _, t1, _, rfl, .inr (hq1.mono sm6), fun l hl => ?_⟩
          refine ⟨" ", l, zs, rfl, rfl, .inl (.inl (.inl upd_same)), jn_fits hz1 (mem20 h2), mar lv ++ "first ", jn zs, rfl, rfl, sz_lit (by rw [Str.length_append]; omega), _, " ", rfl, rfl, sz_lit (by rw [Str.length_append, Str.length_append]; omega), _, rfl, t, _, 2, _, rfl, rfl, hq4.mono (Same.new hl), rfl, _, s0, rfl, rfl, sz_lit (by rw [Str.length_append, Str.length_append, Str.length_append]; omega), fo, _, _, rfl, rfl, Same.new hl _ _ hl4, lt_sz (by rw [List.length_map]; omega), ?_⟩
          refine fin _ _ _ fo _ hfo ?_ (put _ _ (sm6.trans (Same.new hl)))
          rw [upd_same, List.map_append, rowL_first, line_first hne]
          rfl
        refine ifF (decide_eq_false n1) ⟨_, rfl, t, _, 0, _, rfl, rfl, hq4, atI_zero _ _, rfl, _, rfl, ?_⟩
        rw [dec_strV]
        by_cases n2 : kind = "note"
        · refine ifT (decide_eq_true n2) ?_
          subst n2
          cases hk with
          | plain hk _ _ => exact absurd rfl (plain_ne hk).2.1
          | @note zs s0 h1 h2 h3 =>
          cases hr0 with
          | @cons v1 r1 _ _ g1 hr1 =>
          cases hr1 with
          | @cons v2 r2 _ _ g2 hr2 =>
          cases hr2
          cases g1
          cases g2 with
          | @tup t1 ws _ hq1 hw1 =>
          obtain rfl := strs_dp hw1
          have hne := rowF_note (hF _ (List.mem_of_getElem? hd1))
          have hz1 : zs.length ≤ 10 := by omega
          have hjl := jn_len hz1 (mem20 h2)
          have hs0 := w20 h3
          have e6 : ("note " : Str).length = 5 := by decide +kernel
          have e1 : (" " : Str).length = 1 := by decide +kernel
          refine ⟨_, rfl, .inl ⟨rfl, _, .inl (.inl hl4)⟩, _, rfl, mar lv, "note ", rfl, rfl, sz_lit (by omega), _, rfl, t, _, 1, _, rfl, rfl, hq4, atI_one _ _ _, _, s0, rfl, rfl, sz_lit (by rw [Str.length_append]; omega), _, " ", rfl, rfl, sz_lit (by rw [Str.length_append, Str.length_append]; omega), ⟨_, rfl⟩, _, rfl, t, _, 2, _, rfl, rfl, hq4, rfl, t1, _, rfl, .inr (hq1.mono sm6), fun l hl => ?_⟩
          refine ⟨" ", l, zs, rfl, rfl, .inl (.inl (.inl upd_same)), jn_fits hz1 (mem20 h2), _, jn zs, rfl, rfl, sz_lit (by rw [Str.length_append, Str.length_append, Str.length_append]; omega), fo, _, _, rfl, rfl, Same.new hl _ _ hl4, lt_sz (by rw [List.length_map]; omega), ?_⟩
          refine fin _ _ _ fo _ hfo ?_ (put _ _ (sm6.trans (Same.new hl)))
          rw [upd_same, List.map_append, rowL_note, line_note hne]
          rfl
        refine ifF (decide_eq_false n2) ⟨_, rfl, t, _, 0, _, rfl, rfl, hq4, atI_zero _ _, rfl, _, rfl, ?_⟩
        rw [dec_strV]
        by_cases n3 : kind = "both"
        · refine ifT (decide_eq_true n3) ?_
          subst n3
          cases hk with
          | plain hk _ _ => exact absurd rfl (plain_ne hk).2.2.2.2.2.2.2.1
          | @both ls3 h1 h2 =>
          cases hr0 with
          | @cons v1 r1 _ _ g1 hr1 =>
          cases hr1
          cases g1 with
          | @tup t1 ws _ hqw hw1 =>
          rw [wts_cons, wts_nil, wt_tuple] at hwd
          have hwl := hw1.len
          have hso := fun m : Nat => side_ok (blk := blkL n) (lv := lv) (fun lv' ds hl' hd => blk_ok n lv' ds (by omega) hd) (by omega) (ls3.take m) (fun x hx => h2 x (List.mem_of_mem_take hx))
          refine ⟨_, rfl, .inl ⟨rfl, _, .inl (.inl hl4)⟩, _, rfl, mar lv, "both", rfl, rfl, sz_lit (by show _ + 4 ≤ _; omega), fo, _, _, rfl, rfl, hl4, lt_sz (by rw [List.length_map]; omega), ?_⟩
          have sA := put H4 ((rowsT (blkL n) lv (ds.take i)).map V.str ++ [.str (mar lv ++ "both")]) sm6
          have lA : upd H4 fo (.lst ((rowsT (blkL n) lv (ds.take i)).map V.str ++ [.str (mar lv ++ "both")])) fo = some (.lst ((rowsT (blkL n) lv (ds.take i) ++ ((mar lv ++ "both") :: sideL (blkL n) lv (ls3.take 0))).map V.str)) := by
            rw [upd_same, List.map_append]
            rfl
          revert sA lA
          generalize upd H4 fo _ = HA
          intro sA lA
          refine ⟨_, rfl, t, _, 1, _, rfl, rfl, hqt.mono sA, atI_one _ _ _, t1, rfl, ⟨_, hqw.mono sA⟩, ?_⟩
          refine for_it (walk_tup (xs := ws)) (fun j σ H' => (∃ (y5 : Option V) (q : Addr), σ = [some (.ref rws), some (.int (lv : Int)), some (.ref q), some (.ref t), some (.str (mar lv)), y5, some (.ref D)] ∧ H q = none ∧ H' q = some (.lst ((rowsT (blkL n) lv (ds.take i) ++ ((mar lv ++ "both") :: sideL (blkL n) lv (ls3.take j))).map V.str))) ∧ Same H H') ⟨⟨_, fo, rfl, hfo, lA⟩, sA⟩ (fun i σ H' _ p => hqw.mono p.2) ?_ ?_
          · rintro j x σ H2 H3 hi ⟨⟨y5, q, rfl, hqn, hq2⟩, sm⟩ ⟨rfl, hx⟩
            obtain ⟨d, hd1, hdx⟩ := hw1.get hx
            obtain ⟨hil, hrd⟩ := h2 d (List.mem_of_getElem? hd1)
            obtain ⟨dl, rfl⟩ : ∃ dl, d = .list dl := by
              cases d with
              | list dl => exact ⟨dl, rfl⟩
              | _ => cases hil
            have hmem := wts_mem (List.mem_of_getElem? hd1)
            rw [wt_list] at hmem
            have hrd : rowsF n dl := hrd
            have b1 := (blk_ok n (lv + 2) dl (by omega) hrd).1
            have b2 := (hso j).1
            have b3 := wts_take_le j ls3
            have b4 := wts_take_le i ds
            refine ⟨_, rfl, _, rfl, mar lv, "  side", rfl, rfl, sz_lit (by show _ + 6 ≤ _; omega), sz1 _, fun q3 hq3 => ?_⟩
            refine ⟨q, q3, _, _, rfl, rfl, Same.new hq3 _ _ hq2, upd_same, sz_lit (by rw [List.length_map, List.length_append, List.length_cons]; show _ + (_ + 1) + 1 ≤ _; omega), fun q4 hq4 => ?_⟩
            have sD := (Same.new (o := .lst [.str (mar lv ++ "  side")]) hq3).trans (Same.new (o := .lst ((rowsT (blkL n) lv (ds.take i) ++ ((mar lv ++ "both") :: sideL (blkL n) lv (ls3.take j))).map V.str ++ [.str (mar lv ++ "  side")])) hq4)
            have lD := at_new (o := .lst ((rowsT (blkL n) lv (ds.take i) ++ ((mar lv ++ "both") :: sideL (blkL n) lv (ls3.take j))).map V.str ++ [.str (mar lv ++ "  side")])) hq4
            revert sD lD
            generalize upd (upd _ q3 _) q4 _ = HD
            intro sD lD
            refine ⟨_, rfl, _, rfl, _, _, rfl, rfl, x, lv + 2, dl, rfl, (hdx.mono sm).mono sD, hrd, by omega, by omega, fun pE HE sE fE lE => ?_⟩
            refine ⟨q4, pE, _, _, rfl, rfl, sE _ _ lD, lE, sz_lit (by rw [List.length_append, List.length_map, List.length_map, List.length_append, List.length_cons]; show _ + (_ + 1) + 1 + _ ≤ _; omega), fun q5 hq5 => ?_⟩
            refine ⟨⟨_, q5, rfl, sm.free (sD.free (sE.free hq5)), ?_⟩, sm.trans (sD.trans (sE.trans (Same.new hq5)))⟩
            rw [upd_same, TS.take_one hd1, sideL_app, ← List.cons_append, ← List.append_assoc, List.map_append (l₁ := _ ++ _), List.append_assoc]
            show _ = some (HO.lst (_ ++ List.map V.str ((mar lv ++ "  side") :: (blkL n (lv + 2) dl ++ []))))
            rw [List.append_nil]
            rfl
          · rintro σ H2 ⟨⟨y5, q, rfl, hqn, hq2⟩, sm⟩
            rw [List.take_of_length_le (l := ls3) (by omega)] at hq2
            exact fin _ _ _ q _ hqn (by rw [rowL_both]; exact hq2) sm
        refine ifF (decide_eq_false n3) ?_
        obtain ⟨ws, ls', EK⟩ := else_of hk n1 n2 n3
        obtain rfl : ls' = ls := lists_inj (EK.inn.symm.trans hin)
        have hpv := hr0.len
        refine ⟨_, rfl, .inl ⟨rfl, _, .inl (.inl hl4)⟩, _, rfl, ⟨_, rfl⟩, _, rfl, t, rfl, ⟨_, hq4⟩, fun E2 hE2 => ?_⟩
        refine lc_it (walk_tup (xs := .str kind :: vr)) (fun j H' => H' E2 = some (.lst (((((.str kind :: ps).take j).filter isStr).map strOf).map V.str)) ∧ Same H4 H') ⟨upd_same, Same.new hE2⟩ (fun j H' _ p => hq4.mono p.2) ?_ ?_
        · rintro j y H5 H6 hj ⟨hacc, sm5⟩ ⟨rfl, hy⟩
          obtain ⟨d, hdj, hdy⟩ := DpAll.get (.cons (.str kind) hr0) hy
          refine ⟨rfl, _, rfl, y, _, _, _, _, rfl, .ty _, ty_dp ((hdy.mono sm6).mono sm5), kit_str d, _, rfl, ?_⟩
          have hjl : j < 6 := by rw [List.length_cons] at hj; omega
          by_cases q : isStr d = true
          · rw [q]
            cases d with
            | str z =>
              cases hdy
              refine ifT rfl ⟨_, rfl, _, hacc, lt_sz (by rw [List.length_map, List.length_map]; exact Nat.lt_of_le_of_lt (Nat.le_trans (List.length_filter_le _ _) (by rw [List.length_take]; exact Nat.min_le_left _ _)) (by omega)), ?_, fun b o hb => ?_⟩
              · rw [upd_same, TS.take_one hdj, List.filter_append, List.map_append, List.map_append]
                rfl
              · rw [upd_ne (ne_of_none hb hE2)]
                exact sm5 b o hb
            | _ => cases q
          · rw [Bool.eq_false_iff.mpr q]
            refine ifF rfl ⟨?_, sm5⟩
            rw [TS.take_one hdj, List.filter_append, List.filter_cons_of_neg (by rw [Bool.eq_false_iff.mpr q]; exact Bool.false_ne_true), List.filter_nil, List.append_nil]
            exact hacc
        · rintro H5 ⟨hacc5, sm5⟩
          rw [List.take_of_length_le (by rw [List.length_cons, List.length_cons]; omega), EK.str] at hacc5
          have hjl := jn_len EK.w1 EK.w2
          have hl5 := sm5 _ _ hl4
          refine ⟨" ", E2, ws, rfl, rfl, .inl (.inl (.inl hacc5)), jn_fits EK.w1 EK.w2, mar lv, jn ws, rfl, rfl, sz_lit (by omega), fo, _, _, rfl, rfl, hl5, lt_sz (by rw [List.length_map]; omega), ?_⟩
          have sA := put H5 ((rowsT (blkL n) lv (ds.take i)).map V.str ++ [.str (mar lv ++ jn ws)]) (sm6.trans sm5)
          have lA : upd H5 fo (.lst ((rowsT (blkL n) lv (ds.take i)).map V.str ++ [.str (mar lv ++ jn ws)])) fo = some (.lst ((rowsT (blkL n) lv (ds.take i) ++ [mar lv ++ jn ws]).map V.str)) := by
            rw [upd_same, List.map_append]
            rfl
          have dA : upd H5 fo (.lst ((rowsT (blkL n) lv (ds.take i)).map V.str ++ [.str (mar lv ++ jn ws)])) D = some (.lst acc) := by
            rw [upd_ne hlD]
            exact sm5 _ _ hacc
          have nA : Lns (fun p => HI p = none ∧ p ≠ D) (upd H5 fo (.lst ((rowsT (blkL n) lv (ds.take i)).map V.str ++ [.str (mar lv ++ jn ws)]))) (blkL n (lv + 1)) acc ls' := hL.mono fun p o hp ho => by
            rw [upd_ne (fon (sI.free hp.1))]
            exact sm5 _ _ ho
          revert sA lA dA nA
          generalize upd H5 fo _ = HA
          intro sA lA dA nA
          have hal := nA.len
          have hrow := EK.row (blkL n) lv
          rw [hrow] at fin hR1
          refine ⟨_, rfl, D, _, rfl, .inl (.inl (.inl dA)), _, _, rfl, rfl, _, rfl, ?_⟩
          rw [hal]
          match ls', EK, hls, nA, hal, hrow, fin, hR1 with
          | [], EK, hls, nA, hal, hrow, fin, hR1 =>
            refine ifF (by decide) ?_
            refine ⟨_, rfl, D, _, rfl, .inl (.inl (.inl dA)), _, _, rfl, rfl, _, rfl, ?_⟩
            rw [hal]
            refine ifF (by decide) ?_
            exact fin _ _ _ fo _ hfo lA sA
          | [a], EK, hls, nA, hal, hrow, fin, hR1 =>
            obtain ⟨p0, hp0, np0, lp0⟩ := nA.at' 0 a rfl
            have bl0 := (blk_ok n (lv + 1) a (by omega) (hls a List.mem_cons_self).1).1
            have hT : tailL (blkL n) lv kind [a] = blkL n (lv + 1) a := rfl
            rw [hT] at fin hR1
            rw [List.length_cons] at hR1
            obtain rfl : acc = [.ref p0] := by
              match acc, hal, hp0 with
              | [x], _, h => rw [Option.some.inj h]
            refine ifT (decide_eq_true (by simp)) ⟨_, rfl, _, rfl, D, _, 0, _, rfl, rfl, .inl (.inl dA), atI_zero _ _, fo, p0, _, _, rfl, rfl, lA, lp0, sz_lit (by rw [List.length_map, List.length_map, List.length_append]; show _ + 1 + _ ≤ _; omega), fun q hq7 => ?_⟩
            have sB := Same.new (o := .lst ((rowsT (blkL n) lv (ds.take i) ++ [mar lv ++ jn ws]).map V.str ++ (blkL n (lv + 1) a).map V.str)) hq7
            have lB := at_new (o := .lst ((rowsT (blkL n) lv (ds.take i) ++ [mar lv ++ jn ws]).map V.str ++ (blkL n (lv + 1) a).map V.str)) hq7
            revert sB lB
            generalize upd HA q _ = HB
            intro sB lB
            refine gName_i ?_
            refine ⟨_, rfl, D, _, rfl, .inl (.inl (.inl (sB _ _ dA))), _, _, rfl, rfl, _, rfl, ?_⟩
            rw [hal]
            refine ifF (decide_eq_false (by simp)) ?_
            refine fin _ _ _ q _ (sA.free hq7) ?_ (sA.trans sB)
            rw [lB, ← List.map_append, List.append_assoc]
            rfl
          | [a, b], EK, hls, nA, hal, hrow, fin, hR1 =>
            obtain ⟨p0, hp0, np0, lp0⟩ := nA.at' 0 a rfl
            have bl0 := (blk_ok n (lv + 1) a (by omega) (hls a List.mem_cons_self).1).1
            have hT : tailL (blkL n) lv kind [a, b] = blkL n (lv + 1) a ++ ((mar lv ++ (if kind = "gate" then ("old" : Str) else "else")) :: blkL n (lv + 1) b) := rfl
            rw [hT] at fin hR1
            rw [List.length_cons, List.length_append, List.length_cons] at hR1
            obtain ⟨p1, hp1, np1, lp1⟩ := nA.at' 1 b rfl
            obtain rfl : acc = [.ref p0, .ref p1] := by
              match acc, hal, hp0, hp1 with
              | [x, y], _, h, h' => rw [Option.some.inj h, Option.some.inj h']
            refine ifT (decide_eq_true (by simp)) ⟨_, rfl, _, rfl, D, _, 0, _, rfl, rfl, .inl (.inl dA), atI_zero _ _, fo, p0, _, _, rfl, rfl, lA, lp0, sz_lit (by rw [List.length_map, List.length_map, List.length_append]; show _ + 1 + _ ≤ _; omega), fun q hq7 => ?_⟩
            have sB := Same.new (o := .lst ((rowsT (blkL n) lv (ds.take i) ++ [mar lv ++ jn ws]).map V.str ++ (blkL n (lv + 1) a).map V.str)) hq7
            have lB := at_new (o := .lst ((rowsT (blkL n) lv (ds.take i) ++ [mar lv ++ jn ws]).map V.str ++ (blkL n (lv + 1) a).map V.str)) hq7
            revert sB lB
            generalize upd HA q _ = HB
            intro sB lB
            refine gName_i ?_
            refine ⟨_, rfl, D, _, rfl, .inl (.inl (.inl (sB _ _ dA))), _, _, rfl, rfl, _, rfl, ?_⟩
            rw [hal]
            have sAB := sA.trans sB
            refine ifT (decide_eq_true (by simp)) ⟨_, rfl, _, rfl, sz_lit (by show 2 ≤ 100000; decide), fun l7 hl7 => ?_⟩
            refine ⟨_, rfl, t, _, 0, _, rfl, rfl, (hqt.mono sAB).mono (Same.new hl7), atI_zero _ _, rfl, .inr ⟨_, rfl, ?_⟩⟩
            rw [dec_strV]
            have hix : atI ([.str "else", .str "old"] : List V) (if decide (kind = "gate") = true then (1 : Int) else 0) = some (.str (if kind = "gate" then ("old" : Str) else "else")) := by
              by_cases e : kind = "gate"
              · rw [if_pos (decide_eq_true e), if_pos e]
                exact atI_one _ _ _
              · rw [if_neg (by rw [decide_eq_false e]; exact Bool.false_ne_true), if_neg e]
                exact atI_zero _ _
            have hwl : (if kind = "gate" then ("old" : Str) else "else").length ≤ 4 := by
              split <;> decide +kernel
            revert hix hwl hR1 fin
            generalize (if kind = "gate" then ("old" : Str) else "else") = we
            intro fin hR1 hix hwl
            refine ⟨l7, _, _, _, rfl, rfl, .inl (.inl upd_same), hix, mar lv, we, rfl, rfl, sz_lit (by omega), sz1 _, fun q8 hq8 => ?_⟩
            have s8 := (Same.new (o := .lst [.str "else", .str "old"]) hl7).trans (Same.new (o := .lst [.str (mar lv ++ we)]) hq8)
            have l8 := at_new (o := .lst [.str (mar lv ++ we)]) hq8
            revert s8 l8
            generalize upd (upd HB l7 _) q8 _ = H8
            intro s8 l8
            have bl1 := (blk_ok n (lv + 1) b (by omega) (hls b (List.mem_cons_of_mem _ List.mem_cons_self)).1).1
            refine ⟨q, q8, _, _, rfl, rfl, s8 _ _ lB, l8, sz_lit (by rw [List.length_append, List.length_map, List.length_map, List.length_append]; show _ + 1 + _ + 1 ≤ _; omega), fun q9 hq9 => ?_⟩
            have s9 := s8.trans (Same.new (o := .lst ((rowsT (blkL n) lv (ds.take i) ++ [mar lv ++ jn ws]).map V.str ++ (blkL n (lv + 1) a).map V.str ++ [.str (mar lv ++ we)])) hq9)
            have l9 := at_new (o := .lst ((rowsT (blkL n) lv (ds.take i) ++ [mar lv ++ jn ws]).map V.str ++ (blkL n (lv + 1) a).map V.str ++ [.str (mar lv ++ we)])) hq9
            revert s9 l9
            generalize upd H8 q9 _ = H9
            intro s9 l9
            have sB9 := sB.trans s9
            refine ⟨_, rfl, D, _, 1, _, rfl, rfl, .inl (.inl (sB9 _ _ dA)), atI_one _ _ _, q9, p1, _, _, rfl, rfl, l9, sB9 _ _ lp1, sz_lit (by rw [List.length_append, List.length_append, List.length_map, List.length_map, List.length_map, List.length_append]; show _ + 1 + _ + 1 + _ ≤ _; omega), fun q10 hq10 => ?_⟩
            refine gName_i ?_
            refine fin _ _ _ q10 _ (sA.free (sB9.free hq10)) ?_ ((sA.trans sB9).trans (Same.new hq10))
            rw [upd_same]
            simp only [List.map_append, List.map_cons, List.map_nil, List.append_assoc, List.cons_append, List.nil_append]
          | _ :: _ :: _ :: _, EK, _, _, _, _, _, _ => exact absurd EK.len (by simp)
    · rintro σ H2 ⟨⟨y3, y4, y5, y6, fo, rfl, hfo, hl2⟩, sm, _⟩
      rw [List.take_of_length_le (by omega)] at hl2
      exact ⟨_, rfl, kk fo H2 sm hfo hl2⟩
theorem ok_llinesN {f : Addr} {fd : FuncData} (F : Fun K "_law_lines" "_law_lines" s__law_lines f fd) (T : Txt mg) (c__law_lists : Cal P w K mg base CX0 1 "_law_lists" ["_law_row"] (spInnerG K)) (g1 : mg "_law_lines" = some (.ref f)) (k1 : PySem.W.keepIn K (.ref f) = true)
    (b1 : Binds K fd ["_law_rows", "_law_level"] []) : ∀ n : Nat, Cal P w K mg base CX0 (n + 1) "_law_lines" ["_law_rows", "_law_level"] (spBlk K n)
  | 0 => ⟨f, fd, g1, k1, b1, F.ok sc__law_lines (fun vs H Q E h => by obtain ⟨v, lv, ds, rfl, _⟩ := h; rfl) (fun cdv A outer s H vs Q E hr h => by obtain ⟨v, lv, ds, _, _, hk, _⟩ := h; exact hk.elim)⟩
  | n + 1 => ⟨f, fd, g1, k1, b1, ok_llines (k := n) F T c__law_lists (ok_llinesN F T c__law_lists g1 k1 b1 n)⟩
end
end Op
namespace Op
open PySem L2 PyProof.Rows
theorem perm_lift {α β : Type} (f : α → β) : ∀ {ys zs : List β}, ys.Perm zs → ∀ {ka : List α}, ys = ka.map f → ∃ ka' : List α, ka'.Perm ka ∧ ka'.map f = zs := by
  intro ys zs h
  induction h with
  | nil => intro ka e; exact ⟨ka, .refl _, e.symm⟩
  | @cons x a b _ ih =>
    intro ka e
    cases ka with
    | nil => cases e
    | cons y r =>
      injection e with e1 e2
      obtain ⟨r', h1, h2⟩ := ih e2
      exact ⟨y :: r', h1.cons y, by rw [List.map_cons, h2, e1]⟩
  | swap x y l =>
    intro ka e
    match ka, e with
    | u :: v :: r, e =>
      injection e with e1 e2
      injection e2 with e2 e3
      exact ⟨v :: u :: r, .swap _ _ _, by rw [List.map_cons, List.map_cons, e1, e2, e3]⟩
    | [u], e => injection e with _ e2; cases e2
    | [], e => cases e
  | trans _ _ ih1 ih2 =>
    intro ka e
    obtain ⟨k1, h1, h2⟩ := ih1 e
    obtain ⟨k2, h3, h4⟩ := ih2 h2.symm
    exact ⟨k2, h3.trans h1, h4⟩
theorem line_ask {a s : Str} {ws : List Str} (h : ws ≠ []) : a ++ " " ++ s ++ " " ++ jn ws = jn (a :: s :: ws) := by
  rw [jn_cons (by simp), jn_cons h, str_assoc, str_assoc, str_assoc]
theorem line_sig {a s t : Str} {ws : List Str} (h : ws ≠ []) : a ++ " " ++ s ++ " " ++ t ++ " " ++ jn ws = jn (a :: s :: t :: ws) := by
  rw [jn_cons (by simp), jn_cons (by simp), jn_cons h, str_assoc, str_assoc, str_assoc, str_assoc, str_assoc]
theorem line_ins {a : Str} {ws : List Str} (h : ws ≠ []) : a ++ " " ++ jn ws = jn (a :: ws) := by
  rw [jn_cons h, str_assoc]
structure HdV (ka ks : List (Str × PyData)) (ins : PyData) : Prop where
  a1 : ∀ p ∈ ka, isWordS p.1 = true ∧ areWords 4 p.2 = true
  a2 : ka.length ≤ 6
  a3 : (ka.map (·.1)).Nodup
  b1 : ∀ p ∈ ks, isWordS p.1 = true ∧ isBox p.2 = true
  b2 : ks.length ≤ 3
  b3 : (ks.map (·.1)).Nodup
  i1 : areWords 3 ins = true
theorem words_ne {m : Int} {zs : List Str} (h : areWords m (.tuple (zs.map PyData.str)) = true) : zs ≠ [] := by
  have := (of_decide_eq_true (Bool.and_eq_true_iff.mp h).1).1
  rw [List.length_map] at this
  intro e
  rw [e] at this
  exact absurd this (by decide)
section
variable {P : Program} {w : World} {K : PySem.W.Frag} {mg : Str → Option Value} {base : Heap}
def spHead (K : PySem.W.Frag) : Sp := fun vs H Q _ => ∃ (sd nd pa ps : Addr) (iv rv : V) (wa ws : List (Key × V)) (ka ks : List (Str × PyData)) (ins : PyData), vs = [.ref sd] ∧ H sd = some (.dK (spK nd pa ps iv rv)) ∧ H pa = some (.dK wa) ∧ KvsR K H wa ka ∧ H ps = some (.dK ws) ∧ KvsR K H ws ks ∧ Dp K H iv ins ∧ HdV ka ks ins ∧
  ∀ p H' ka' ks', Same H H' → H p = none → ka'.Perm ka → sortedS (ka'.map (·.1)) = true → ks'.Perm ks → sortedS (ks'.map (·.1)) = true → H' p = some (.lst ((headL ka' ks' ins).map V.str)) → Q (.ref p) H'
theorem sc__law_head : FnScope ["_law_spec_here", "_law_found", "_law_name", "_law_room", "_law_words"] ["_law_spec_here"] (defScope s__law_head) := ⟨rfl, rfl, rfl, by decide +kernel, rfl, by decide +kernel, by decide +kernel⟩
theorem ok_head {f : Addr} {fd : FuncData} (F : Fun K "_law_head" "_law_head" s__law_head f fd) (T : Txt mg) : FnOk P w K mg base CX0 1 f fd ["_law_spec_here"] (spHead K) := by
  refine F.ok sc__law_head (fun vs H Q E h => ?_) (fun cdv A outer s H vs Q E hr h => ?_)
  · obtain ⟨sd, nd, pa, ps, iv, rv, wa, ws, ka, ks, ins, rfl, _⟩ := h
    rfl
  · obtain ⟨sd, nd, pa, ps, iv, rv, wa, ws, ka, ks, ins, rfl, hsd, hpa, kra, hps, krs, hiv, hv, k⟩ := h
    have hu := hu_of hr
    refine ⟨_, (pss_cons (ps_set (i := 1) sc__law_head.nd rfl (.inl rfl) (pe_lst pa_nil))
      (pss_cons (ps_for PassesOwn.never rfl (pi_list (pe_callB cr_sortedS (by rfl) T.b_sorted (by decide +kernel) (pa_cons (pe_callTy (call_listD rfl) (by rfl) T.b_list (by decide +kernel) (pa_cons (pe_dget hu (pv 0) pe_str (fun _ _ => rfl)) pa_nil)) pa_nil))) (pg_name (i := 2) sc__law_head.nd rfl (.inl rfl)) (pss_one (ps_expr (pe_bm PySem.F.plainAttrs_list PySem.F.slot_list_append PySem.F.type_list_append mt_append (pv 1) (pa_cons (pe_op op_add_str (pe_op op_add_str (pe_op op_add_str pe_str (pv 2)) pe_str) (pe_join pe_str (pe_callTy call_list_of (by rfl) T.b_list (by decide +kernel) (pa_cons (pe_dget hu (pe_dget hu (pv 0) pe_str (fun _ _ => rfl)) (pv 2) (fun _ _ => rfl)) pa_nil)))) pa_nil)))))
      (pss_cons (ps_for PassesOwn.never rfl (pi_list (pe_callB cr_sortedS (by rfl) T.b_sorted (by decide +kernel) (pa_cons (pe_callTy (call_listD rfl) (by rfl) T.b_list (by decide +kernel) (pa_cons (pe_dget hu (pv 0) pe_str (fun _ _ => rfl)) pa_nil)) pa_nil))) (pg_name (i := 2) sc__law_head.nd rfl (.inl rfl)) (pss_cons (ps_asg (pe_dget hu (pe_dget hu (pv 0) pe_str (fun _ _ => rfl)) (pv 2) (fun _ _ => rfl)) (pg_tup rfl (pgs_cons (pg_name (i := 3) sc__law_head.nd rfl (.inl rfl)) (pgs_cons (pg_name (i := 4) sc__law_head.nd rfl (.inl rfl)) pgs_nil))))
      (pss_one (ps_expr (pe_bm PySem.F.plainAttrs_list PySem.F.slot_list_append PySem.F.type_list_append mt_append (pv 1) (pa_cons (pe_op op_add_str (pe_op op_add_str (pe_op op_add_str (pe_op op_add_str (pe_op op_add_str pe_str (pv 2)) pe_str) (pe_callTy call_str_int (by rfl) T.b_str (by decide +kernel) (pa_cons (pv 3) pa_nil))) pe_str) (pe_join pe_str (pe_callTy call_list_of (by rfl) T.b_list (by decide +kernel) (pa_cons (pv 4) pa_nil)))) pa_nil))))))
      (pss_one (ps_ret (pe_op op_cat (pv 1) (pe_lst (pa_cons (pe_op op_add_str pe_str (pe_join pe_str (pe_callTy call_list_of (by rfl) T.b_list (by decide +kernel) (pa_cons (pe_dget hu (pv 0) pe_str (fun _ _ => rfl)) pa_nil)))) (pa_cons pe_str pa_nil))))))))), ?_⟩
    have ha6 := hv.a2
    have hb3 := hv.b2
    refine ⟨sz_lit (by show 0 ≤ 100000; decide), fun l hl => ?_⟩
    have s3 := Same.new (o := .lst []) hl
    have l3 := at_new (o := .lst []) hl
    revert s3 l3
    generalize upd H l _ = H3
    intro s3 l3
    refine ⟨_, rfl, sd, _, rfl, DGet.k (k := (.inr "asks" : Key)) (s3 _ _ hsd), pa, wa, rfl, .inl (s3 _ _ hpa), fun q hq => ?_⟩
    rw [kra.keysV]
    refine ⟨q, ka.map (·.1), rfl, .inl (.inl upd_same), by rw [List.length_map]; omega, fun ys1 r1 perm1 sort1 hr1 => ?_⟩
    obtain ⟨kb, pb, rfl⟩ := perm_lift (·.1) perm1.symm (ka := ka) rfl
    have n1l : r1 ≠ l := fun e => by rw [e, Same.new hq _ _ l3] at hr1; cases hr1
    have hkl := pb.length_eq
    have s4 := (Same.new (o := .lst ((ka.map (·.1)).map V.str)) hq).trans (Same.new (o := .lst ((kb.map (·.1)).map V.str)) hr1)
    have e4 := at_new (o := .lst ((kb.map (·.1)).map V.str)) hr1
    revert s4 e4
    generalize upd (upd H3 q _) r1 _ = H4
    intro s4 e4
    refine ⟨r1, rfl, ⟨_, .inl (.inl e4)⟩, ?_⟩
    refine for_it (walk_list (xs := (kb.map (·.1)).map V.str)) (fun i σ H' => (∃ y2 y3 y4 : Option V, σ = [some (.ref sd), some (.ref l), y2, y3, y4]) ∧ Same H H' ∧ H' r1 = some (.lst ((kb.map (·.1)).map V.str)) ∧ H' l = some (.lst (((kb.take i).map askL).map V.str))) ⟨⟨_, _, _, rfl⟩, s3.trans s4, e4, s4 _ _ l3⟩ (fun i σ H' _ p => .inl (.inl p.2.2.1)) ?_ ?_
    · rintro i x σ HY HZ hi ⟨⟨y2, y3, y4, rfl⟩, sm, er, el⟩ ⟨rfl, hx⟩
      rw [List.getElem?_map, List.getElem?_map] at hx
      cases hp : kb[i]? with
      | none => rw [hp] at hx; cases hx
      | some pp =>
      rw [hp] at hx
      obtain rfl : V.str pp.1 = x := Option.some.inj hx
      have hpi : i < kb.length := (List.getElem?_eq_some_iff.mp hp).1
      have hpm : pp ∈ ka := pb.mem_iff.mp (List.mem_of_getElem? hp)
      obtain ⟨j, hj⟩ := List.getElem?_of_mem hpm
      obtain ⟨vv, hvv, hdv⟩ := kra.at hv.a3 hj
      obtain ⟨hw1, hw2⟩ := hv.a1 pp hpm
      have hkk : w8 pp.1 := w8_of hw1
      obtain ⟨zs, e2, h3, h4⟩ := words_form hw2
      have hLn : askL pp = jn ("ask" :: pp.1 :: zs) := by unfold askL; rw [e2, wordsOf_map]
      rw [e2] at hdv hw2
      have hne := words_ne hw2
      cases hdv with
      | @tup tv xv _ htv hxv =>
      obtain rfl := strs_dp hxv
      have hz1 : zs.length ≤ 10 := by omega
      have hjl := jn_len hz1 (mem20 h4)
      have hkl' := w20 hkk
      have e1 : (" " : Str).length = 1 := by decide +kernel
      have e6 : ("ask " : Str).length = 4 := by decide +kernel
      refine ⟨_, rfl, .inl ⟨rfl, _, .inl (.inl el)⟩, _, rfl, "ask ", pp.1, rfl, rfl, sz_lit (by omega), _, " ", rfl, rfl, sz_lit (by rw [Str.length_append]; omega), ⟨_, rfl⟩, _, rfl, sd, _, rfl, DGet.k (k := (.inr "asks" : Key)) (sm _ _ hsd), _, rfl, pa, _, rfl, by rw [← hvv]; exact DGet.k (k := (.inr pp.1 : Key)) (sm _ _ hpa), tv, _, rfl, .inr (htv.mono sm), fun l2 hl2 => ?_⟩
      refine ⟨" ", l2, zs, rfl, rfl, .inl (.inl (.inl upd_same)), jn_fits hz1 (mem20 h4), _, jn zs, rfl, rfl, sz_lit (by rw [Str.length_append, Str.length_append]; omega), l, _, _, rfl, rfl, Same.new hl2 _ _ el, lt_sz (by rw [List.length_map, List.length_map, List.length_take]; omega), ⟨_, _, _, rfl⟩, fun b o hb => ?_, ?_, ?_⟩
      · rw [upd_ne (ne_of_none hb hl)]
        exact Same.new hl2 b o (sm b o hb)
      · rw [upd_ne n1l]
        exact Same.new hl2 _ _ er
      · rw [upd_same, TS.take_one hp, List.map_append, List.map_append, List.map_cons, List.map_nil, hLn, ← line_ask hne]
        rfl
    · rintro σ H5 ⟨⟨y2, y3, y4, rfl⟩, sm5, _, el5⟩
      rw [List.length_map, List.length_map, List.take_of_length_le (Nat.le_refl _)] at el5
      refine ⟨_, rfl, sd, _, rfl, DGet.k (k := (.inr "signals" : Key)) (sm5 _ _ hsd), ps, ws, rfl, .inl (sm5 _ _ hps), fun qb hqb => ?_⟩
      rw [krs.keysV]
      refine ⟨qb, ks.map (·.1), rfl, .inl (.inl upd_same), by rw [List.length_map]; omega, fun ys2 r2 perm2 sort2 hr2 => ?_⟩
      obtain ⟨kc, pc, rfl⟩ := perm_lift (·.1) perm2.symm (ka := ks) rfl
      have n2l : r2 ≠ l := fun e => by rw [e, Same.new hqb _ _ el5] at hr2; cases hr2
      have hcl := pc.length_eq
      have s6 := (Same.new (o := .lst ((ks.map (·.1)).map V.str)) hqb).trans (Same.new (o := .lst ((kc.map (·.1)).map V.str)) hr2)
      have e6 := at_new (o := .lst ((kc.map (·.1)).map V.str)) hr2
      revert s6 e6
      generalize upd (upd H5 qb _) r2 _ = H6
      intro s6 e6
      refine ⟨r2, rfl, ⟨_, .inl (.inl e6)⟩, ?_⟩
      refine for_it (walk_list (xs := (kc.map (·.1)).map V.str)) (fun i σ H' => (∃ y2 y3 y4 : Option V, σ = [some (.ref sd), some (.ref l), y2, y3, y4]) ∧ Same H H' ∧ H' r2 = some (.lst ((kc.map (·.1)).map V.str)) ∧ H' l = some (.lst ((kb.map askL ++ (kc.take i).map sigL).map V.str))) ⟨⟨_, _, _, rfl⟩, sm5.trans s6, e6, (by rw [List.take_zero, List.map_nil, List.append_nil]; exact s6 _ _ el5)⟩ (fun i σ H' _ p => .inl (.inl p.2.2.1)) ?_ ?_
      · rintro i x σ HY HZ hi ⟨⟨y2, y3, y4, rfl⟩, sm, er, el⟩ ⟨rfl, hx⟩
        rw [List.getElem?_map, List.getElem?_map] at hx
        cases hp : kc[i]? with
        | none => rw [hp] at hx; cases hx
        | some pp =>
        rw [hp] at hx
        obtain rfl : V.str pp.1 = x := Option.some.inj hx
        have hpi : i < kc.length := (List.getElem?_eq_some_iff.mp hp).1
        have hpm : pp ∈ ks := pc.mem_iff.mp (List.mem_of_getElem? hp)
        obtain ⟨j, hj⟩ := List.getElem?_of_mem hpm
        obtain ⟨vv, hvv, hdv⟩ := krs.at hv.b3 hj
        obtain ⟨hw1, hw2⟩ := hv.b1 pp hpm
        have hkk : w8 pp.1 := w8_of hw1
        obtain ⟨n0, zs, e2, n1, n2, h3, h4⟩ := box_form hw2
        have hLn : sigL pp = jn ("signal" :: pp.1 :: Str.ofString (toString n0) :: zs) := by
          unfold sigL
          rw [e2]
          show jn ("signal" :: pp.1 :: Str.ofString (toString n0) :: wordsOf (.tuple (zs.map .str))) = _
          rw [wordsOf_map]
        rw [e2] at hdv hw2
        have hne : zs ≠ [] := words_ne (m := 3) (Bool.and_eq_true_iff.mp hw2).2
        cases hdv with
        | @tup tv xv _ htv hxv =>
        cases hxv with
        | @cons u1 ur _ _ gu hur =>
        cases hur with
        | @cons u2 ur2 _ _ gu2 hur2 =>
        cases hur2
        cases gu
        cases gu2 with
        | @tup tw xw _ htw hxw =>
        obtain rfl := strs_dp hxw
        have hz1 : zs.length ≤ 10 := by omega
        have hjl := jn_len hz1 (mem20 h4)
        have hkl' := w20 hkk
        have hrl := room_len n0 n1 n2
        have e1 : (" " : Str).length = 1 := by decide +kernel
        have e7 : ("signal " : Str).length = 7 := by decide +kernel
        refine ⟨_, rfl, sd, _, rfl, DGet.k (k := (.inr "signals" : Key)) (sm _ _ hsd), _, rfl, ps, _, rfl, by rw [← hvv]; exact DGet.k (k := (.inr pp.1 : Key)) (sm _ _ hps), tv, _, rfl, htv.mono sm, rfl, _, _, rfl, _, _, rfl, rfl, ?_⟩
        refine ⟨_, rfl, .inl ⟨rfl, _, .inl (.inl el)⟩, _, rfl, "signal ", pp.1, rfl, rfl, sz_lit (by omega), _, " ", rfl, rfl, sz_lit (by rw [Str.length_append]; omega), _, rfl, n0, rfl, log_small n1 n2, _, Str.ofString (toString n0), rfl, rfl, sz_lit (by rw [Str.length_append, Str.length_append]; omega), _, " ", rfl, rfl, sz_lit (by rw [Str.length_append, Str.length_append, Str.length_append]; omega), ⟨_, rfl⟩, _, rfl, tw, _, rfl, .inr (htw.mono sm), fun l4 hl4 => ?_⟩
        refine ⟨" ", l4, zs, rfl, rfl, .inl (.inl (.inl upd_same)), jn_fits hz1 (mem20 h4), _, jn zs, rfl, rfl, sz_lit (by rw [Str.length_append, Str.length_append, Str.length_append, Str.length_append]; omega), l, _, _, rfl, rfl, Same.new hl4 _ _ el, lt_sz (by rw [List.length_map, List.length_append, List.length_map, List.length_map, List.length_take]; omega), ⟨_, _, _, rfl⟩, fun b o hb => ?_, ?_, ?_⟩
        · rw [upd_ne (ne_of_none hb hl)]
          exact Same.new hl4 b o (sm b o hb)
        · rw [upd_ne n2l]
          exact Same.new hl4 _ _ er
        · have hsn : kb.map askL ++ (kc.take (i + 1)).map sigL = (kb.map askL ++ (kc.take i).map sigL) ++ [sigL pp] := by
            rw [TS.take_one hp, List.map_append (f := sigL), List.append_assoc]
            rfl
          rw [upd_same, hsn, hLn, ← line_sig hne, List.map_append (l₂ := [_])]
          rfl
      · rintro σ H7 ⟨⟨y2, y3, y4, rfl⟩, sm7, _, el7⟩
        rw [List.length_map, List.length_map, List.take_of_length_le (Nat.le_refl _)] at el7
        obtain ⟨zs, e2, h3, h4⟩ := words_form hv.i1
        have hi1 := hv.i1
        have hdi := hiv.mono sm7
        rw [e2] at hdi hi1
        have hne := words_ne hi1
        have hz1 : zs.length ≤ 10 := by omega
        have hjl := jn_len hz1 (mem20 h4)
        have e1 : ("inputs " : Str).length = 7 := by decide +kernel
        cases hdi with
        | @tup tv xv _ htv hxv =>
        obtain rfl := strs_dp hxv
        refine ⟨_, rfl, ⟨_, rfl⟩, _, rfl, sd, _, rfl, DGet.k (k := (.inr "inputs" : Key)) (sm7 _ _ hsd), tv, _, rfl, .inr htv, fun l4 hl4 => ?_⟩
        refine ⟨" ", l4, zs, rfl, rfl, .inl (.inl (.inl upd_same)), jn_fits hz1 (mem20 h4), "inputs ", jn zs, rfl, rfl, sz_lit (by omega), sz_lit (by show 2 ≤ 100000; decide), fun q8 hq8 => ?_⟩
        refine ⟨l, q8, _, _, rfl, rfl, Same.new hq8 _ _ (Same.new hl4 _ _ el7), upd_same, sz_lit (by rw [List.length_map, List.length_append, List.length_map, List.length_map]; show _ + _ + 2 ≤ _; omega), fun q9 hq9 => ?_⟩
        refine k q9 _ kb kc (sm7.trans ((Same.new hl4).trans ((Same.new hq8).trans (Same.new hq9)))) (sm7.free ((Same.new hl4).free ((Same.new hq8).free hq9))) pb sort1 pc sort2 ?_
        rw [upd_same]
        unfold headL
        rw [e2, wordsOf_map, ← line_ins hne, List.map_append (l₂ := [_, _])]
        rfl
end
end Op
namespace Op
open PySem L2 PyProof.Rows
section
variable {P : Program} {w : World} {K : PySem.W.Frag} {mg : Str → Option Value} {base : Heap}
def spTextL (K : PySem.W.Frag) : Sp := fun vs H Q _ => ∃ (sd nd pa ps : Addr) (iv rv : V) (wa ws : List (Key × V)) (ka ks : List (Str × PyData)) (ins : PyData) (ds : List PyData), vs = [.ref sd] ∧ H sd = some (.dK (spK nd pa ps iv rv)) ∧ H pa = some (.dK wa) ∧ KvsR K H wa ka ∧ H ps = some (.dK ws) ∧ KvsR K H ws ks ∧ Dp K H iv ins ∧ HdV ka ks ins ∧ Dp K H rv (.list ds) ∧ rowsF 5 ds ∧ wts ds ≤ 30000 ∧
  ∀ H' ka' ks', Same H H' → ka'.Perm ka → sortedS (ka'.map (·.1)) = true → ks'.Perm ks → sortedS (ks'.map (·.1)) = true → Q (.str (textP ka' ks' ins ds)) H'
theorem sc__law_text : FnScope ["_law_spec_here"] ["_law_spec_here"] (defScope s__law_text) := ⟨rfl, rfl, rfl, by decide +kernel, rfl, by decide +kernel, by decide +kernel⟩
theorem ok_text {f : Addr} {fd : FuncData} (F : Fun K "_law_text" "_law_text" s__law_text f fd) (T : Txt mg) (c__law_head : Cal P w K mg base CX0 1 "_law_head" ["_law_spec_here"] (spHead K)) (c__law_lines : Cal P w K mg base CX0 6 "_law_lines" ["_law_rows", "_law_level"] (spBlk K 5)) : FnOk P w K mg base CX0 7 f fd ["_law_spec_here"] (spTextL K) := by
  refine F.ok sc__law_text (fun vs H Q E h => ?_) (fun cdv A outer s H vs Q E hr h => ?_)
  · obtain ⟨sd, nd, pa, ps, iv, rv, wa, ws, ka, ks, ins, ds, rfl, _⟩ := h
    rfl
  · obtain ⟨sd, nd, pa, ps, iv, rv, wa, ws, ka, ks, ins, ds, rfl, hsd, hpa, kra, hps, krs, hiv, hv, hrv, hF, hw, k⟩ := h
    have hu := hu_of hr
    refine ⟨_, (pss_one (ps_ret (pe_join pe_str (pe_op op_cat (pe_cal c__law_head (hr.mono (by omega)) rfl pass0 (pa_cons (pv 0) pa_nil)) (pe_cal c__law_lines (hr.mono (by omega)) rfl pass0 (pa_cons (pe_dget hu (pv 0) pe_str (fun _ _ => rfl)) (pa_cons pe_int pa_nil))))))), ?_⟩
    refine ⟨⟨_, rfl⟩, _, rfl, sd, nd, pa, ps, iv, rv, wa, ws, ka, ks, ins, rfl, hsd, hpa, kra, hps, krs, hiv, hv, fun p H1 kb kc s1 f1 pb sb pc sc l1 => ?_⟩
    have hh : Lok (headL kb kc ins) _ := head_ok (fun p hp => hv.a1 p (pb.mem_iff.mp hp)) (fun p hp => hv.b1 p (pc.mem_iff.mp hp)) hv.i1
    have hbk := blk_ok 5 1 ds (by decide) hF
    have e1 := pb.length_eq
    have e2 := pc.length_eq
    have a2 := hv.a2
    have b2 := hv.b2
    refine ⟨_, rfl, sd, _, rfl, DGet.k (k := (.inr "rows" : Key)) (s1 _ _ hsd), rv, 1, ds, rfl, hrv.mono s1, hF, by decide, hw, fun q H2 s2 f2 l2 => ?_⟩
    refine ⟨p, q, _, _, rfl, rfl, s2 _ _ l1, l2, sz_lit (by rw [List.length_map, List.length_map]; have := hh.1; have := hbk.1; omega), fun pz hz => ?_⟩
    refine ⟨"\n", pz, headL kb kc ins ++ blkL 5 1 ds, rfl, rfl, .inl (.inl (.inl (by rw [upd_same, List.map_append]))), nl_fits (hh.app hbk) (by omega), ?_⟩
    exact k _ kb kc (s1.trans (s2.trans (Same.new hz))) pb sb pc sc
end
end Op
namespace Op
open PySem L2 PyProof.Rows
section
variable {P : Program} {w : World} {K : PySem.W.Frag} {mg : Str → Option Value} {base : Heap}
def spTurn (K : PySem.W.Frag) : Sp := fun vs H Q _ => ∃ (a : Addr) (wa : List (Key × V)) (ka : List (Str × PyData)), vs = [.ref a] ∧ H a = some (.dK wa) ∧ KvsR K H wa ka ∧ (ka.map (·.1)).Nodup ∧ ka.length ≤ 6 ∧
  ∀ p H' wb kb, Same H H' → H p = none → H' p = some (.dK wb) → KvsR K H' wb kb → kb.Perm ka → Q (.ref p) H'
theorem sc__law_turned : FnScope ["_law_given", "_law_found", "_law_name"] ["_law_given"] (defScope s__law_turned) := ⟨rfl, rfl, rfl, by decide +kernel, rfl, by decide +kernel, by decide +kernel⟩
theorem ok_turned {f : Addr} {fd : FuncData} (F : Fun K "_law_turned" "_law_turned" s__law_turned f fd) (T : Txt mg) : FnOk P w K mg base CX0 1 f fd ["_law_given"] (spTurn K) := by
  refine F.ok sc__law_turned (fun vs H Q E h => ?_) (fun cdv A outer s H vs Q E hr h => ?_)
  · obtain ⟨a, wa, ka, rfl, _⟩ := h
    rfl
  · obtain ⟨a, wa, ka, rfl, ha, kra, hnd, hl6, k⟩ := h
    have hu := hu_of hr
    refine ⟨_, (pss_cons (ps_set (i := 1) sc__law_turned.nd rfl (.inl rfl) pe_dnewK)
      (pss_cons (ps_for PassesOwn.never rfl (pi_list (pe_revL (pe_callB cr_sortedS (by rfl) T.b_sorted (by decide +kernel) (pa_cons (pe_callTy (call_listD rfl) (by rfl) T.b_list (by decide +kernel) (pa_cons (pv 0) pa_nil)) pa_nil)))) (pg_name (i := 2) sc__law_turned.nd rfl (.inl rfl)) (pss_one (ps_dput hu (pv 1) (pv 2) (pe_dget hu (pv 0) (pv 2) (fun _ _ => rfl)) rfl)))
      (pss_one (ps_ret (pv 1))))), ?_⟩
    refine fun l hl => ?_
    have s3 := Same.new (o := .dK []) hl
    have l3 := at_new (o := .dK []) hl
    revert s3 l3
    generalize upd H l _ = H3
    intro s3 l3
    refine ⟨_, rfl, a, wa, rfl, .inl (s3 _ _ ha), fun q hq => ?_⟩
    rw [kra.keysV]
    refine ⟨q, ka.map (·.1), rfl, .inl (.inl upd_same), by rw [List.length_map]; omega, fun ys1 r1 perm1 sort1 hr1 => ?_⟩
    refine ⟨r1, _, rfl, .inl (.inl upd_same), fun r2 hr2 => ?_⟩
    have perm2 : ys1.reverse.Perm (ka.map (·.1)) := (List.reverse_perm _).trans perm1
    obtain ⟨kb, pb, e1⟩ := perm_lift (·.1) perm2.symm (ka := ka) rfl
    rw [← List.map_reverse, ← e1] at *
    have n1l : r2 ≠ l := fun e => by rw [e, Same.new hr1 _ _ (Same.new hq _ _ l3)] at hr2; cases hr2
    have hkl := pb.length_eq
    have s4 := ((Same.new (o := .lst ((ka.map (·.1)).map V.str)) hq).trans (Same.new (o := .lst (ys1.map V.str)) hr1)).trans (Same.new (o := .lst ((kb.map (·.1)).map V.str)) hr2)
    have e4 := at_new (o := .lst ((kb.map (·.1)).map V.str)) hr2
    revert s4 e4
    generalize upd (upd (upd H3 q _) r1 _) r2 _ = H4
    intro s4 e4
    have hndb : (kb.map (·.1)).Nodup := (pb.map _).nodup_iff.mpr hnd
    refine ⟨r2, rfl, ⟨_, .inl (.inl e4)⟩, ?_⟩
    refine for_it (walk_list (xs := (kb.map (·.1)).map V.str)) (fun i σ H' => (∃ y2 : Option V, σ = [some (.ref a), some (.ref l), y2]) ∧ Same H H' ∧ H' r2 = some (.lst ((kb.map (·.1)).map V.str)) ∧ ∃ wb, H' l = some (.dK wb) ∧ KvsR K H wb (kb.take i)) ⟨⟨_, rfl⟩, s3.trans s4, e4, _, s4 _ _ l3, trivial⟩ (fun i σ H' _ p => .inl (.inl p.2.2.1)) ?_ ?_
    · rintro i x σ HY HZ hi ⟨⟨y2, rfl⟩, sm, er, wb, el, krb⟩ ⟨rfl, hx⟩
      rw [List.getElem?_map, List.getElem?_map] at hx
      cases hp : kb[i]? with
      | none => rw [hp] at hx; cases hx
      | some pp =>
      rw [hp] at hx
      obtain rfl : V.str pp.1 = x := Option.some.inj hx
      have hpi : i < kb.length := (List.getElem?_eq_some_iff.mp hp).1
      have hpm : pp ∈ ka := pb.mem_iff.mp (List.mem_of_getElem? hp)
      obtain ⟨j, hj⟩ := List.getElem?_of_mem hpm
      obtain ⟨vv, hvv, hdv⟩ := kra.at hnd hj
      have hbl := krb.len
      rw [List.length_take] at hbl
      have hpn : (kb.map (·.1))[i]? = some pp.1 := by rw [List.getElem?_map, hp]; rfl
      have hzn : pp.1 ∉ (kb.take i).map (·.1) := by rw [List.map_take]; exact nodup_take hndb hpn
      refine ⟨_, rfl, _, rfl, a, _, rfl, by rw [← hvv]; exact DGet.k (k := (.inr pp.1 : Key)) (sm _ _ ha), _, rfl, _, rfl, l, _, rfl, DPut.k (k := (.inr pp.1 : Key)) el (lt_sz (by omega)), ?_⟩
      rw [putK_new _ (krb.none hzn)]
      refine ⟨⟨_, rfl⟩, fun b o hb => ?_, ?_, _, upd_same, ?_⟩
      · rw [upd_ne (ne_of_none hb hl)]
        exact sm b o hb
      · rw [upd_ne n1l]
        exact er
      · rw [TS.take_one hp]
        exact krb.snoc hdv
    · rintro σ H5 ⟨⟨y2, rfl⟩, sm5, _, wb, el5, krb⟩
      rw [List.length_map, List.length_map, List.take_of_length_le (Nat.le_refl _)] at krb
      exact ⟨_, rfl, k l H5 wb kb sm5 hl el5 (krb.mono sm5.kp) pb⟩
end
end Op
namespace Op
open PySem L2 PyProof.Rows
section
variable {P : Program} {w : World} {K : PySem.W.Frag} {mg : Str → Option Value} {base : Heap}
def spPoolN (K : PySem.W.Frag) : Sp := fun vs H Q _ => ∃ (a : Addr) (ns : List Int) (m : Nat), vs = [.ref a, .int (m : Int)] ∧ SqL K H a (ns.map V.int) ∧ ns.length ≤ 63 ∧
  ∀ (p : Addr) (b sd c : Int), H p = none → 0 ≤ b → Q (.ref p) (upd H p (pool b sd c))
theorem ok_poolN {f : Addr} {fd : FuncData} (F : Fun K "_law_pool" "_law_pool" s__law_pool f fd) (T : Txt mg) : FnOk P w K mg base CX0 1 f fd ["_law_script", "_law_k"] (spPoolN K) := by
  refine F.ok sc__law_pool (fun vs H Q E h => ?_) (fun cdv A outer s H vs Q E hr h => ?_)
  · obtain ⟨a, ns, m, rfl, _⟩ := h
    rfl
  · obtain ⟨a, ns, m, rfl, hS, hlen, k⟩ := h
    refine ⟨_, (pss_cons (ps_set (i := 2) sc__law_pool.nd rfl (.inl rfl) pe_int)
      (Evl.pss_cut (ps_if (pt_cmpR op_lt (pv 1) (pe_callB call_len_seq (by rfl) T.b_len (by decide +kernel) (pa_cons (pv 0) pa_nil)) (nomark _)) (pss_one (ps_set (i := 2) sc__law_pool.nd rfl (.inl rfl) (pe_callTy call_int1 (by rfl) T.b_int (by decide +kernel) (pa_cons (pe_ix ix_list (pv 0) (pv 1) (fun _ _ => rfl)) pa_nil)))) pss_nil)
      (pss_cons (ps_set (i := 3) sc__law_pool.nd rfl (.inl rfl) pe_int)
      (Evl.pss_cut (ps_if (pt_cmpR op_ge (pv 2) (pe_op op_pow pe_int pe_int) (nomark _)) (pss_one (ps_set (i := 3) sc__law_pool.nd rfl (.inl rfl) (pe_op op_modN (pe_callTy call_int1 (by rfl) T.b_int (by decide +kernel) (pa_cons (pv 2) pa_nil)) (pe_op op_powW (pe_op op_pow pe_int pe_int) pe_int)))) pss_nil)
      (pss_one (ps_ret (pe_disp (pps_cons pe_str (pv 3) (pps_cons pe_str (pe_op op_modN (pe_callTy call_int1 (by rfl) T.b_int (by decide +kernel) (pa_cons (pv 2) pa_nil)) pe_int) (pps_cons pe_str (pe_op op_mul pe_int (pv 1)) pps_nil))) (by rfl) (by rfl) (fun z => by cases z) (by decide)))))))), ?_⟩
    refine ⟨fun σ H' => H' = H ∧ ∃ c : Int, σ = [some (.ref a), some (.int (m : Int)), some (.int c), none], ?_, ?_⟩
    · refine ⟨_, rfl, _, rfl, a, _, rfl, .inl hS, _, _, rfl, rfl, _, rfl, ?_⟩
      by_cases c : (m : Int) < ((ns.map V.int).length : Int)
      · refine ifT (decide_eq_true c) ?_
        rw [List.length_map] at c
        have hm : m < ns.length := by omega
        have hg : (ns.map V.int)[m]? = some (.int ns[m]) := by rw [List.getElem?_map, List.getElem?_eq_getElem hm]; rfl
        exact ⟨_, rfl, _, rfl, a, _, _, _, rfl, rfl, hS, atI_nat (j := m) hg, .inl ⟨ns[m], rfl, rfl, ns[m], rfl⟩⟩
      · exact ifF (decide_eq_false c) ⟨rfl, 0, rfl⟩
    · rintro _ H1 ⟨e1, c, rfl⟩
      subst e1
      refine ⟨fun σ H' => H' = H1 ∧ ∃ b : Int, 0 ≤ b ∧ σ = [some (.ref a), some (.int (m : Int)), some (.int c), some (.int b)], ?_, ?_⟩
      · refine ⟨_, rfl, _, _, rfl, rfl, ⟨by decide, by decide, by decide⟩, _, _, rfl, rfl, _, rfl, ?_⟩
        by_cases e : (10 : Int) ^ (18 : Int).toNat ≤ c
        · refine ifT (decide_eq_true e) ?_
          refine ⟨_, rfl, .inl ⟨c, rfl, ?_⟩⟩
          refine ⟨_, _, rfl, rfl, ⟨by decide, by decide, by decide⟩, _, _, rfl, rfl, ⟨by decide, by decide +kernel⟩, _, _, rfl, rfl, (by show ((10 : Int) ^ (50 : Int).toNat) ^ (8 : Int).toNat ≠ 0; decide +kernel), rfl, _, ?_, rfl⟩
          exact Int.fmod_nonneg_of_pos _ (by decide +kernel)
        · exact ifF (decide_eq_false e) ⟨rfl, 0, by decide, rfl⟩
      · rintro _ H2 ⟨e2, b, hb, rfl⟩
        subst e2
        intro p hp
        refine ⟨_, rfl, _, rfl, .inl ⟨c, rfl, _, _, rfl, rfl, (by show (2147483647 : Int) ≠ 0; decide), _, rfl, _, _, rfl, rfl, .inl ⟨by decide, by decide⟩, upd_same, [((.inr "big" : Key), .int b), (.inr "seed", .int (c.fmod 2147483647)), (.inr "k", .int (7 * (m : Int)))], rfl, (by show 3 ≤ 15; decide), ?_⟩⟩
        refine (congrArg (fun l => Q (.ref p) l) ?_).mp (k p b (c.fmod 2147483647) (7 * (m : Int)) hp hb)
        rw [mk_pool]
        exact upd_upd.symm
end
end Op
namespace Op
open PySem L2 PyProof.Rows
/-! ### a table with one more entry -/
def putP (t : List (Str × PyData)) (x : Str) (d : PyData) : List (Str × PyData) := if (t.any fun q => decide (q.1 = x)) = true then t.map (fun q => if q.1 = x then (q.1, d) else q) else t ++ [(x, d)]
section
variable {K : PySem.W.Frag} {H : Hp} {x : Str} {v : V} {d : PyData}
theorem KvsR.any : ∀ {vs : List (Key × V)} {t : List (Str × PyData)}, KvsR K H vs t → (vs.any fun kv => decide (kv.1 = (.inr x : Key))) = t.any fun q => decide (q.1 = x)
  | [], [], _ => rfl
  | (k, u) :: r, (y, e) :: t, ⟨h1, _, h3⟩ => by
    rw [List.any_cons, List.any_cons, KvsR.any h3, h1]
    congr 1
    by_cases z : y = x
    · rw [z, decide_eq_true rfl, decide_eq_true rfl]
    · rw [decide_eq_false z, decide_eq_false fun w => z (Sum.inr.inj w)]
theorem KvsR.set (hv : Dp K H v d) : ∀ {vs : List (Key × V)} {t : List (Str × PyData)}, KvsR K H vs t → KvsR K H (vs.map fun kv => if kv.1 = (.inr x : Key) then (kv.1, v) else kv) (t.map fun q => if q.1 = x then (q.1, d) else q)
  | [], [], _ => trivial
  | (k, u) :: r, (y, e) :: t, ⟨h1, h2, h3⟩ => by
    rw [List.map_cons, List.map_cons]
    by_cases z : y = x
    · rw [if_pos z, if_pos (h1.trans (congrArg Sum.inr z))]
      exact ⟨h1, hv, KvsR.set hv h3⟩
    · rw [if_neg z, if_neg fun w => z (Sum.inr.inj (h1.symm.trans w))]
      exact ⟨h1, h2, KvsR.set hv h3⟩
theorem KvsR.put {vs : List (Key × V)} {t : List (Str × PyData)} (h : KvsR K H vs t) (hv : Dp K H v d) : KvsR K H (putK vs (.inr x) v) (putP t x d) := by
  unfold putK putP
  rw [h.any]
  split
  · exact h.set hv
  · exact h.snoc hv
end
section
variable {t : List (Str × PyData)} {x : Str} {d : PyData}
theorem putP_keys : (putP t x d).map (·.1) = if x ∈ t.map (·.1) then t.map (·.1) else t.map (·.1) ++ [x] := by
  unfold putP
  by_cases z : x ∈ t.map (·.1)
  · rw [if_pos z, if_pos]
    · rw [List.map_map]
      refine List.map_congr_left fun q _ => ?_
      show (if q.1 = x then (q.1, d) else q).1 = q.1
      split <;> rfl
    · obtain ⟨q, hq, e⟩ := List.mem_map.mp z
      exact List.any_eq_true.mpr ⟨q, hq, decide_eq_true e⟩
  · rw [if_neg z, if_neg]
    · rw [List.map_append]
      rfl
    · intro h
      obtain ⟨q, hq, e⟩ := List.any_eq_true.mp h
      exact z (List.mem_map.mpr ⟨q, hq, of_decide_eq_true e⟩)
theorem putP_len : (putP t x d).length ≤ t.length + 1 := by
  unfold putP
  split
  · rw [List.length_map]; omega
  · rw [List.length_append]; exact Nat.le_refl _
theorem putP_nodup (h : (t.map (·.1)).Nodup) : ((putP t x d).map (·.1)).Nodup := by
  rw [putP_keys]
  split
  · exact h
  · rename_i z
    exact List.nodup_append.mpr ⟨h, List.nodup_cons.mpr ⟨List.not_mem_nil, List.nodup_nil⟩, fun a ha b hb e => z (by rw [← List.mem_singleton.mp hb, ← e]; exact ha)⟩
theorem putP_sub {y : Str} (h : y ∈ t.map (·.1)) : y ∈ (putP t x d).map (·.1) := by
  rw [putP_keys]
  split
  · exact h
  · exact List.mem_append.mpr (.inl h)
theorem putP_all {R : Str × PyData → Prop} (h : ∀ q ∈ t, R q) (hx : R (x, d)) : ∀ q ∈ putP t x d, R q := by
  intro q hq
  unfold putP at hq
  split at hq
  · obtain ⟨q', h1, rfl⟩ := List.mem_map.mp hq
    by_cases e : q'.1 = x
    · rw [if_pos e, e]; exact hx
    · rw [if_neg e]; exact h q' h1
  · rcases List.mem_append.mp hq with hq | hq
    · exact h q hq
    · rw [List.mem_singleton.mp hq]; exact hx
end
/-! ### the spec of the law, as it grows -/
def RvL (K : PySem.W.Frag) (H : Hp) (rv : V) (ds : List PyData) : Prop := ∃ l xs, rv = .ref l ∧ H l = some (.lst xs) ∧ DpAll K H xs ds
theorem RvL.kp {K : PySem.W.Frag} {H H' : Hp} {rv : V} {ds : List PyData} (h : RvL K H rv ds) (s : Kp H H') : RvL K H' rv ds := let ⟨l, xs, e, h1, h2⟩ := h; ⟨l, xs, e, s _ _ h1 rfl, h2.kp s⟩
theorem RvL.dp {K : PySem.W.Frag} {H : Hp} {rv : V} {ds : List PyData} (h : RvL K H rv ds) : Dp K H rv (.list ds) := let ⟨l, xs, e, h1, h2⟩ := h; e ▸ .lst (.inl (.inl h1)) h2
structure WdS (K : PySem.W.Frag) (H : Hp) (p sd nd pa ps : Addr) (iv rv : V) (wa ws : List (Key × V)) (G : Gn) (ka ks : List (Str × PyData)) (ins : PyData) (ds : List PyData) (na nb c m : Nat) : Prop where
  pl : Pl H p
  dis : [p, sd, pa, ps].Nodup
  sd : H sd = some (.dK (spK nd pa ps iv rv))
  pa : H pa = some (.dK wa)
  kra : KvsR K H wa ka
  ps : H ps = some (.dK ws)
  krs : KvsR K H ws ks
  iv : Dp K H iv ins
  rv : RvL K H rv ds
  gn : GnV G
  ea : ∀ x ∈ G.asks, x ∈ ka.map (·.1)
  eb : ∀ x ∈ G.boxes, x ∈ ks.map (·.1)
  a1 : ∀ p ∈ ka, isWordS p.1 = true ∧ areWords 4 p.2 = true
  a2 : ka.length ≤ na
  a3 : (ka.map (·.1)).Nodup
  b1 : ∀ p ∈ ks, isWordS p.1 = true ∧ isBox p.2 = true
  b2 : ks.length ≤ nb
  b3 : (ks.map (·.1)).Nodup
  i1 : areWords 3 ins = true
  gr : GRows G 5 false ds
  ct : cntL 5 ds ≤ c
  wt : wts ds ≤ m
section
variable {K : PySem.W.Frag} {H H' : Hp} {p sd nd pa ps : Addr} {iv rv : V} {wa ws : List (Key × V)} {G : Gn} {ka ks : List (Str × PyData)} {ins : PyData} {ds : List PyData} {na nb c m : Nat}
theorem WdS.ne (h : WdS K H p sd nd pa ps iv rv wa ws G ka ks ins ds na nb c m) : sd ≠ p ∧ pa ≠ p ∧ ps ≠ p ∧ sd ≠ pa ∧ sd ≠ ps ∧ pa ≠ ps := by
  have d := h.dis
  simp only [List.nodup_cons, List.mem_cons, List.not_mem_nil, or_false, not_or, not_false_iff, List.nodup_nil, and_true] at d
  obtain ⟨⟨h1, h2, h3⟩, ⟨h4, h5⟩, h6⟩ := d
  exact ⟨fun e => h1 e.symm, fun e => h2 e.symm, fun e => h3 e.symm, h4, h5, h6⟩
theorem WdS.but (h : WdS K H p sd nd pa ps iv rv wa ws G ka ks ins ds na nb c m) (b : But p H H') (hp : Pl H' p) : WdS K H' p sd nd pa ps iv rv wa ws G ka ks ins ds na nb c m := by
  have kp := h.pl.kp b
  have n := h.ne
  exact { h with pl := hp, sd := b _ _ h.sd n.1, pa := b _ _ h.pa n.2.1, kra := h.kra.mono kp, ps := b _ _ h.ps n.2.2.1, krs := h.krs.mono kp, iv := h.iv.kp kp, rv := h.rv.kp kp }
theorem WdS.same (h : WdS K H p sd nd pa ps iv rv wa ws G ka ks ins ds na nb c m) (s : Same H H') : WdS K H' p sd nd pa ps iv rv wa ws G ka ks ins ds na nb c m := h.but (Same.but s) (h.pl.mono s)
theorem Pl.other {a : Addr} {o : HO} (h : Pl H p) (n : a ≠ p) : Pl (L2.upd H a o) p := by
  obtain ⟨b, s, c, e, z⟩ := h
  exact ⟨b, s, c, by rw [L2.upd_ne (fun e => n e.symm)]; exact e, z⟩
theorem WdS.sig {x : Str} {v : V} {d : PyData} (h : WdS K H p sd nd pa ps iv rv wa ws G ka ks ins ds na nb c m) (hv : Dp K H v d) (hx : isWordS x = true) (hb : isBox d = true) : WdS K (L2.upd H ps (.dK (putK ws (.inr x) v))) p sd nd pa ps iv rv wa (putK ws (.inr x) v) G ka (putP ks x d) ins ds na (nb + 1) c m := by
  have n := h.ne
  have kp : Kp H (L2.upd H ps (.dK (putK ws (.inr x) v))) := kp_upd h.ps rfl
  exact { h with pl := h.pl.other n.2.2.1, sd := by rw [L2.upd_ne n.2.2.2.2.1]; exact h.sd, pa := by rw [L2.upd_ne n.2.2.2.2.2]; exact h.pa, kra := h.kra.mono kp, ps := upd_same, krs := (h.krs.mono kp).put (hv.kp kp), iv := h.iv.kp kp, rv := h.rv.kp kp, eb := fun y hy => putP_sub (h.eb y hy), b1 := putP_all h.b1 ⟨hx, hb⟩, b2 := Nat.le_trans putP_len (Nat.succ_le_succ h.b2), b3 := putP_nodup h.b3 }
theorem WdS.ask {x : Str} {v : V} {d : PyData} (h : WdS K H p sd nd pa ps iv rv wa ws G ka ks ins ds na nb c m) (hv : Dp K H v d) (hx : isWordS x = true) (hb : areWords 4 d = true) : WdS K (L2.upd H pa (.dK (putK wa (.inr x) v))) p sd nd pa ps iv rv (putK wa (.inr x) v) ws G (putP ka x d) ks ins ds (na + 1) nb c m := by
  have n := h.ne
  have kp : Kp H (L2.upd H pa (.dK (putK wa (.inr x) v))) := kp_upd h.pa rfl
  exact { h with pl := h.pl.other n.2.1, sd := by rw [L2.upd_ne n.2.2.2.1]; exact h.sd, ps := by rw [L2.upd_ne (fun e => n.2.2.2.2.2 e.symm)]; exact h.ps, kra := (h.kra.mono kp).put (hv.kp kp), pa := upd_same, krs := h.krs.mono kp, iv := h.iv.kp kp, rv := h.rv.kp kp, ea := fun y hy => putP_sub (h.ea y hy), a1 := putP_all h.a1 ⟨hx, hb⟩, a2 := Nat.le_trans putP_len (Nat.succ_le_succ h.a2), a3 := putP_nodup h.a3 }
theorem spK_ins (nd pa ps : Addr) (iv rv iv' : V) : putK (spK nd pa ps iv rv) (.inr "inputs") iv' = spK nd pa ps iv' rv := by first | rfl | kernel_rfl
theorem WdS.inp {v : V} {d : PyData} (h : WdS K H p sd nd pa ps iv rv wa ws G ka ks ins ds na nb c m) (hv : Dp K H v d) (hb : areWords 3 d = true) : WdS K (L2.upd H sd (.dK (spK nd pa ps v rv))) p sd nd pa ps v rv wa ws G ka ks d ds na nb c m := by
  have n := h.ne
  have kp : Kp H (L2.upd H sd (.dK (spK nd pa ps v rv))) := kp_upd h.sd rfl
  exact { h with pl := h.pl.other n.1, sd := upd_same, pa := by rw [L2.upd_ne (fun e => n.2.2.2.1 e.symm)]; exact h.pa, ps := by rw [L2.upd_ne (fun e => n.2.2.2.2.1 e.symm)]; exact h.ps, kra := h.kra.mono kp, krs := h.krs.mono kp, iv := hv.kp kp, rv := h.rv.kp kp, i1 := hb }
theorem WdS.rows {v : V} {ds' : List PyData} {c' m' : Nat} (h : WdS K H p sd nd pa ps iv rv wa ws G ka ks ins ds na nb c m) (hv : RvL K H v ds') (h1 : GRows G 5 false ds') (h2 : cntL 5 ds' ≤ c') (h3 : wts ds' ≤ m') : WdS K (L2.upd H sd (.dK (spK nd pa ps iv v))) p sd nd pa ps iv v wa ws G ka ks ins ds' na nb c' m' := by
  have n := h.ne
  have kp : Kp H (L2.upd H sd (.dK (spK nd pa ps iv v))) := kp_upd h.sd rfl
  exact { h with pl := h.pl.other n.1, sd := upd_same, pa := by rw [L2.upd_ne (fun e => n.2.2.2.1 e.symm)]; exact h.pa, ps := by rw [L2.upd_ne (fun e => n.2.2.2.2.1 e.symm)]; exact h.ps, kra := h.kra.mono kp, krs := h.krs.mono kp, iv := h.iv.kp kp, rv := hv.kp kp, gr := h1, ct := h2, wt := h3 }
theorem WdS.up {na' nb' c' m' : Nat} (h : WdS K H p sd nd pa ps iv rv wa ws G ka ks ins ds na nb c m) (h1 : na ≤ na') (h2 : nb ≤ nb') (h3 : c ≤ c') (h4 : m ≤ m') : WdS K H p sd nd pa ps iv rv wa ws G ka ks ins ds na' nb' c' m' := { h with a2 := Nat.le_trans h.a2 h1, b2 := Nat.le_trans h.b2 h2, ct := Nat.le_trans h.ct h3, wt := Nat.le_trans h.wt h4 }
/-- the pool is replaced by another -/
theorem WdS.pool {q : Addr} {b s k : Int} (h : WdS K H p sd nd pa ps iv rv wa ws G ka ks ins ds na nb c m) (hq : H q = none) (hb : 0 ≤ b) : WdS K (L2.upd H q (pool b s k)) q sd nd pa ps iv rv wa ws G ka ks ins ds na nb c m := by
  have h' := h.same (Same.new (o := Op.pool b s k) hq)
  have n := h.ne
  refine { h' with pl := ⟨b, s, k, upd_same, hb⟩, dis := ?_ }
  have n1 : sd ≠ q := fun e => by rw [← e, h.sd] at hq; cases hq
  have n2 : pa ≠ q := fun e => by rw [← e, h.pa] at hq; cases hq
  have n3 : ps ≠ q := fun e => by rw [← e, h.ps] at hq; cases hq
  simp only [List.nodup_cons, List.mem_cons, List.not_mem_nil, or_false, not_or, not_false_iff, List.nodup_nil, and_true]
  exact ⟨⟨fun e => n1 e.symm, fun e => n2 e.symm, fun e => n3 e.symm⟩, ⟨n.2.2.2.1, n.2.2.2.2.1⟩, n.2.2.2.2.2⟩
end
end Op
namespace Op
open PySem L2 PyProof.Rows
theorem WdS.mk0 {K : PySem.W.Frag} {H : Hp} {p sd nd pa ps l : Addr} {iv : V} {xs : List V} {wa ws : List (Key × V)} {G : Gn} {ka ks : List (Str × PyData)} {ins : PyData} {ds : List PyData} (hp : Pl H p) (hn : [p, sd, nd, pa, ps].Nodup) (pv : PartsV G ka ks ins) (so : SpO K H sd nd pa ps l iv xs wa ws ka ks ins ds) (gr : GRows G 5 false ds) {c m : Nat} (hc : cntL 5 ds ≤ c) (hm : wts ds ≤ m) : WdS K H p sd nd pa ps iv (.ref l) wa ws G ka ks ins ds 2 1 c m := by
  have ga := pv.gn.asks
  have hka : ka.length = 2 := by rw [← ga.1, ← pv.ak, List.length_map]
  have hkb : ks.length ≤ 1 := by
    have e : ks.length = G.boxes.length := by rw [← pv.bk, List.length_map]
    rcases pv.gn.boxes with z | z
    · rw [e, z.1]; decide
    · rw [e, z.1]; decide
  have gb : G.boxes.Nodup ∧ ∀ z ∈ G.boxes, nameOk z := by
    rcases pv.gn.boxes with z | z
    · exact z.2
    · exact z.2
  refine ⟨hp, ?_, so.sd, so.pa, so.ka, so.ps, so.ks, so.iv, ⟨l, xs, rfl, so.l, so.dp⟩, pv.gn, fun x hx => by rw [pv.ak]; exact hx, fun x hx => by rw [pv.bk]; exact hx, fun q hq => ⟨name_word (ga.2.2 q.1 (by rw [← pv.ak]; exact List.mem_map.mpr ⟨q, hq, rfl⟩)), pv.av q hq⟩, by omega, by rw [pv.ak]; exact ga.2.1, fun q hq => ⟨name_word (gb.2 q.1 (by rw [← pv.bk]; exact List.mem_map.mpr ⟨q, hq, rfl⟩)), pv.bv q hq⟩, hkb, by rw [pv.bk]; exact gb.1, pv.iv, gr, hc, hm⟩
  simp only [List.nodup_cons, List.mem_cons, List.not_mem_nil, or_false, not_or, not_false_iff, List.nodup_nil, and_true] at hn ⊢
  obtain ⟨⟨h1, h2, h3, h4⟩, ⟨h5, h6, h7⟩, ⟨h8, h9⟩, h10⟩ := hn
  exact ⟨⟨h1, h3, h4⟩, ⟨h6, h7⟩, h10⟩
theorem cut0_map (zs : List Str) (j : Nat) (hj : j ≤ zs.length) : cutV (zs.map V.str) none (some (j : Int)) = (zs.take j).map V.str := by
  unfold cutV
  rw [HT.sIx_nat, List.length_map, show min j zs.length = j by omega, List.map_take]
  rfl
theorem ite_any {b : Bool} {A B : Prop} (hA : A) (hB : B) : if b = true then A else B := by
  cases b
  · exact hB
  · exact hA
theorem slA_use {K : PySem.W.Frag} {H : Hp} {t : Addr} {zs : List Str} {n : Nat} {Q : VK} (hS : SqT K H t (zs.map V.str)) (h1 : n ≤ zs.length) (k : ∀ v H', Same H H' → Dp K H' v (.tuple ((zs.take n).map .str)) → Q v H') : rSlA K (.ref t) none (some (n : Int)) H Q := by
  refine ⟨t, _, rfl, hS, fun e => ?_, fun _ p hp => ?_⟩
  · have e2 := e.2
    rw [HT.sIx_nat, List.length_map] at e2
    refine k _ _ (fun b o h => h) ?_
    rw [List.take_of_length_le (by omega)]
    exact .tup hS (dp_strs _)
  · rw [cut0_map zs n h1]
    exact k _ _ (Same.new hp) (.tup (.inl (.inl upd_same)) (dp_strs _))
def xRows : List PyData := [.tuple [.str "both", .tuple [.list [], .list [.tuple [.str "loop", .list []]], .list [.tuple [.str "part", .list []]]]], .tuple [.str "if", .str "in", .str "a", .list [], .list []]]
theorem nilG {G : Gn} {n : Nat} {lp : Bool} : GRows G (n + 1) lp [] := fun d hd => (List.not_mem_nil hd).elim
theorem xRows_ok {G : Gn} : GRows G 5 false xRows := by
  intro d hd
  rcases List.mem_cons.mp hd with rfl | hd
  · refine GRow.both (ls := [[], [.tuple [.str "loop", .list []]], [.tuple [.str "part", .list []]]]) (by decide) (by decide) fun a ha => ?_
    rcases List.mem_cons.mp ha with rfl | ha
    · exact nilG
    rcases List.mem_cons.mp ha with rfl | ha
    · intro d hd
      rw [List.mem_singleton.mp hd]
      exact .loop nilG
    · rw [List.mem_singleton.mp ha]
      intro d hd
      rw [List.mem_singleton.mp hd]
      exact .part nilG
  · rw [List.mem_singleton.mp hd]
    exact .cond (.inr rfl) (by decide +kernel) nilG nilG
theorem xRows_cnt : cntL 5 xRows = 4 := by decide +kernel
theorem xRows_wts : wts xRows ≤ 100 := by decide +kernel
section
variable {P : Program} {w : World} {K : PySem.W.Frag} {mg : Str → Option Value} {base : Heap}
def spWide (K : PySem.W.Frag) : Sp := fun vs H Q _ => ∃ (a : Addr) (ns : List Int), vs = [.ref a] ∧ SqL K H a (ns.map V.int) ∧ ns.length ≤ 63 ∧
  ∀ (p sd nd pa ps : Addr) (iv rv : V) (wa ws : List (Key × V)) (G : Gn) (ka ks : List (Str × PyData)) (ins : PyData) (ds : List PyData) H', WdS K H' p sd nd pa ps iv rv wa ws G ka ks ins ds 3 3 39 2200 → Q (.ref sd) H'
theorem sc__law_wide : FnScope ["_law_script", "_law_pool_here", "_law_spec_here", "_law_words", "_law_k"] ["_law_script"] (defScope s__law_wide) := ⟨rfl, rfl, rfl, by decide +kernel, rfl, by decide +kernel, by decide +kernel⟩
theorem ok_wide {f : Addr} {fd : FuncData} (F : Fun K "_law_wide" "_law_wide" s__law_wide f fd) (T : Txt mg) (c__law_pool : Cal P w K mg base CX0 1 "_law_pool" ["_law_script", "_law_k"] (spPoolN K)) (c__law_draw : Cal P w K mg base CX0 1 "_law_draw" ["_law_pool_here", "_law_many"] spD) (c__law_names : Cal P w K mg base CX0 2 "_law_names" ["_law_pool_here", "_law_many"] spNames) (c__law_spec : Cal P w K mg base CX0 14 "_law_spec" ["_law_pool_here", "_law_left", "_law_deep"] (spSpec K)) : FnOk P w K mg base CX0 15 f fd ["_law_script"] (spWide K) := by
  refine F.ok sc__law_wide (fun vs H Q E h => ?_) (fun cdv A outer s H vs Q E hr h => ?_)
  · obtain ⟨a, ns, rfl, _⟩ := h
    rfl
  · obtain ⟨a, ns, rfl, hS, hlen, k⟩ := h
    have hu := hu_of hr
    refine ⟨_, (pss_cons (ps_set (i := 1) sc__law_wide.nd rfl (.inl rfl) (pe_cal c__law_pool (hr.mono (by omega)) rfl pass0 (pa_cons (pv 0) (pa_cons pe_int pa_nil))))
      (pss_cons (ps_set (i := 2) sc__law_wide.nd rfl (.inl rfl) (pe_cal c__law_spec (hr.mono (by omega)) rfl pass0 (pa_cons (pv 1) (pa_cons (pe_op op_add pe_int (pe_cal c__law_draw (hr.mono (by omega)) rfl pass0 (pa_cons (pv 1) (pa_cons pe_int pa_nil)))) (pa_cons pe_int pa_nil)))))
      (pss_cons (ps_set (i := 1) sc__law_wide.nd rfl (.inl rfl) (pe_cal c__law_pool (hr.mono (by omega)) rfl pass0 (pa_cons (pv 0) (pa_cons pe_int pa_nil))))
      (pss_cons (ps_set (i := 3) sc__law_wide.nd rfl (.inl rfl) (pe_cal c__law_names (hr.mono (by omega)) rfl pass0 (pa_cons (pv 1) (pa_cons pe_int pa_nil))))
      (pss_cons (ps_for PassesOwn.never rfl (pi_range1 (by rfl) T.b_range (pa_cons (pe_cal c__law_draw (hr.mono (by omega)) rfl pass0 (pa_cons (pv 1) (pa_cons pe_int pa_nil))) pa_nil)) (pg_name (i := 4) sc__law_wide.nd rfl (.inl rfl)) (pss_one (ps_dput hu (pe_dget hu (pv 2) pe_str (fun _ _ => rfl)) (pe_ix ix_list (pe_cal c__law_names (hr.mono (by omega)) rfl pass0 (pa_cons (pv 1) (pa_cons pe_int pa_nil))) (pv 4) (fun _ _ => rfl)) (pe_tup (pa_cons (pe_op op_add pe_int (pe_cal c__law_draw (hr.mono (by omega)) rfl pass0 (pa_cons (pv 1) (pa_cons pe_int pa_nil)))) (pa_cons (pe_callTy call_tuple_of (by rfl) T.b_tuple (by decide +kernel) (pa_cons (pe_slice sl_list (pv 3) po_none (po_some (pe_op op_add pe_int (pv 4)))) pa_nil)) pa_nil))) rfl)))
      (Evl.pss_cut (ps_if (pt_cmpR op_eq (pe_cal c__law_draw (hr.mono (by omega)) rfl pass0 (pa_cons (pv 1) (pa_cons pe_int pa_nil))) pe_int (nomark _)) (pss_one (ps_dput hu (pe_dget hu (pv 2) pe_str (fun _ _ => rfl)) pe_str (pe_slice sl_tupA (pe_tup (pa_cons pe_str (pa_cons pe_str (pa_cons pe_str (pa_cons pe_str pa_nil))))) po_none (po_some (pe_op op_add pe_int (pe_cal c__law_draw (hr.mono (by omega)) rfl pass0 (pa_cons (pv 1) (pa_cons pe_int pa_nil)))))) rfl)) pss_nil)
      (Evl.pss_cut (ps_if (pt_cmpR op_eq (pe_cal c__law_draw (hr.mono (by omega)) rfl pass0 (pa_cons (pv 1) (pa_cons pe_int pa_nil))) pe_int (nomark _)) (pss_one (ps_dput hu (pv 2) pe_str (pe_slice sl_tupA (pe_tup (pa_cons pe_str (pa_cons pe_str (pa_cons pe_str pa_nil)))) po_none (po_some (pe_op op_add pe_int (pe_cal c__law_draw (hr.mono (by omega)) rfl pass0 (pa_cons (pv 1) (pa_cons pe_int pa_nil)))))) rfl)) pss_nil)
      (Evl.pss_cut (ps_if (pt_cmpR op_eq (pe_cal c__law_draw (hr.mono (by omega)) rfl pass0 (pa_cons (pv 1) (pa_cons pe_int pa_nil))) pe_int (nomark _)) (pss_one (ps_dput hu (pv 2) pe_str (pe_op op_cat (pe_dget hu (pv 2) pe_str (fun _ _ => rfl)) (pe_lst (pa_cons (pe_tup (pa_cons pe_str (pa_cons (pe_tup (pa_cons (pe_lst pa_nil) (pa_cons (pe_lst (pa_cons (pe_tup (pa_cons pe_str (pa_cons (pe_lst pa_nil) pa_nil))) pa_nil)) (pa_cons (pe_lst (pa_cons (pe_tup (pa_cons pe_str (pa_cons (pe_lst pa_nil) pa_nil))) pa_nil)) pa_nil)))) pa_nil))) (pa_cons (pe_tup (pa_cons pe_str (pa_cons pe_str (pa_cons pe_str (pa_cons (pe_lst pa_nil) (pa_cons (pe_lst pa_nil) pa_nil)))))) pa_nil)))) rfl)) pss_nil)
      (pss_one (ps_ret (pv 2))))))))))), ?_⟩
    refine ⟨_, rfl, a, ns, 0, rfl, hS, hlen, fun p0 b0 s0 c0 hp0 hb0 => ?_⟩
    have pl0 : Pl (upd H p0 (pool b0 s0 c0)) p0 := ⟨b0, s0, c0, upd_same, hb0⟩
    have S0 := hS.mono (Same.new (o := pool b0 s0 c0) hp0)
    revert pl0 S0
    generalize upd H p0 _ = H0
    intro pl0 S0
    refine ⟨_, rfl, _, rfl, p0, 6, rfl, pl0, by decide, by decide, fun r H1 r0 r1 b1 pl1 => ?_⟩
    have S1 := SqL.kp S0 (pl0.kp b1)
    refine ⟨_, _, rfl, rfl, p0, 2 + r, 2, rfl, pl1, by omega, by omega, by decide, by decide, fun sd nd pa ps l iv xs G ka ks wa ws ins ds H2 b2 pl2 dis2 _ _ _ _ pv nm2 so gr ct wt => ?_⟩
    have S2 := SqL.kp S1 (pl1.kp b2)
    have W2 := WdS.mk0 pl2 dis2 pv so gr (c := 35) (m := 2100) (by omega) (by omega)
    refine ⟨_, rfl, a, ns, 1, rfl, S2, hlen, fun p b3 s3 c3 hp3 hb3 => ?_⟩
    have W3 := W2.pool (s := s3) (k := c3) hp3 hb3
    revert W3
    generalize upd H2 p _ = H3
    intro W3
    refine ⟨_, rfl, p, 3, rfl, W3.pl, by decide, fun lw st sa H4 hst hsa b4 pl4 _ lw4 => ?_⟩
    have W4 := W3.but b4 pl4
    refine ⟨_, rfl, p, 3, rfl, pl4, by decide, by decide, fun r5 H5 r50 r51 b5 pl5 => ?_⟩
    have W5 := W4.but b5 pl5
    have lw5 := (pl4.kp b5) _ _ lw4 rfl
    obtain ⟨n5, rfl⟩ := Int.eq_ofNat_of_zero_le r50
    have hn5 : n5 ≤ 2 := by omega
    have hgw : nl 3 (nmL st sa 3) := nl_of hst hsa (by decide)
    revert hgw lw5
    generalize nmL st sa 3 = zW
    intro lw5 hgw
    refine ⟨n5, rfl, by omega, by omega, ?_⟩
    rw [Int.toNat_natCast]
    refine for_it walk_range (fun i σ H' => ∃ (y4 : Option V) (ws : List (Key × V)) (ks : List (Str × PyData)), σ = [some (.ref a), some (.ref p), some (.ref sd), some (.ref lw), y4] ∧ WdS K H' p sd nd pa ps iv (.ref l) wa ws G ka ks ins ds 2 (1 + i) 35 2100 ∧ H' lw = some (.lst (zW.map V.str))) ⟨_, _, _, rfl, W5, lw5⟩ (fun _ _ _ _ _ => trivial) ?_ ?_
    · rintro i v σ HY HZ hi ⟨y4, ws, ks, rfl, W6, lw6⟩ ⟨rfl, rfl⟩
      refine ⟨_, rfl, p, 3, rfl, W6.pl, by decide, by decide, fun r7 H7 r70 r71 b7 pl7 => ?_⟩
      have W7 := W6.but b7 pl7
      have lw7 := (W6.pl.kp b7) _ _ lw6 rfl
      have hz3 : zW.length = 3 := hgw.1
      refine ⟨_, _, rfl, rfl, _, rfl, _, rfl, _, _, rfl, rfl, _, rfl, lw, _, rfl, .inl (.inl lw7), fun q hq => ?_⟩
      rw [show (1 : Int) + (0 + (i : Int)) = ((i + 1 : Nat) : Int) by omega, cut0_map zW (i + 1) (by omega)]
      refine ⟨q, _, rfl, .inl ⟨.inl (.inl upd_same), fun t ht => ⟨sz_lit (by show 2 ≤ 100000; decide), fun t2 ht2 => ?_⟩⟩⟩
      have s8 := ((Same.new (o := .lst ((zW.take (i + 1)).map V.str)) hq).trans (Same.new (o := .tup ((zW.take (i + 1)).map V.str)) ht)).trans (Same.new (o := .tup [.int (1 + r7), .ref t]) ht2)
      have t8 := Same.new (o := .tup [.int (1 + r7), .ref t]) ht2 _ _ (at_new (o := .tup ((zW.take (i + 1)).map V.str)) ht)
      have u8 := at_new (o := .tup [.int (1 + r7), .ref t]) ht2
      revert s8 t8 u8
      generalize upd (upd (upd H7 q _) t _) t2 _ = H8
      intro s8 t8 u8
      have W8 := W7.same s8
      have hd8 : Dp K H8 (.ref t2) (.tuple [.int (1 + r7), .tuple ((zW.take (i + 1)).map .str)]) := .tup (.inl (.inl u8)) (.cons (.int _) (.cons (.tup (.inl (.inl t8)) (dp_strs _)) .nil))
      have hbx : isBox (.tuple [.int (1 + r7), .tuple ((zW.take (i + 1)).map .str)]) = true := by
        show (decide (1 ≤ 1 + r7 ∧ 1 + r7 ≤ 3) && areWords 3 (.tuple ((zW.take (i + 1)).map .str))) = true
        rw [decide_eq_true ⟨by omega, by omega⟩, words_ok (by rw [List.length_take]; omega) (by rw [List.length_take]; omega) (nd_take hgw.2.1 _) fun y hy => name_word (hgw.2.2 y (List.mem_of_mem_take hy))]
        rfl
      refine ⟨_, rfl, sd, _, rfl, DGet.k (k := (.inr "signals" : Key)) W8.sd, _, rfl, p, 3, rfl, W8.pl, by decide, fun l9 st9 sa9 H9 hst9 hsa9 b9 pl9 _ lz9 => ?_⟩
      have W9 := W8.but b9 pl9
      have kp9 := W8.pl.kp b9
      have hg9 : nl 3 (nmL st9 sa9 3) := nl_of hst9 hsa9 (by decide)
      revert hg9 lz9
      generalize nmL st9 sa9 3 = zN
      intro lz9 hg9
      have hi3 : i < zN.length := by rw [hg9.1]; omega
      have hgz : (zN.map V.str)[i]? = some (.str zN[i]) := by rw [List.getElem?_map, List.getElem?_eq_getElem hi3]; rfl
      have hkl := W9.krs.len
      have hb9 := W9.b2
      refine ⟨_, rfl, l9, _, ((i : Nat) : Int), _, rfl, congrArg V.int (Int.zero_add _), .inl (.inl lz9), atI_nat (j := i) hgz, ps, _, rfl, DPut.k (k := (.inr zN[i] : Key)) W9.ps (lt_sz (by omega)), ?_⟩
      refine ⟨_, _, _, rfl, (W9.sig (hd8.kp kp9) (name_word (hg9.2.2 _ (List.getElem_mem hi3))) hbx).up (Nat.le_refl _) (by omega) (Nat.le_refl _) (Nat.le_refl _), ?_⟩
      exact kp_upd W9.ps rfl _ _ (kp9 _ _ (s8 _ _ lw7) rfl) rfl
    · rintro σ H6 ⟨y4, ws, ks, rfl, W6, lw6⟩
      have W6' := W6.up (na' := 2) (nb' := 3) (c' := 35) (m' := 2100) (Nat.le_refl _) (by omega) (Nat.le_refl _) (Nat.le_refl _)
      refine ⟨fun σ H' => ∃ (wa : List (Key × V)) (ka : List (Str × PyData)), σ = [some (.ref a), some (.ref p), some (.ref sd), some (.ref lw), y4] ∧ WdS K H' p sd nd pa ps iv (.ref l) wa ws G ka ks ins ds 3 3 35 2100, ?_, ?_⟩
      · refine ⟨_, rfl, p, 2, rfl, W6'.pl, by decide, by decide, fun r7 H7 r70 r71 b7 pl7 => ?_⟩
        have W7 := W6'.but b7 pl7
        refine ⟨rfl, _, rfl, ite_any ?_ ⟨_, _, rfl, W7.up (by decide) (Nat.le_refl _) (Nat.le_refl _) (Nat.le_refl _)⟩⟩
        refine ⟨sz_lit (by show 4 ≤ 100000; decide), fun t ht => ?_⟩
        have W8 := W7.same (Same.new (o := .tup ((["no", "yes", "a", "zz"] : List Str).map V.str)) ht)
        have t8 := at_new (o := .tup ((["no", "yes", "a", "zz"] : List Str).map V.str)) ht
        refine ⟨_, rfl, p, 4, rfl, W8.pl, by decide, by decide, fun r9 H9 r90 r91 b9 pl9 => ?_⟩
        have W9 := W8.but b9 pl9
        have t9 := (W8.pl.kp b9) _ _ t8 rfl
        obtain ⟨n9, rfl⟩ := Int.eq_ofNat_of_zero_le r90
        refine ⟨_, _, rfl, rfl, _, rfl, ?_⟩
        rw [show (1 : Int) + (n9 : Int) = ((n9 + 1 : Nat) : Int) by omega]
        refine slA_use (zs := ["no", "yes", "a", "zz"]) (.inl (.inl t9)) (by show n9 + 1 ≤ 4; omega) (fun v HA sA dA => ?_)
        have WA := W9.same sA
        have hkl := WA.kra.len
        have ha2 := WA.a2
        refine ⟨_, rfl, sd, _, rfl, DGet.k (k := (.inr "asks" : Key)) WA.sd, pa, _, rfl, DPut.k (k := (.inr "ab" : Key)) WA.pa (lt_sz (by omega)), _, _, rfl, WA.ask dA (by decide +kernel) ?_⟩
        have : n9 = 0 ∨ n9 = 1 ∨ n9 = 2 ∨ n9 = 3 := by omega
        rcases this with rfl | rfl | rfl | rfl <;> decide +kernel
      · rintro σ H7 ⟨wa, ka, rfl, W7⟩
        refine ⟨fun σ H' => ∃ (iv : V) (ins : PyData), σ = [some (.ref a), some (.ref p), some (.ref sd), some (.ref lw), y4] ∧ WdS K H' p sd nd pa ps iv (.ref l) wa ws G ka ks ins ds 3 3 35 2100, ?_, ?_⟩
        · refine ⟨_, rfl, p, 2, rfl, W7.pl, by decide, by decide, fun r8 H8 r80 r81 b8 pl8 => ?_⟩
          have W8 := W7.but b8 pl8
          refine ⟨rfl, _, rfl, ite_any ?_ ⟨_, _, rfl, W8⟩⟩
          refine ⟨sz_lit (by show 3 ≤ 100000; decide), fun t ht => ?_⟩
          have W9 := W8.same (Same.new (o := .tup ((["zz", "b", "a"] : List Str).map V.str)) ht)
          have t9 := at_new (o := .tup ((["zz", "b", "a"] : List Str).map V.str)) ht
          refine ⟨_, rfl, p, 3, rfl, W9.pl, by decide, by decide, fun r9 HA r90 r91 bA plA => ?_⟩
          have WA := W9.but bA plA
          have tA := (W9.pl.kp bA) _ _ t9 rfl
          obtain ⟨n9, rfl⟩ := Int.eq_ofNat_of_zero_le r90
          refine ⟨_, _, rfl, rfl, _, rfl, ?_⟩
          rw [show (1 : Int) + (n9 : Int) = ((n9 + 1 : Nat) : Int) by omega]
          refine slA_use (zs := ["zz", "b", "a"]) (.inl (.inl tA)) (by show n9 + 1 ≤ 3; omega) (fun v HB sB dB => ?_)
          have WB := WA.same sB
          have hw3 : areWords 3 (.tuple ((["zz", "b", "a"] : List Str).take (n9 + 1) |>.map .str)) = true := by
            have : n9 = 0 ∨ n9 = 1 ∨ n9 = 2 := by omega
            rcases this with rfl | rfl | rfl <;> decide +kernel
          refine ⟨_, rfl, sd, _, rfl, DPut.k (k := (.inr "inputs" : Key)) WB.sd (lt_sz (by show 5 < 100000; decide)), ?_⟩
          rw [spK_ins]
          exact ⟨_, _, rfl, WB.inp dB hw3⟩
        · rintro σ H8 ⟨iv, ins, rfl, W8⟩
          refine ⟨fun σ H' => ∃ (rv : V) (ds : List PyData), σ = [some (.ref a), some (.ref p), some (.ref sd), some (.ref lw), y4] ∧ WdS K H' p sd nd pa ps iv rv wa ws G ka ks ins ds 3 3 39 2200, ?_, ?_⟩
          · refine ⟨_, rfl, p, 3, rfl, W8.pl, by decide, by decide, fun r9 H9 r90 r91 b9 pl9 => ?_⟩
            have W9 := W8.but b9 pl9
            refine ⟨rfl, _, rfl, ite_any ?_ ⟨_, _, rfl, W9.up (Nat.le_refl _) (Nat.le_refl _) (by decide) (by decide)⟩⟩
            refine ⟨_, rfl, sd, _, rfl, DGet.k (k := (.inr "rows" : Key)) W9.sd, ?_⟩
            refine ⟨sz_lit (by show 0 ≤ 100000; decide), fun q1 hq1 => ?_⟩
            have s1 := Same.new (o := .lst []) hq1
            have e1 := at_new (o := .lst []) hq1
            revert s1 e1
            generalize upd H9 q1 _ = K1
            intro s1 e1
            have D1 : Dp K K1 (.ref q1) (.list []) := .lst (.inl (.inl e1)) (.nil)
            have W1' := W9.same s1
            refine ⟨sz_lit (by show 0 ≤ 100000; decide), fun q2 hq2 => ?_⟩
            have s2 := Same.new (o := .lst []) hq2
            have e2 := at_new (o := .lst []) hq2
            revert s2 e2
            generalize upd K1 q2 _ = K2
            intro s2 e2
            replace D1 := D1.mono s2
            have D2 : Dp K K2 (.ref q2) (.list []) := .lst (.inl (.inl e2)) (.nil)
            have W2' := W1'.same s2
            refine ⟨sz_lit (by show 2 ≤ 100000; decide), fun q3 hq3 => ?_⟩
            have s3 := Same.new (o := .tup [.str "loop", .ref q2]) hq3
            have e3 := at_new (o := .tup [.str "loop", .ref q2]) hq3
            revert s3 e3
            generalize upd K2 q3 _ = K3
            intro s3 e3
            replace D1 := D1.mono s3
            replace D2 := D2.mono s3
            have D3 : Dp K K3 (.ref q3) (.tuple [.str "loop", .list []]) := .tup (.inl (.inl e3)) (.cons (.str _) (.cons D2 .nil))
            have W3' := W2'.same s3
            refine ⟨sz_lit (by show 1 ≤ 100000; decide), fun q4 hq4 => ?_⟩
            have s4 := Same.new (o := .lst [.ref q3]) hq4
            have e4 := at_new (o := .lst [.ref q3]) hq4
            revert s4 e4
            generalize upd K3 q4 _ = K4
            intro s4 e4
            replace D1 := D1.mono s4
            replace D3 := D3.mono s4
            have D4 : Dp K K4 (.ref q4) (.list [.tuple [.str "loop", .list []]]) := .lst (.inl (.inl e4)) (.cons D3 .nil)
            have W4' := W3'.same s4
            refine ⟨sz_lit (by show 0 ≤ 100000; decide), fun q5 hq5 => ?_⟩
            have s5 := Same.new (o := .lst []) hq5
            have e5 := at_new (o := .lst []) hq5
            revert s5 e5
            generalize upd K4 q5 _ = K5
            intro s5 e5
            replace D1 := D1.mono s5
            replace D4 := D4.mono s5
            have D5 : Dp K K5 (.ref q5) (.list []) := .lst (.inl (.inl e5)) (.nil)
            have W5' := W4'.same s5
            refine ⟨sz_lit (by show 2 ≤ 100000; decide), fun q6 hq6 => ?_⟩
            have s6 := Same.new (o := .tup [.str "part", .ref q5]) hq6
            have e6 := at_new (o := .tup [.str "part", .ref q5]) hq6
            revert s6 e6
            generalize upd K5 q6 _ = K6
            intro s6 e6
            replace D1 := D1.mono s6
            replace D4 := D4.mono s6
            replace D5 := D5.mono s6
            have D6 : Dp K K6 (.ref q6) (.tuple [.str "part", .list []]) := .tup (.inl (.inl e6)) (.cons (.str _) (.cons D5 .nil))
            have W6' := W5'.same s6
            refine ⟨sz_lit (by show 1 ≤ 100000; decide), fun q7 hq7 => ?_⟩
            have s7 := Same.new (o := .lst [.ref q6]) hq7
            have e7 := at_new (o := .lst [.ref q6]) hq7
            revert s7 e7
            generalize upd K6 q7 _ = K7
            intro s7 e7
            replace D1 := D1.mono s7
            replace D4 := D4.mono s7
            replace D6 := D6.mono s7
            have D7 : Dp K K7 (.ref q7) (.list [.tuple [.str "part", .list []]]) := .lst (.inl (.inl e7)) (.cons D6 .nil)
            have W7' := W6'.same s7
            refine ⟨sz_lit (by show 3 ≤ 100000; decide), fun q8 hq8 => ?_⟩
            have s8 := Same.new (o := .tup [.ref q1, .ref q4, .ref q7]) hq8
            have e8 := at_new (o := .tup [.ref q1, .ref q4, .ref q7]) hq8
            revert s8 e8
            generalize upd K7 q8 _ = K8
            intro s8 e8
            replace D1 := D1.mono s8
            replace D4 := D4.mono s8
            replace D7 := D7.mono s8
            have D8 : Dp K K8 (.ref q8) (.tuple [.list [], .list [.tuple [.str "loop", .list []]], .list [.tuple [.str "part", .list []]]]) := .tup (.inl (.inl e8)) (.cons D1 (.cons D4 (.cons D7 .nil)))
            have W8' := W7'.same s8
            refine ⟨sz_lit (by show 2 ≤ 100000; decide), fun q9 hq9 => ?_⟩
            have s9 := Same.new (o := .tup [.str "both", .ref q8]) hq9
            have e9 := at_new (o := .tup [.str "both", .ref q8]) hq9
            revert s9 e9
            generalize upd K8 q9 _ = K9
            intro s9 e9
            replace D8 := D8.mono s9
            have D9 : Dp K K9 (.ref q9) (.tuple [.str "both", .tuple [.list [], .list [.tuple [.str "loop", .list []]], .list [.tuple [.str "part", .list []]]]]) := .tup (.inl (.inl e9)) (.cons (.str _) (.cons D8 .nil))
            have W9' := W8'.same s9
            refine ⟨sz_lit (by show 0 ≤ 100000; decide), fun q10 hq10 => ?_⟩
            have s10 := Same.new (o := .lst []) hq10
            have e10 := at_new (o := .lst []) hq10
            revert s10 e10
            generalize upd K9 q10 _ = K10
            intro s10 e10
            replace D9 := D9.mono s10
            have D10 : Dp K K10 (.ref q10) (.list []) := .lst (.inl (.inl e10)) (.nil)
            have W10' := W9'.same s10
            refine ⟨sz_lit (by show 0 ≤ 100000; decide), fun q11 hq11 => ?_⟩
            have s11 := Same.new (o := .lst []) hq11
            have e11 := at_new (o := .lst []) hq11
            revert s11 e11
            generalize upd K10 q11 _ = K11
            intro s11 e11
            replace D9 := D9.mono s11
            replace D10 := D10.mono s11
            have D11 : Dp K K11 (.ref q11) (.list []) := .lst (.inl (.inl e11)) (.nil)
            have W11' := W10'.same s11
            refine ⟨sz_lit (by show 5 ≤ 100000; decide), fun q12 hq12 => ?_⟩
            have s12 := Same.new (o := .tup [.str "if", .str "in", .str "a", .ref q10, .ref q11]) hq12
            have e12 := at_new (o := .tup [.str "if", .str "in", .str "a", .ref q10, .ref q11]) hq12
            revert s12 e12
            generalize upd K11 q12 _ = K12
            intro s12 e12
            replace D9 := D9.mono s12
            replace D10 := D10.mono s12
            replace D11 := D11.mono s12
            have D12 : Dp K K12 (.ref q12) (.tuple [.str "if", .str "in", .str "a", .list [], .list []]) := .tup (.inl (.inl e12)) (.cons (.str _) (.cons (.str _) (.cons (.str _) (.cons D10 (.cons D11 .nil)))))
            have W12' := W11'.same s12
            refine ⟨sz_lit (by show 2 ≤ 100000; decide), fun q13 hq13 => ?_⟩
            have s13 := Same.new (o := .lst [.ref q9, .ref q12]) hq13
            have e13 := at_new (o := .lst [.ref q9, .ref q12]) hq13
            revert s13 e13
            generalize upd K12 q13 _ = K13
            intro s13 e13
            replace D9 := D9.mono s13
            replace D12 := D12.mono s13
            have L13 : DpAll K K13 [.ref q9, .ref q12] xRows := .cons D9 (.cons D12 .nil)
            have W13' := W12'.same s13
            obtain ⟨l0, xs0, el0, hl0, dp0⟩ := W13'.rv
            have hxl := dp0.len
            have hdl := wts_len ds
            have hwt := W13'.wt
            refine ⟨l0, q13, _, _, el0, rfl, hl0, e13, sz_lit (by show _ + 2 ≤ _; omega), fun q14 hq14 => ?_⟩
            have s14 := Same.new (o := .lst (xs0 ++ [.ref q9, .ref q12])) hq14
            have W14 := W13'.same s14
            refine ⟨_, rfl, sd, _, rfl, DPut.k (k := (.inr "rows" : Key)) W14.sd (lt_sz (by show 5 < 100000; decide)), ?_⟩
            rw [spK_rows]
            have hct := W13'.ct
            exact ⟨_, ds ++ xRows, rfl, W14.rows ⟨q14, _, rfl, upd_same, (dp0.mono s14).append (L13.mono s14)⟩ (GRows.app W14.gr xRows_ok) (by rw [cntL_app, xRows_cnt]; omega) (by rw [wts_append]; have := xRows_wts; omega)⟩
          · rintro σ H9 ⟨rv, ds, rfl, W9⟩
            exact ⟨_, rfl, k _ _ _ _ _ _ _ _ _ _ _ _ _ _ _ W9⟩
end
end Op
namespace Op
open PySem L2 PyProof.Rows
section
variable {G : Gn} {ka ks : List (Str × PyData)} {ins : PyData} {ds : List PyData}
/-- what the spec of the law is good for -/
structure WdV (G : Gn) (ka ks : List (Str × PyData)) (ins : PyData) (ds : List PyData) : Prop where
  gn : GnV G
  ea : ∀ x ∈ G.asks, x ∈ ka.map (·.1)
  eb : ∀ x ∈ G.boxes, x ∈ ks.map (·.1)
  hv : HdV ka ks ins
  gr : GRows G 5 false ds
  ct : cntL 5 ds ≤ 39
  wt : wts ds ≤ 2200
theorem WdV.perm {ka' ks' : List (Str × PyData)} (h : WdV G ka ks ins ds) (pa : ka'.Perm ka) (pb : ks'.Perm ks) : WdV G ka' ks' ins ds := by
  refine ⟨h.gn, fun x hx => (pa.map _).mem_iff.mpr (h.ea x hx), fun x hx => (pb.map _).mem_iff.mpr (h.eb x hx), ⟨fun p hp => h.hv.a1 p (pa.mem_iff.mp hp), ?_, (pa.map _).nodup_iff.mpr h.hv.a3, fun p hp => h.hv.b1 p (pb.mem_iff.mp hp), ?_, (pb.map _).nodup_iff.mpr h.hv.b3, h.hv.i1⟩, h.gr, h.ct, h.wt⟩
  · rw [pa.length_eq]; exact h.hv.a2
  · rw [pb.length_eq]; exact h.hv.b2
theorem WdV.tabA (h : WdV G ka ks ins ds) : okTab (areWords 4) 6 (.dict ka) = some ka := by
  show (if ka.length ≤ 6 ∧ (ka.all fun p => isWordS p.1 && areWords 4 p.2) = true then some ka else none) = _
  rw [if_pos ⟨h.hv.a2, List.all_eq_true.mpr fun p hp => by rw [(h.hv.a1 p hp).1, (h.hv.a1 p hp).2]; rfl⟩]
theorem WdV.tabB (h : WdV G ka ks ins ds) : okTab isBox 3 (.dict ks) = some ks := by
  show (if ks.length ≤ 3 ∧ (ks.all fun p => isWordS p.1 && isBox p.2) = true then some ks else none) = _
  rw [if_pos ⟨h.hv.b2, List.all_eq_true.mpr fun p hp => by rw [(h.hv.b1 p hp).1, (h.hv.b1 p hp).2]; rfl⟩]
theorem inS_len {zs ys : List Str} (h : InS zs ys) : ys.length ≤ zs.length := nodup_sub h.1 h.2
theorem inS_nil {zs : List Str} : InS zs [] := ⟨List.nodup_nil, fun x hx => (List.not_mem_nil hx).elim⟩
theorem WdV.chk (h : WdV G ka ks ins ds) : ∃ c, checkAll ⟨ka.map (·.1), ks.map (·.1), false⟩ (.list ds) = .ok c ∧ chkL ⟨ka.map (·.1), ks.map (·.1), false⟩ 5 false ds [] chk0 = .ok c := by
  obtain ⟨c, hc, mv⟩ := gen_chk h.gn (E := ⟨ka.map (·.1), ks.map (·.1), false⟩) ⟨h.ea, h.eb, rfl⟩ 5 (Nat.le_refl _) false ds h.gr [] chk0 rfl
  refine ⟨c, ?_, hc⟩
  have hs : sizes c = none := by
    have h1 := inS_len (mv.lab inS_nil)
    have h2 := inS_len (mv.slo inS_nil)
    have h3 := inS_len (mv.gat inS_nil)
    have h4 : c.edits = [] := mv.edi
    have h5 : c.total = 0 + cntL 5 ds := mv.tot
    have h6 := h.ct
    rw [h.gn.labels.1] at h1
    rw [h.gn.slots.1] at h2
    rw [h.gn.ids.1] at h3
    unfold sizes
    rw [if_neg (by omega), if_neg (by omega), if_neg (by omega), if_neg (by rw [h4]; show ¬ 8 < _ + 0; omega), if_neg (by rw [h4]; decide)]
  unfold checkAll
  dsimp only
  rw [hc]
  dsimp only
  rw [hs]
theorem WdV.prog (h : WdV G ka ks ins ds) {part : Str} {path : List Int} : ¬ progCheck false (.dict ka) (.dict ks) ins (.list ds) = .error (part, path) := by
  intro e
  obtain ⟨c, hc, _⟩ := h.chk
  unfold progCheck at e
  rw [h.tabA] at e
  dsimp only at e
  rw [h.tabB] at e
  dsimp only at e
  rw [if_pos h.hv.i1, hc] at e
  cases e
theorem WdV.rowsF (h : WdV G ka ks ins ds) : rowsF 5 ds := by
  obtain ⟨c, _, hc⟩ := h.chk
  exact rowsF_of _ rfl 5 _ _ _ _ _ hc (by decide)
theorem WdV.rowsOk (h : WdV G ka ks ins ds) : rowsOk 5 ds := by
  obtain ⟨c, _, hc⟩ := h.chk
  exact rowsOk_of _ 5 _ _ _ _ _ hc (by decide)
theorem WdV.pgv (h : WdV G ka ks ins ds) {ka' ks' : List (Str × PyData)} {ls ss gs : List Str} (pa : ka'.Perm ka) (sa : sortedS (ka'.map (·.1)) = true) (pb : ks'.Perm ks) (sb : sortedS (ks'.map (·.1)) = true) : PgV ⟨ka', ks', ins, ds, ls, ss, gs⟩ := by
  have h' := h.perm pa pb
  exact ⟨h'.hv.a1, h'.hv.a2, h'.hv.a3, sa, h'.hv.b1, h'.hv.b2, h'.hv.b3, sb, h.hv.i1, h.rowsF, h.rowsOk, by have := h.wt; show wts ds ≤ 30000; omega⟩
end
theorem WdS.v {K : PySem.W.Frag} {H : Hp} {p sd nd pa ps : Addr} {iv rv : V} {wa ws : List (Key × V)} {G : Gn} {ka ks : List (Str × PyData)} {ins : PyData} {ds : List PyData} (h : WdS K H p sd nd pa ps iv rv wa ws G ka ks ins ds 3 3 39 2200) : WdV G ka ks ins ds :=
  ⟨h.gn, h.ea, h.eb, ⟨h.a1, Nat.le_trans h.a2 (by decide), h.a3, h.b1, h.b2, h.b3, h.i1⟩, h.gr, h.ct, h.wt⟩
end Op
namespace L2
open PySem PySem.Spec PyProof.Rows
/-- a class by its name, made with keywords -/
def KcalN (P : Program) (w : World) (K : PySem.W.Frag) (mg : Str → Option Value) (base : Heap) (CX : CXT) (k : Nat) (x : Str) (C : Addr) (ps : List Str) (n : Nat) (ks : List Str) (sp : Sp) : Prop :=
  ∃ (f : Addr) (fd : FuncData) (g : List Value → List Value → List Value), Mk K C f ∧ mg x = some (.ref C) ∧ KBn K fd ps (n + 1) ks g (fun vs zs => vs ++ zs) ∧ FnOk P w K mg base CX k f fd ps sp
theorem pe_kcalN {X : Cx} {CX : CXT} {k n : Nat} {x : Str} {C : Addr} {ps ks : List Str} {sp : Sp} {E : XK} {p pos : Pos} {e : Expr} {es : List Expr} {kws : List Keyword} {t tk : TA} (c : KcalN X.prog X.w X.K X.mg X.base CX k x C ps n ks sp) (hr : Room (k + 1) X.A) (hg : Gl X x) (hx : Passes CX X E) (ha : PA X (e :: es) t) (hkw : PK X kws tk)
    (hall : (backToKw pos (keywordEach kws X.env)).all (·.1.isSome) = true := by rfl) (hks : (backToKw pos (keywordEach kws X.env)).filterMap (·.1) = ks := by rfl) (hdb : (x == ("__debug__" : Str)) = false := by decide)
    (he : starEach (e :: es) X.env = (false, eval e X.env) :: starEach es X.env := by rfl) (hpl : ((backTo pos (starEach (e :: es) X.env)).any (·.1) || (backToKw pos (keywordEach kws X.env)).any (·.1.isNone)) = false := by rfl) :
    PE X (.Call (.Name x p) (e :: es) kws pos) (tMakeK C n ks.length sp (fun vs zs => vs ++ zs) E t tk) := by
  obtain ⟨f, fd, g, h1, h2, h3, h4⟩ := c
  exact pe_makeK h1 h4 hr hg h2 h3 hx ha hkw hall hks hdb he hpl
/-- a call that lets nothing out -/
theorem passF {X : Cx} {P : Program} {w : World} : Passes (L2.CX P w) X (fun _ _ _ => False) := fun _ _ _ _ _ _ _ h => by
  obtain ⟨a, B, H', cls, d, _, _, _, _, _, _, _, h⟩ := h
  exact h.elim
end L2
namespace Op
open PySem L2 PyProof.Rows
theorem wts_strs : ∀ {zs : List Str}, (∀ z ∈ zs, w8 z) → wts (zs.map .str) ≤ 9 * zs.length
  | [], _ => by rw [List.map_nil, wts_nil]; exact Nat.zero_le _
  | z :: r, h => by
    have h1 := wts_strs (zs := r) fun z hz => h z (List.mem_cons_of_mem _ hz)
    have h2 : z.length ≤ 8 := h z List.mem_cons_self
    rw [List.map_cons, wts_cons, wt_str, List.length_cons]
    omega
theorem wt_words {m : Int} {d : PyData} (h : areWords m d = true) (hm : m ≤ 10) : wt d ≤ 200 := by
  obtain ⟨zs, rfl, h1, h2⟩ := words_form h
  have := wts_strs h2
  rw [wt_tuple]
  omega
theorem wt_box {d : PyData} (h : isBox d = true) : wt d ≤ 100000 := by
  obtain ⟨n, zs, rfl, n1, n2, h1, h2⟩ := box_form h
  have := wts_strs h2
  have hn : wt (.int n) ≤ 1000 := by
    have : n = 1 ∨ n = 2 ∨ n = 3 := by omega
    rcases this with rfl | rfl | rfl <;> decide +kernel
  rw [wt_tuple, wts_cons, wts_cons, wts_nil, wt_tuple]
  omega
theorem smalls_strs : ∀ {zs : List Str}, (∀ z ∈ zs, w8 z) → smalls (zs.map .str) = true
  | [], _ => rfl
  | z :: r, h => by
    have h2 : z.length ≤ 8 := h z List.mem_cons_self
    show (decide (z.length ≤ 100000) && smalls (r.map .str)) = true
    rw [decide_eq_true (by omega), smalls_strs (zs := r) fun z hz => h z (List.mem_cons_of_mem _ hz)]
    rfl
theorem small_words {d : PyData} (h : areWords 3 d = true) : small d = true := by
  obtain ⟨zs, rfl, h1, h2⟩ := words_form h
  show (decide ((zs.map PyData.str).length ≤ 100000) && smalls (zs.map .str)) = true
  rw [decide_eq_true (by rw [List.length_map]; omega), smalls_strs h2]
  rfl
section
variable {P : Program} {w : World} {K : PySem.W.Frag} {mg : Str → Option Value} {base : Heap} {C CI : Addr}
theorem prog_use {H : Hp} {x dx pa ps : Addr} {iv rv : V} {wa ws : List (Key × V)} {G : Gn} {ka ks : List (Str × PyData)} {ins : PyData} {ds : List PyData} {Q : VK} {E : XK} (hx : H x = some (.ins C dx [])) (hpa : H pa = some (.dK wa)) (kra : KvsR K H wa ka) (hps : H ps = some (.dK ws)) (krs : KvsR K H ws ks) (hiv : Dp K H iv ins) (hrv : Dp K H rv (.list ds)) (wv : WdV G ka ks ins ds)
    (k : ∀ H' A kva kvs ls ss gs, But x H H' → A.x = x → A.C = C → kva.Perm ka → sortedS (kva.map (·.1)) = true → kvs.Perm ks → sortedS (kvs.map (·.1)) = true → PgO K H' A ⟨kva, kvs, ins, ds, ls, ss, gs⟩ → Q .non H') : spProg K C CI [.ref x, rv, .ref pa, .ref ps, iv] H Q E := by
  have ha := wv.hv.a2
  have hb := wv.hv.b2
  have hw := wv.wt
  refine ⟨x, dx, rv, .ref pa, .ref ps, iv, .dict ka, .dict ks, ins, .list ds, rfl, hx, ⟨pa, wa, rfl, hpa, kra, wv.hv.a3⟩, ⟨ps, ws, rfl, hps, krs, wv.hv.b3⟩, ⟨by omega, fun p hp => ⟨?_, ?_⟩⟩, ⟨by omega, fun p hp => ⟨?_, wt_box (wv.hv.b1 p hp).2⟩⟩, hiv, hrv, small_words wv.hv.i1, by rw [wt_list]; omega, ?_, fun part path he => absurd he wv.prog⟩
  · have : p.1.length ≤ 8 := w8_of (wv.hv.a1 p hp).1
    omega
  · have := wt_words (wv.hv.a1 p hp).2 (by decide)
    omega
  · have : p.1.length ≤ 8 := w8_of (wv.hv.b1 p hp).1
    omega
  · intro ka' ks' ds' c e1 e2 _ e3 _ H' A kva kvs ls ss gs b ex eC p1 s1 p2 s2 _ _ _ _ _ _ po
    obtain rfl : ka = ka' := Option.some.inj (wv.tabA.symm.trans e1)
    obtain rfl : ks = ks' := Option.some.inj (wv.tabB.symm.trans e2)
    obtain rfl : ds = ds' := by injection e3
    exact k H' A kva kvs ls ss gs b ex eC p1 s1 p2 s2 (po.mono cut_all)
def spMade (K : PySem.W.Frag) (C : Addr) : Sp := fun vs H Q _ => ∃ (p sd nd pa ps : Addr) (iv rv : V) (wa ws : List (Key × V)) (G : Gn) (ka ks : List (Str × PyData)) (ins : PyData) (ds : List PyData), vs = [.ref sd, rv] ∧ WdS K H p sd nd pa ps iv rv wa ws G ka ks ins ds 3 3 39 2200 ∧
  ∀ H' A kva kvs ls ss gs, Same H H' → A.C = C → kva.Perm ka → sortedS (kva.map (·.1)) = true → kvs.Perm ks → sortedS (kvs.map (·.1)) = true → PgO K H' A ⟨kva, kvs, ins, ds, ls, ss, gs⟩ → Q (.ref A.x) H'
theorem sc__law_made : FnScope ["_law_spec_here", "_law_rows"] ["_law_spec_here", "_law_rows"] (defScope s__law_made) := ⟨rfl, rfl, rfl, by decide +kernel, rfl, by decide +kernel, by decide +kernel⟩
theorem ok_made {f : Addr} {fd : FuncData} (F : Fun K "_law_made" "_law_made" s__law_made f fd) (T : Txt mg) (k_Program : KcalN P w K mg base (L2.CX P w) 13 "Program" C ["self", "rows", "asks", "signals", "inputs"] 1 ["asks", "signals", "inputs"] (spProg K C CI)) : FnOk P w K mg base CX0 15 f fd ["_law_spec_here", "_law_rows"] (spMade K C) := by
  refine F.ok sc__law_made (fun vs H Q E h => ?_) (fun cdv A outer s H vs Q E hr h => ?_)
  · obtain ⟨p, sd, nd, pa, ps, iv, rv, wa, ws, G, ka, ks, ins, ds, rfl, _⟩ := h
    rfl
  · obtain ⟨p, sd, nd, pa, ps, iv, rv, wa, ws, G, ka, ks, ins, ds, rfl, W, k⟩ := h
    have hu := hu_of hr
    refine ⟨_, (pss_one (ps_ret (pe_kcalN k_Program (hr.mono (by omega)) rfl passF (pa_cons (pv 1) pa_nil) (pk_cons (pe_dget hu (pv 0) pe_str (fun _ _ => rfl)) (pk_cons (pe_dget hu (pv 0) pe_str (fun _ _ => rfl)) (pk_cons (pe_dget hu (pv 0) pe_str (fun _ _ => rfl)) pk_nil)))))), ?_⟩
    refine ⟨_, rfl, _, rfl, sd, _, rfl, DGet.k (k := (.inr "asks" : Key)) W.sd, _, rfl, sd, _, rfl, DGet.k (k := (.inr "signals" : Key)) W.sd, _, rfl, sd, _, rfl, DGet.k (k := (.inr "inputs" : Key)) W.sd, rfl, rfl, fun x dx hx hdx hne => ?_⟩
    have s2 : Same H (upd (upd H dx (.own x)) x (.ins C dx [])) := (Same.new hdx).trans (Same.new (by rw [upd_ne hne.symm]; exact hx))
    have x2 : upd (upd H dx (.own x)) x (.ins C dx []) x = some (.ins C dx []) := upd_same
    revert s2 x2
    generalize upd (upd H dx (.own x)) x (.ins C dx []) = H2
    intro s2 x2
    have W2 := W.same s2
    refine prog_use x2 W2.pa W2.kra W2.ps W2.krs W2.iv W2.rv.dp W2.v fun H' A kva kvs ls ss gs b ex eC p1 s1 p2 s2' po => ⟨rfl, ?_⟩
    subst ex
    exact k H' A kva kvs ls ss gs (fun c o hc => b c o (s2 c o hc) fun e => by rw [e, hx] at hc; cases hc) eC p1 s1 p2 s2' po
end
end Op
namespace Op
open PySem L2 PyProof.Rows
theorem keys_perm_eq {a b : List (Str × PyData)} (h : a.Perm b) (ha : sortedS (a.map (·.1)) = true) (hb : sortedS (b.map (·.1)) = true) (hn : (b.map (·.1)).Nodup) : a = b := by
  have e := sorted_eq ha hb (h.map _)
  refine List.ext_getElem? fun i => ?_
  have hl := h.length_eq
  rcases Nat.lt_or_ge i a.length with hi | hi
  · have hi' : i < b.length := by omega
    rw [List.getElem?_eq_getElem hi, List.getElem?_eq_getElem hi']
    have hm : a[i] ∈ b := h.mem_iff.mp (List.getElem_mem hi)
    obtain ⟨j, hj, ej⟩ := List.getElem_of_mem hm
    have k1 : (a.map (·.1))[i]? = some a[i].1 := by rw [List.getElem?_map, List.getElem?_eq_getElem hi]; rfl
    have k2 : (b.map (·.1))[i]? = some b[i].1 := by rw [List.getElem?_map, List.getElem?_eq_getElem hi']; rfl
    have k3 : (b.map (·.1))[j]? = some a[i].1 := by rw [List.getElem?_map, List.getElem?_eq_getElem hj, ej]; rfl
    rw [e] at k1
    have hij : i = j := (List.getElem?_inj (by rw [List.length_map]; omega) hn).mp (k1.trans k3.symm)
    subst hij
    rw [ej]
  · rw [List.getElem?_eq_none hi, List.getElem?_eq_none (by omega)]
section
variable {P : Program} {w : World} {K : PySem.W.Frag} {mg : Str → Option Value} {base : Heap} {C CI : Addr}
def spLaw (K : PySem.W.Frag) : Sp := fun vs H Q _ => ∃ (a : Addr) (ns : List Int), vs = [.ref a] ∧ SqL K H a (ns.map V.int) ∧ ns.length ≤ 63 ∧ ∀ H', Q (.bl true) H'
theorem sc_law : FnScope ["_law_script", "_law_spec_here", "_law_program", "_law_due", "_law_told", "_law_other"] ["_law_script"] (defScope s_law) := ⟨rfl, rfl, rfl, by decide +kernel, rfl, by decide +kernel, by decide +kernel⟩
theorem ok_law {f : Addr} {fd : FuncData} (F : Fun K "law" "law" s_law f fd) (T : Txt mg) (c__law_wide : Cal P w K mg base CX0 15 "_law_wide" ["_law_script"] (spWide K)) (c__law_made : Cal P w K mg base CX0 15 "_law_made" ["_law_spec_here", "_law_rows"] (spMade K C)) (c__law_text : Cal P w K mg base CX0 7 "_law_text" ["_law_spec_here"] (spTextL K)) (c_program_text : Cal P w K mg base CX0 13 "program_text" ["program"] (spPText K C)) (c__law_turned : Cal P w K mg base CX0 1 "_law_turned" ["_law_given"] (spTurn K))
    (k_Program : KcalN P w K mg base (L2.CX P w) 13 "Program" C ["self", "rows", "asks", "signals", "inputs"] 1 ["asks", "signals", "inputs"] (spProg K C CI)) : FnOk P w K mg base CX0 16 f fd ["_law_script"] (spLaw K) := by
  refine F.ok sc_law (fun vs H Q E h => ?_) (fun cdv A outer s H vs Q E hr h => ?_)
  · obtain ⟨a, ns, rfl, _⟩ := h
    rfl
  · obtain ⟨a, ns, rfl, hS, hlen, k⟩ := h
    have hu := hu_of hr
    refine ⟨_, (pss_cons (ps_set (i := 1) sc_law.nd rfl (.inl rfl) (pe_cal c__law_wide (hr.mono (by omega)) rfl pass0 (pa_cons (pv 0) pa_nil)))
      (pss_cons (ps_set (i := 2) sc_law.nd rfl (.inl rfl) (pe_cal c__law_made (hr.mono (by omega)) rfl pass0 (pa_cons (pv 1) (pa_cons (pe_dget hu (pv 1) pe_str (fun _ _ => rfl)) pa_nil))))
      (pss_cons (ps_set (i := 3) sc_law.nd rfl (.inl rfl) (pe_cal c__law_text (hr.mono (by omega)) rfl pass0 (pa_cons (pv 1) pa_nil)))
      (pss_cons (ps_set (i := 4) sc_law.nd rfl (.inl rfl) (pe_cal c_program_text (hr.mono (by omega)) rfl pass0 (pa_cons (pv 2) pa_nil)))
      (pss_cons (ps_if (PW.pt (pw_or (pt_not (pt_val (pe_callB call_isi (by rfl) T.b_isinstance (by decide +kernel) (pa_cons (pv 4) (pa_cons (pe_bltn (v := .ty "str") (by rfl) T.b_str (by decide +kernel) rfl) pa_nil))))) (pw_or1 (pt_cmpR op_ne (pv 4) (pv 3) (nomark _))))) (pss_one (ps_ret pe_bl)) pss_nil)
      (pss_cons (ps_set (i := 5) sc_law.nd rfl (.inl rfl) (pe_kcalN k_Program (hr.mono (by omega)) rfl passF (pa_cons (pe_dget hu (pv 1) pe_str (fun _ _ => rfl)) pa_nil) (pk_cons (pe_cal c__law_turned (hr.mono (by omega)) rfl pass0 (pa_cons (pe_dget hu (pv 1) pe_str (fun _ _ => rfl)) pa_nil)) (pk_cons (pe_cal c__law_turned (hr.mono (by omega)) rfl pass0 (pa_cons (pe_dget hu (pv 1) pe_str (fun _ _ => rfl)) pa_nil)) (pk_cons (pe_dget hu (pv 1) pe_str (fun _ _ => rfl)) pk_nil)))))
      (pss_one (ps_ret (pe_and (pe_cmpR op_eq (pe_cal c_program_text (hr.mono (by omega)) rfl pass0 (pa_cons (pv 5) pa_nil)) (pv 3) (nomark _)) (pe_one (pe_cmpR op_eq (pe_cal c_program_text (hr.mono (by omega)) rfl pass0 (pa_cons (pv 2) pa_nil)) (pv 3) (nomark _)))))))))))), ?_⟩
    refine ⟨_, rfl, a, ns, rfl, hS, hlen, fun p sd nd pa ps iv rv wa ws G ka ks ins ds H1 W1 => ?_⟩
    have wv := W1.v
    refine ⟨_, rfl, _, rfl, sd, _, rfl, DGet.k (k := (.inr "rows" : Key)) W1.sd, p, sd, nd, pa, ps, iv, rv, wa, ws, G, ka, ks, ins, ds, rfl, W1, fun H2 A1 kva kvs ls ss gs s2 eC1 pA sA pB sB po => ?_⟩
    have W2 := W1.same s2
    refine ⟨_, rfl, sd, nd, pa, ps, iv, rv, wa, ws, ka, ks, ins, ds, rfl, W2.sd, W2.pa, W2.kra, W2.ps, W2.krs, W2.iv, wv.hv, W2.rv.dp, wv.rowsF, by have := wv.wt; omega, fun H3 kb kc s3 pb sb pc sc => ?_⟩
    have W3 := W2.same s3
    obtain rfl : kva = kb := keys_perm_eq (pA.trans pb.symm) sA sb ((wv.perm pb pc).hv.a3)
    obtain rfl : kvs = kc := keys_perm_eq (pB.trans pc.symm) sB sc ((wv.perm pb pc).hv.b3)
    have pg1 := wv.pgv (ls := ls) (ss := ss) (gs := gs) pA sA pB sB
    refine ⟨_, rfl, A1, _, rfl, eC1, po.mono s3, pg1, fun H4 s4 => ?_⟩
    have W4 := W3.same s4
    refine gName_i ?_
    refine ⟨_, rfl, _, _, _, _, _, rfl, .ty _, ty_dp (.str (textP kva kvs ins ds)), kit_str (.str (textP kva kvs ins ds)), _, rfl, ifF rfl ?_⟩
    refine ⟨_, rfl, _, rfl, rfl, _, rfl, ifF (by simp) ?_⟩
    refine ⟨_, rfl, sd, _, rfl, DGet.k (k := (.inr "rows" : Key)) W4.sd, _, rfl, sd, _, rfl, DGet.k (k := (.inr "asks" : Key)) W4.sd, pa, wa, ka, rfl, W4.pa, W4.kra, wv.hv.a3, wv.hv.a2, fun q1 H5 wb kb s5 f5 l5 kr5 pk5 => ?_⟩
    have W5 := W4.same s5
    refine ⟨_, rfl, sd, _, rfl, DGet.k (k := (.inr "signals" : Key)) W5.sd, ps, ws, ks, rfl, W5.ps, W5.krs, wv.hv.b3, Nat.le_trans wv.hv.b2 (by decide), fun q2 H6 wc kc s6 f6 l6 kr6 pk6 => ?_⟩
    have W6 := W5.same s6
    refine ⟨_, rfl, sd, _, rfl, DGet.k (k := (.inr "inputs" : Key)) W6.sd, rfl, rfl, fun x dx hx hdx hne => ?_⟩
    have s7 : Same H6 (upd (upd H6 dx (.own x)) x (.ins C dx [])) := (Same.new hdx).trans (Same.new (by rw [upd_ne hne.symm]; exact hx))
    have x7 : upd (upd H6 dx (.own x)) x (.ins C dx []) x = some (.ins C dx []) := upd_same
    revert s7 x7
    generalize upd (upd H6 dx (.own x)) x (.ins C dx []) = H7
    intro s7 x7
    have W7 := W6.same s7
    have wv' := wv.perm pk5 pk6
    have po7 := (((po.mono s3).mono s4).mono s5).mono (s6.trans s7)
    refine prog_use x7 (s7 _ _ (s6 _ _ l5)) (kr5.mono (s6.trans s7).kp) (s7 _ _ l6) (kr6.mono s7.kp) W7.iv W7.rv.dp wv' fun H8 A2 kva2 kvs2 ls2 ss2 gs2 b8 ex eC2 pA2 sA2 pB2 sB2 po2 => ⟨rfl, ?_⟩
    subst ex
    have s8 : Same H6 H8 := fun c o hc => b8 c o (s7 c o hc) fun e => by rw [e, hx] at hc; cases hc
    have pg2 := wv'.pgv (ls := ls2) (ss := ss2) (gs := gs2) pA2 sA2 pB2 sB2
    obtain rfl : kva2 = kva := keys_perm_eq ((pA2.trans pk5).trans pA.symm) sA2 sA ((wv.perm pA pB).hv.a3)
    obtain rfl : kvs2 = kvs := keys_perm_eq ((pB2.trans pk6).trans pB.symm) sB2 sB ((wv.perm pA pB).hv.b3)
    refine gName_i ?_
    refine ⟨_, rfl, A2, _, rfl, eC2, po2, pg2, fun H9 s9 => ?_⟩
    have po9 := ((((po.mono s3).mono s4).mono s5).mono (s6)).mono (s8.trans s9)
    refine ⟨_, rfl, rfl, _, rfl, ifT (by simp) ?_⟩
    refine ⟨_, rfl, A1, _, rfl, eC1, po9, pg1, fun H10 s10 => ⟨_, rfl, rfl, ?_⟩⟩
    refine (congrArg (fun z => Q (.bl z) H10) (decide_eq_true rfl)).mpr (k H10)
end
end Op
namespace Op
open PySem L2 PyProof.Rows PySem.XL
theorem vals_app : ∀ {vs ws : List V} {us zs : List Value}, Vals vs us → Vals ws zs → Vals (vs ++ ws) (us ++ zs)
  | _, _, _, _, .nil, h => h
  | _, _, _, _, .cons a b, h => .cons a (vals_app b h)
theorem exm_own {K : PySem.W.Frag} {C : Addr} (hb : PySem.W.subIn K (.ref C) (.type "BaseException") = some true) (hi : PySem.W.isClsIn K C = true) (ht : PySem.W.typeIn K (.ref C) = some (.type "type")) (hs : PySem.W.subIn K (.ref C) (.ref C) = some true) : PySem.W.exmOne K (.ref C) (.ref C) = some true := by
  unfold PySem.W.exmOne
  rw [hb, if_pos (by simp)]
  have hi' : (PySem.W.clsIn K C).isSome = true := hi
  show (if ((PySem.W.clsIn K C).isSome && PySem.W.typeIn K (.ref C) == some (.type "type")) = true then PySem.W.subIn K (.ref C) (.ref C) else none) = some true
  rw [hi', ht, if_pos (by simp)]
  exact hs
theorem Sh_InvalidProgram : ∃ (Ps : Ps2) (a1 a2 a3 : Pos), defArgs s_InvalidProgram___init__ = args2 a1 a2 a3 "part" "path" ∧ defBody s_InvalidProgram___init__ = body2 Ps "invalid program" "part" "path" ∧ defScope s_InvalidProgram___init__ = scope2 "part" "path" ∧ ∀ fI, EvOk "InvalidProgram.__init__" (scope2 "part" "path") fI Ps.toPs1 "invalid program" :=
  ⟨⟨⟨_, _, _, _, _, _, _, _, _, _, _⟩, _, _, _, _⟩, _, _, _, rfl, rfl, rfl, fun fI L cda cc => ⟨_, rfl, rfl, rfl⟩⟩
theorem Xm_InvalidProgram {P : Program} {w : World} {K : PySem.W.Frag} {C fI : Addr} (T : XCls P K C) (Fn : XFn P K C fI "InvalidProgram.__init__" (defArgs s_InvalidProgram___init__) (defBody s_InvalidProgram___init__) (defScope s_InvalidProgram___init__)) (nof : PySem.W.findIn K (.ref C) "part" = some none) (nof2 : PySem.W.findIn K (.ref C) "path" = some none) :
    XMk P w K C 2 [] (fun vs _ => [("path", vs.getD 1 .non), ("part", vs.getD 0 .non)]) ∧ XMk P w K C 0 ["path", "part"] (fun _ zs => [("path", zs.getD 0 .non), ("part", zs.getD 1 .non)]) := by
  obtain ⟨Ps, a1, a2, a3, e1, e2, e3, ev⟩ := Sh_InvalidProgram
  rw [e1, e2, e3] at Fn
  exact ⟨xmk2 T Fn (by decide +kernel) (by decide +kernel) (by decide +kernel) nof nof2 (ev fI) fun s x v v2 kV doc pm an cdv ct cc => .of_eq rfl, xmk2k T Fn (by decide +kernel) (by decide +kernel) (by decide +kernel) nof nof2 (ev fI) fun s x v v2 kV doc pm an cdv ct cc => .of_eq rfl⟩
theorem all_mk {w : World} {K : PySem.W.Frag} {h : Heap} {mg : Str → Option Value} {fa p_SHAPES c_InputError c_OpenError c_InvalidProgram i_InvalidProgram g_is_integer g_is_word g_are_words g_is_branches g_inner_lists g_with_lists g_copy_row g_copy_rows g_checked_asks g_is_box g_checked_signals g_checked_inputs g_check_program g_block_lines g_row_lines g_program_text g__law_pool g__law_draw g__law_item g__law_names g__law_parts g__law_pair g__law_race g__law_plain g__law_block g__law_some g__law_spec g__law_made g__law_lists g__law_lines g__law_head g__law_text g__law_wide g__law_turned g_law c_RowCheck m_RowCheck___init__ m_RowCheck_check m_RowCheck_check_sizes m_RowCheck_check_list m_RowCheck_fits m_RowCheck_id_fits m_RowCheck_part_fits m_RowCheck_collect c_Program m_Program___init__ m_Program_add_rows m_Program_asks m_Program_signals m_Program_inputs m_Program_rows : Addr} (X : K.In h) (G : h.Ns mainGlobals mg) (hfa : mg "law" = some (.ref fa))
    {tk_LETTERS : Tok}
    {tk_MOST_ROWS : Tok}
    {tk_MOST_LABELS : Tok}
    {tk_MOST_SLOTS : Tok}
    {tk_MOST_GATES : Tok}
    {tk_MOST_EDITS : Tok}
    {tk_DEEPEST : Tok}
    {es_SHAPES : Array DictEntry} {en_SHAPES : Nat}
    {nm_InvalidProgram q_InvalidProgram : Str} {N_InvalidProgram : Addr} {bs_InvalidProgram : List Value} {sn_InvalidProgram : List Str} {sub_InvalidProgram : List Value} {ab_InvalidProgram : Bool} {col_InvalidProgram : Option Bool} {dd_InvalidProgram : Option Addr} {ka_InvalidProgram kb_InvalidProgram kc_InvalidProgram kd_InvalidProgram ke_InvalidProgram : Option Value}
    {oc_InvalidProgram kV_InvalidProgram dc_InvalidProgram pm_InvalidProgram ct_InvalidProgram ccl_InvalidProgram cll_InvalidProgram : Value} {od_InvalidProgram an_InvalidProgram cdd_InvalidProgram cld_InvalidProgram : Option Addr} {cd_InvalidProgram cc_InvalidProgram : Addr} {sl_InvalidProgram ccs_InvalidProgram csl_InvalidProgram : Array (Option Value)} {vs_InvalidProgram : Array Value} {fl_InvalidProgram : Str} {tf_InvalidProgram : Tok}
    {xo_is_integer xk_is_integer xc_is_integer xp_is_integer xe_is_integer xt_is_integer : Value} {xd_is_integer xa_is_integer : Option Addr} {xs_is_integer : Array (Option Value)}
    {xo_is_word xk_is_word xc_is_word xp_is_word xe_is_word xt_is_word : Value} {xd_is_word xa_is_word : Option Addr} {xs_is_word : Array (Option Value)}
    {xo_are_words xk_are_words xc_are_words xp_are_words xe_are_words xt_are_words : Value} {xd_are_words xa_are_words : Option Addr} {xs_are_words : Array (Option Value)}
    {xo_is_branches xk_is_branches xc_is_branches xp_is_branches xe_is_branches xt_is_branches : Value} {xd_is_branches xa_is_branches : Option Addr} {xs_is_branches : Array (Option Value)}
    {xo_inner_lists xk_inner_lists xc_inner_lists xp_inner_lists xe_inner_lists xt_inner_lists : Value} {xd_inner_lists xa_inner_lists : Option Addr} {xs_inner_lists : Array (Option Value)}
    {xo_with_lists xk_with_lists xc_with_lists xp_with_lists xe_with_lists xt_with_lists : Value} {xd_with_lists xa_with_lists : Option Addr} {xs_with_lists : Array (Option Value)}
    {xo_copy_row xk_copy_row xc_copy_row xp_copy_row xe_copy_row xt_copy_row : Value} {xd_copy_row xa_copy_row : Option Addr} {xs_copy_row : Array (Option Value)}
    {xo_copy_rows xk_copy_rows xc_copy_rows xp_copy_rows xe_copy_rows xt_copy_rows : Value} {xd_copy_rows xa_copy_rows : Option Addr} {xs_copy_rows : Array (Option Value)}
    {xo_checked_asks xk_checked_asks xc_checked_asks xp_checked_asks xe_checked_asks xt_checked_asks : Value} {xd_checked_asks xa_checked_asks : Option Addr} {xs_checked_asks : Array (Option Value)}
    {xo_is_box xk_is_box xc_is_box xp_is_box xe_is_box xt_is_box : Value} {xd_is_box xa_is_box : Option Addr} {xs_is_box : Array (Option Value)}
    {xo_checked_signals xk_checked_signals xc_checked_signals xp_checked_signals xe_checked_signals xt_checked_signals : Value} {xd_checked_signals xa_checked_signals : Option Addr} {xs_checked_signals : Array (Option Value)}
    {xo_checked_inputs xk_checked_inputs xc_checked_inputs xp_checked_inputs xe_checked_inputs xt_checked_inputs : Value} {xd_checked_inputs xa_checked_inputs : Option Addr} {xs_checked_inputs : Array (Option Value)}
    {xo_check_program xk_check_program xc_check_program xp_check_program xe_check_program xt_check_program : Value} {xd_check_program xa_check_program : Option Addr} {xs_check_program : Array (Option Value)}
    {xo_block_lines xk_block_lines xc_block_lines xp_block_lines xe_block_lines xt_block_lines : Value} {xd_block_lines xa_block_lines : Option Addr} {xs_block_lines : Array (Option Value)}
    {xo_row_lines xk_row_lines xc_row_lines xp_row_lines xe_row_lines xt_row_lines : Value} {xd_row_lines xa_row_lines : Option Addr} {xs_row_lines : Array (Option Value)}
    {xo_program_text xk_program_text xc_program_text xp_program_text xe_program_text xt_program_text : Value} {xd_program_text xa_program_text : Option Addr} {xs_program_text : Array (Option Value)}
    {xo__law_pool xk__law_pool xc__law_pool xp__law_pool xe__law_pool xt__law_pool : Value} {xd__law_pool xa__law_pool : Option Addr} {xs__law_pool : Array (Option Value)}
    {xo__law_draw xk__law_draw xc__law_draw xp__law_draw xe__law_draw xt__law_draw : Value} {xd__law_draw xa__law_draw : Option Addr} {xs__law_draw : Array (Option Value)}
    {xo__law_item xk__law_item xc__law_item xp__law_item xe__law_item xt__law_item : Value} {xd__law_item xa__law_item : Option Addr} {xs__law_item : Array (Option Value)}
    {xo__law_names xk__law_names xc__law_names xp__law_names xe__law_names xt__law_names : Value} {xd__law_names xa__law_names : Option Addr} {xs__law_names : Array (Option Value)}
    {xo__law_parts xk__law_parts xc__law_parts xp__law_parts xe__law_parts xt__law_parts : Value} {xd__law_parts xa__law_parts : Option Addr} {xs__law_parts : Array (Option Value)}
    {xo__law_pair xk__law_pair xc__law_pair xp__law_pair xe__law_pair xt__law_pair : Value} {xd__law_pair xa__law_pair : Option Addr} {xs__law_pair : Array (Option Value)}
    {xo__law_race xk__law_race xc__law_race xp__law_race xe__law_race xt__law_race : Value} {xd__law_race xa__law_race : Option Addr} {xs__law_race : Array (Option Value)}
    {xo__law_plain xk__law_plain xc__law_plain xp__law_plain xe__law_plain xt__law_plain : Value} {xd__law_plain xa__law_plain : Option Addr} {xs__law_plain : Array (Option Value)}
    {xo__law_block xk__law_block xc__law_block xp__law_block xe__law_block xt__law_block : Value} {xd__law_block xa__law_block : Option Addr} {xs__law_block : Array (Option Value)}
    {xo__law_some xk__law_some xc__law_some xp__law_some xe__law_some xt__law_some : Value} {xd__law_some xa__law_some : Option Addr} {xs__law_some : Array (Option Value)}
    {xo__law_spec xk__law_spec xc__law_spec xp__law_spec xe__law_spec xt__law_spec : Value} {xd__law_spec xa__law_spec : Option Addr} {xs__law_spec : Array (Option Value)}
    {xo__law_made xk__law_made xc__law_made xp__law_made xe__law_made xt__law_made : Value} {xd__law_made xa__law_made : Option Addr} {xs__law_made : Array (Option Value)}
    {xo__law_lists xk__law_lists xc__law_lists xp__law_lists xe__law_lists xt__law_lists : Value} {xd__law_lists xa__law_lists : Option Addr} {xs__law_lists : Array (Option Value)}
    {xo__law_lines xk__law_lines xc__law_lines xp__law_lines xe__law_lines xt__law_lines : Value} {xd__law_lines xa__law_lines : Option Addr} {xs__law_lines : Array (Option Value)}
    {xo__law_head xk__law_head xc__law_head xp__law_head xe__law_head xt__law_head : Value} {xd__law_head xa__law_head : Option Addr} {xs__law_head : Array (Option Value)}
    {xo__law_text xk__law_text xc__law_text xp__law_text xe__law_text xt__law_text : Value} {xd__law_text xa__law_text : Option Addr} {xs__law_text : Array (Option Value)}
    {xo__law_wide xk__law_wide xc__law_wide xp__law_wide xe__law_wide xt__law_wide : Value} {xd__law_wide xa__law_wide : Option Addr} {xs__law_wide : Array (Option Value)}
    {xo__law_turned xk__law_turned xc__law_turned xp__law_turned xe__law_turned xt__law_turned : Value} {xd__law_turned xa__law_turned : Option Addr} {xs__law_turned : Array (Option Value)}
    {xo_law xk_law xc_law xp_law xe_law xt_law : Value} {xd_law xa_law : Option Addr} {xs_law : Array (Option Value)}
    {xo_RowCheck___init__ xk_RowCheck___init__ xc_RowCheck___init__ xp_RowCheck___init__ xe_RowCheck___init__ xt_RowCheck___init__ : Value} {xd_RowCheck___init__ xa_RowCheck___init__ : Option Addr} {xs_RowCheck___init__ : Array (Option Value)}
    {xo_RowCheck_check xk_RowCheck_check xc_RowCheck_check xp_RowCheck_check xe_RowCheck_check xt_RowCheck_check : Value} {xd_RowCheck_check xa_RowCheck_check : Option Addr} {xs_RowCheck_check : Array (Option Value)}
    {xo_RowCheck_check_sizes xk_RowCheck_check_sizes xc_RowCheck_check_sizes xp_RowCheck_check_sizes xe_RowCheck_check_sizes xt_RowCheck_check_sizes : Value} {xd_RowCheck_check_sizes xa_RowCheck_check_sizes : Option Addr} {xs_RowCheck_check_sizes : Array (Option Value)}
    {xo_RowCheck_check_list xk_RowCheck_check_list xc_RowCheck_check_list xp_RowCheck_check_list xe_RowCheck_check_list xt_RowCheck_check_list : Value} {xd_RowCheck_check_list xa_RowCheck_check_list : Option Addr} {xs_RowCheck_check_list : Array (Option Value)}
    {xo_RowCheck_fits xk_RowCheck_fits xc_RowCheck_fits xp_RowCheck_fits xe_RowCheck_fits xt_RowCheck_fits : Value} {xd_RowCheck_fits xa_RowCheck_fits : Option Addr} {xs_RowCheck_fits : Array (Option Value)}
    {xo_RowCheck_id_fits xk_RowCheck_id_fits xc_RowCheck_id_fits xp_RowCheck_id_fits xe_RowCheck_id_fits xt_RowCheck_id_fits : Value} {xd_RowCheck_id_fits xa_RowCheck_id_fits : Option Addr} {xs_RowCheck_id_fits : Array (Option Value)}
    {xo_RowCheck_part_fits xk_RowCheck_part_fits xc_RowCheck_part_fits xp_RowCheck_part_fits xe_RowCheck_part_fits xt_RowCheck_part_fits : Value} {xd_RowCheck_part_fits xa_RowCheck_part_fits : Option Addr} {xs_RowCheck_part_fits : Array (Option Value)}
    {xo_RowCheck_collect xk_RowCheck_collect xc_RowCheck_collect xp_RowCheck_collect xe_RowCheck_collect xt_RowCheck_collect : Value} {xd_RowCheck_collect xa_RowCheck_collect : Option Addr} {xs_RowCheck_collect : Array (Option Value)}
    {xo_Program___init__ xk_Program___init__ xc_Program___init__ xp_Program___init__ xe_Program___init__ xt_Program___init__ : Value} {xd_Program___init__ xa_Program___init__ : Option Addr} {xs_Program___init__ : Array (Option Value)}
    {xo_Program_add_rows xk_Program_add_rows xc_Program_add_rows xp_Program_add_rows xe_Program_add_rows xt_Program_add_rows : Value} {xd_Program_add_rows xa_Program_add_rows : Option Addr} {xs_Program_add_rows : Array (Option Value)}
    {xo_Program_asks xk_Program_asks xc_Program_asks xp_Program_asks xe_Program_asks xt_Program_asks : Value} {xd_Program_asks xa_Program_asks : Option Addr} {xs_Program_asks : Array (Option Value)}
    {xo_Program_signals xk_Program_signals xc_Program_signals xp_Program_signals xe_Program_signals xt_Program_signals : Value} {xd_Program_signals xa_Program_signals : Option Addr} {xs_Program_signals : Array (Option Value)}
    {xo_Program_inputs xk_Program_inputs xc_Program_inputs xp_Program_inputs xe_Program_inputs xt_Program_inputs : Value} {xd_Program_inputs xa_Program_inputs : Option Addr} {xs_Program_inputs : Array (Option Value)}
    {xo_Program_rows xk_Program_rows xc_Program_rows xp_Program_rows xe_Program_rows xt_Program_rows : Value} {xd_Program_rows xa_Program_rows : Option Addr} {xs_Program_rows : Array (Option Value)}
    (z_len : PySem.W.nsIn K mainGlobals "len" = some none)
    (z_int : PySem.W.nsIn K mainGlobals "int" = some none)
    (z_bool : PySem.W.nsIn K mainGlobals "bool" = some none)
    (z_str : PySem.W.nsIn K mainGlobals "str" = some none)
    (z_list : PySem.W.nsIn K mainGlobals "list" = some none)
    (z_tuple : PySem.W.nsIn K mainGlobals "tuple" = some none)
    (z_dict : PySem.W.nsIn K mainGlobals "dict" = some none)
    (z_set : PySem.W.nsIn K mainGlobals "set" = some none)
    (z_range : PySem.W.nsIn K mainGlobals "range" = some none)
    (z_zip : PySem.W.nsIn K mainGlobals "zip" = some none)
    (z_enumerate : PySem.W.nsIn K mainGlobals "enumerate" = some none)
    (z_sorted : PySem.W.nsIn K mainGlobals "sorted" = some none)
    (z_isinstance : PySem.W.nsIn K mainGlobals "isinstance" = some none)
    (z_LETTERS : PySem.W.nsIn K mainGlobals "LETTERS" = some (some (.str "abcdefghijklmnopqrstuvwxyz" tk_LETTERS)))
    (z_MOST_ROWS : PySem.W.nsIn K mainGlobals "MOST_ROWS" = some (some (.int 60 tk_MOST_ROWS)))
    (z_MOST_LABELS : PySem.W.nsIn K mainGlobals "MOST_LABELS" = some (some (.int 6 tk_MOST_LABELS)))
    (z_MOST_SLOTS : PySem.W.nsIn K mainGlobals "MOST_SLOTS" = some (some (.int 4 tk_MOST_SLOTS)))
    (z_MOST_GATES : PySem.W.nsIn K mainGlobals "MOST_GATES" = some (some (.int 8 tk_MOST_GATES)))
    (z_MOST_EDITS : PySem.W.nsIn K mainGlobals "MOST_EDITS" = some (some (.int 4 tk_MOST_EDITS)))
    (z_DEEPEST : PySem.W.nsIn K mainGlobals "DEEPEST" = some (some (.int 5 tk_DEEPEST)))
    (A_SHAPES : PySem.W.nsIn K mainGlobals "SHAPES" = some (some (.ref p_SHAPES)))
    (L_SHAPES : K.lookup p_SHAPES = some ⟨.type "dict", none, .dict es_SHAPES en_SHAPES, #[]⟩)
    (E_SHAPES : Ents w.params es_SHAPES.toList (shapes.map fun p => (p.1, V.str p.2)))
    (S_SHAPES : (p_SHAPES == sysModules) = false)
    (opq : PySem.W.nsIn K cStatics "thirdparty.any" = some none)
    (sg : PySem.W.nsIn K mainGlobals "super" = some none)
    (A_InputError : PySem.W.nsIn K mainGlobals "InputError" = some (some (.ref c_InputError)))
    (A_OpenError : PySem.W.nsIn K mainGlobals "OpenError" = some (some (.ref c_OpenError)))
    (A_InvalidProgram : PySem.W.nsIn K mainGlobals "InvalidProgram" = some (some (.ref c_InvalidProgram)))
    (l_InvalidProgram : K.lookup c_InvalidProgram = some (excClassObj nm_InvalidProgram q_InvalidProgram c_InvalidProgram N_InvalidProgram bs_InvalidProgram [.ref c_InputError, .ref c_OpenError, .type "LookupError", .type "Exception", .type "BaseException", .type "object"] true sn_InvalidProgram sub_InvalidProgram ab_InvalidProgram col_InvalidProgram dd_InvalidProgram ka_InvalidProgram kb_InvalidProgram kc_InvalidProgram kd_InvalidProgram ke_InvalidProgram "LookupError.__new__"))
    (sa_InvalidProgram : PySem.W.findIn K (.ref c_InvalidProgram) "__setattr__" = some (some (.builtin "object.__setattr__")))
    (su_InvalidProgram : PySem.W.ks_superIn K c_InvalidProgram c_InvalidProgram "__init__" = some (some (.builtin "LookupError.__init__")))
    (ii_InvalidProgram : PySem.W.findIn K (.ref c_InvalidProgram) "__init__" = some (some (.ref i_InvalidProgram)))
    (ti_InvalidProgram : PySem.W.typeIn K (.ref i_InvalidProgram) = some (.type "function"))
    (lf_InvalidProgram : K.lookup i_InvalidProgram = some ⟨oc_InvalidProgram, od_InvalidProgram, .func (PySem.W.ksFn "__init__" "InvalidProgram.__init__" (defArgs s_InvalidProgram___init__) (defBody s_InvalidProgram___init__) (defScope s_InvalidProgram___init__) .none kV_InvalidProgram dc_InvalidProgram pm_InvalidProgram an_InvalidProgram (.ref cd_InvalidProgram) ct_InvalidProgram cc_InvalidProgram), sl_InvalidProgram⟩)
    (cf_InvalidProgram : PySem.W.codeIn K (.ref cd_InvalidProgram) "InvalidProgram.__init__" = true)
    (lc_InvalidProgram : K.lookup cc_InvalidProgram = some ⟨cll_InvalidProgram, cld_InvalidProgram, .cell (some (.ref c_InvalidProgram)), csl_InvalidProgram⟩)
    (ld_InvalidProgram : K.lookup cd_InvalidProgram = some ⟨ccl_InvalidProgram, cdd_InvalidProgram, .fields vs_InvalidProgram, ccs_InvalidProgram⟩)
    (v2_InvalidProgram : vs_InvalidProgram[2]? = some (.str fl_InvalidProgram tf_InvalidProgram))
    (fe_InvalidProgram : ((PP.main.file : Str) == fl_InvalidProgram) = true)
    (kp_InvalidProgram : PySem.W.keepIn K (.ref c_InvalidProgram) = true)
    (hg_InvalidProgram : PySem.W.findIn K (.ref c_InvalidProgram) "__getattribute__" = some (some (.builtin "BaseException.__getattribute__")))
    (hk_InvalidProgram : PySem.W.findIn K (.ref c_InvalidProgram) "__getattr__" = some none)
    (hs_InvalidProgram : PySem.W.subIn K (.ref c_InvalidProgram) (.type "BaseException") = some true)
    (hd_InvalidProgram : PySem.W.hasDictIn K c_InvalidProgram = true)
    (ty_InvalidProgram : PySem.W.typeIn K (.ref c_InvalidProgram) = some (.type "type"))
    (ic_InvalidProgram : PySem.W.isClsIn K c_InvalidProgram = true)
    (ss_InvalidProgram : PySem.W.subIn K (.ref c_InvalidProgram) (.ref c_InvalidProgram) = some true)
    (no_part_InvalidProgram : PySem.W.findIn K (.ref c_InvalidProgram) "part" = some none)
    (no_path_InvalidProgram : PySem.W.findIn K (.ref c_InvalidProgram) "path" = some none)
    (A_is_integer : PySem.W.nsIn K mainGlobals "is_integer" = some (some (.ref g_is_integer)))
    (L_is_integer : K.lookup g_is_integer = some ⟨xo_is_integer, xd_is_integer, .func (PySem.W.fnOf "is_integer" "is_integer" (defArgs s_is_integer) (defBody s_is_integer) (defScope s_is_integer) .none xk_is_integer xc_is_integer xp_is_integer xa_is_integer xe_is_integer xt_is_integer), xs_is_integer⟩)
    (D_is_integer : PySem.W.codeIn K xe_is_integer "is_integer" = true)
    (P_is_integer : PySem.W.keepIn K (.ref g_is_integer) = true)
    (A_is_word : PySem.W.nsIn K mainGlobals "is_word" = some (some (.ref g_is_word)))
    (L_is_word : K.lookup g_is_word = some ⟨xo_is_word, xd_is_word, .func (PySem.W.fnOf "is_word" "is_word" (defArgs s_is_word) (defBody s_is_word) (defScope s_is_word) .none xk_is_word xc_is_word xp_is_word xa_is_word xe_is_word xt_is_word), xs_is_word⟩)
    (D_is_word : PySem.W.codeIn K xe_is_word "is_word" = true)
    (P_is_word : PySem.W.keepIn K (.ref g_is_word) = true)
    (A_are_words : PySem.W.nsIn K mainGlobals "are_words" = some (some (.ref g_are_words)))
    (L_are_words : K.lookup g_are_words = some ⟨xo_are_words, xd_are_words, .func (PySem.W.fnOf "are_words" "are_words" (defArgs s_are_words) (defBody s_are_words) (defScope s_are_words) .none xk_are_words xc_are_words xp_are_words xa_are_words xe_are_words xt_are_words), xs_are_words⟩)
    (D_are_words : PySem.W.codeIn K xe_are_words "are_words" = true)
    (P_are_words : PySem.W.keepIn K (.ref g_are_words) = true)
    (A_is_branches : PySem.W.nsIn K mainGlobals "is_branches" = some (some (.ref g_is_branches)))
    (L_is_branches : K.lookup g_is_branches = some ⟨xo_is_branches, xd_is_branches, .func (PySem.W.fnOf "is_branches" "is_branches" (defArgs s_is_branches) (defBody s_is_branches) (defScope s_is_branches) .none xk_is_branches xc_is_branches xp_is_branches xa_is_branches xe_is_branches xt_is_branches), xs_is_branches⟩)
    (D_is_branches : PySem.W.codeIn K xe_is_branches "is_branches" = true)
    (P_is_branches : PySem.W.keepIn K (.ref g_is_branches) = true)
    (A_inner_lists : PySem.W.nsIn K mainGlobals "inner_lists" = some (some (.ref g_inner_lists)))
    (L_inner_lists : K.lookup g_inner_lists = some ⟨xo_inner_lists, xd_inner_lists, .func (PySem.W.fnOf "inner_lists" "inner_lists" (defArgs s_inner_lists) (defBody s_inner_lists) (defScope s_inner_lists) .none xk_inner_lists xc_inner_lists xp_inner_lists xa_inner_lists xe_inner_lists xt_inner_lists), xs_inner_lists⟩)
    (D_inner_lists : PySem.W.codeIn K xe_inner_lists "inner_lists" = true)
    (P_inner_lists : PySem.W.keepIn K (.ref g_inner_lists) = true)
    (A_with_lists : PySem.W.nsIn K mainGlobals "with_lists" = some (some (.ref g_with_lists)))
    (L_with_lists : K.lookup g_with_lists = some ⟨xo_with_lists, xd_with_lists, .func (PySem.W.fnOf "with_lists" "with_lists" (defArgs s_with_lists) (defBody s_with_lists) (defScope s_with_lists) .none xk_with_lists xc_with_lists xp_with_lists xa_with_lists xe_with_lists xt_with_lists), xs_with_lists⟩)
    (D_with_lists : PySem.W.codeIn K xe_with_lists "with_lists" = true)
    (P_with_lists : PySem.W.keepIn K (.ref g_with_lists) = true)
    (A_copy_row : PySem.W.nsIn K mainGlobals "copy_row" = some (some (.ref g_copy_row)))
    (L_copy_row : K.lookup g_copy_row = some ⟨xo_copy_row, xd_copy_row, .func (PySem.W.fnOf "copy_row" "copy_row" (defArgs s_copy_row) (defBody s_copy_row) (defScope s_copy_row) .none xk_copy_row xc_copy_row xp_copy_row xa_copy_row xe_copy_row xt_copy_row), xs_copy_row⟩)
    (D_copy_row : PySem.W.codeIn K xe_copy_row "copy_row" = true)
    (P_copy_row : PySem.W.keepIn K (.ref g_copy_row) = true)
    (A_copy_rows : PySem.W.nsIn K mainGlobals "copy_rows" = some (some (.ref g_copy_rows)))
    (L_copy_rows : K.lookup g_copy_rows = some ⟨xo_copy_rows, xd_copy_rows, .func (PySem.W.fnOf "copy_rows" "copy_rows" (defArgs s_copy_rows) (defBody s_copy_rows) (defScope s_copy_rows) .none xk_copy_rows xc_copy_rows xp_copy_rows xa_copy_rows xe_copy_rows xt_copy_rows), xs_copy_rows⟩)
    (D_copy_rows : PySem.W.codeIn K xe_copy_rows "copy_rows" = true)
    (P_copy_rows : PySem.W.keepIn K (.ref g_copy_rows) = true)
    (A_checked_asks : PySem.W.nsIn K mainGlobals "checked_asks" = some (some (.ref g_checked_asks)))
    (L_checked_asks : K.lookup g_checked_asks = some ⟨xo_checked_asks, xd_checked_asks, .func (PySem.W.fnOf "checked_asks" "checked_asks" (defArgs s_checked_asks) (defBody s_checked_asks) (defScope s_checked_asks) .none xk_checked_asks xc_checked_asks xp_checked_asks xa_checked_asks xe_checked_asks xt_checked_asks), xs_checked_asks⟩)
    (D_checked_asks : PySem.W.codeIn K xe_checked_asks "checked_asks" = true)
    (P_checked_asks : PySem.W.keepIn K (.ref g_checked_asks) = true)
    (A_is_box : PySem.W.nsIn K mainGlobals "is_box" = some (some (.ref g_is_box)))
    (L_is_box : K.lookup g_is_box = some ⟨xo_is_box, xd_is_box, .func (PySem.W.fnOf "is_box" "is_box" (defArgs s_is_box) (defBody s_is_box) (defScope s_is_box) .none xk_is_box xc_is_box xp_is_box xa_is_box xe_is_box xt_is_box), xs_is_box⟩)
    (D_is_box : PySem.W.codeIn K xe_is_box "is_box" = true)
    (P_is_box : PySem.W.keepIn K (.ref g_is_box) = true)
    (A_checked_signals : PySem.W.nsIn K mainGlobals "checked_signals" = some (some (.ref g_checked_signals)))
    (L_checked_signals : K.lookup g_checked_signals = some ⟨xo_checked_signals, xd_checked_signals, .func (PySem.W.fnOf "checked_signals" "checked_signals" (defArgs s_checked_signals) (defBody s_checked_signals) (defScope s_checked_signals) .none xk_checked_signals xc_checked_signals xp_checked_signals xa_checked_signals xe_checked_signals xt_checked_signals), xs_checked_signals⟩)
    (D_checked_signals : PySem.W.codeIn K xe_checked_signals "checked_signals" = true)
    (P_checked_signals : PySem.W.keepIn K (.ref g_checked_signals) = true)
    (A_checked_inputs : PySem.W.nsIn K mainGlobals "checked_inputs" = some (some (.ref g_checked_inputs)))
    (L_checked_inputs : K.lookup g_checked_inputs = some ⟨xo_checked_inputs, xd_checked_inputs, .func (PySem.W.fnOf "checked_inputs" "checked_inputs" (defArgs s_checked_inputs) (defBody s_checked_inputs) (defScope s_checked_inputs) .none xk_checked_inputs xc_checked_inputs xp_checked_inputs xa_checked_inputs xe_checked_inputs xt_checked_inputs), xs_checked_inputs⟩)
    (D_checked_inputs : PySem.W.codeIn K xe_checked_inputs "checked_inputs" = true)
    (P_checked_inputs : PySem.W.keepIn K (.ref g_checked_inputs) = true)
    (A_check_program : PySem.W.nsIn K mainGlobals "check_program" = some (some (.ref g_check_program)))
    (L_check_program : K.lookup g_check_program = some ⟨xo_check_program, xd_check_program, .func (PySem.W.fnOf "check_program" "check_program" (defArgs s_check_program) (defBody s_check_program) (defScope s_check_program) .none xk_check_program xc_check_program xp_check_program xa_check_program xe_check_program xt_check_program), xs_check_program⟩)
    (D_check_program : PySem.W.codeIn K xe_check_program "check_program" = true)
    (P_check_program : PySem.W.keepIn K (.ref g_check_program) = true)
    (A_block_lines : PySem.W.nsIn K mainGlobals "block_lines" = some (some (.ref g_block_lines)))
    (L_block_lines : K.lookup g_block_lines = some ⟨xo_block_lines, xd_block_lines, .func (PySem.W.fnOf "block_lines" "block_lines" (defArgs s_block_lines) (defBody s_block_lines) (defScope s_block_lines) .none xk_block_lines xc_block_lines xp_block_lines xa_block_lines xe_block_lines xt_block_lines), xs_block_lines⟩)
    (D_block_lines : PySem.W.codeIn K xe_block_lines "block_lines" = true)
    (P_block_lines : PySem.W.keepIn K (.ref g_block_lines) = true)
    (A_row_lines : PySem.W.nsIn K mainGlobals "row_lines" = some (some (.ref g_row_lines)))
    (L_row_lines : K.lookup g_row_lines = some ⟨xo_row_lines, xd_row_lines, .func (PySem.W.fnOf "row_lines" "row_lines" (defArgs s_row_lines) (defBody s_row_lines) (defScope s_row_lines) .none xk_row_lines xc_row_lines xp_row_lines xa_row_lines xe_row_lines xt_row_lines), xs_row_lines⟩)
    (D_row_lines : PySem.W.codeIn K xe_row_lines "row_lines" = true)
    (P_row_lines : PySem.W.keepIn K (.ref g_row_lines) = true)
    (A_program_text : PySem.W.nsIn K mainGlobals "program_text" = some (some (.ref g_program_text)))
    (L_program_text : K.lookup g_program_text = some ⟨xo_program_text, xd_program_text, .func (PySem.W.fnOf "program_text" "program_text" (defArgs s_program_text) (defBody s_program_text) (defScope s_program_text) .none xk_program_text xc_program_text xp_program_text xa_program_text xe_program_text xt_program_text), xs_program_text⟩)
    (D_program_text : PySem.W.codeIn K xe_program_text "program_text" = true)
    (P_program_text : PySem.W.keepIn K (.ref g_program_text) = true)
    (A__law_pool : PySem.W.nsIn K mainGlobals "_law_pool" = some (some (.ref g__law_pool)))
    (L__law_pool : K.lookup g__law_pool = some ⟨xo__law_pool, xd__law_pool, .func (PySem.W.fnOf "_law_pool" "_law_pool" (defArgs s__law_pool) (defBody s__law_pool) (defScope s__law_pool) .none xk__law_pool xc__law_pool xp__law_pool xa__law_pool xe__law_pool xt__law_pool), xs__law_pool⟩)
    (D__law_pool : PySem.W.codeIn K xe__law_pool "_law_pool" = true)
    (P__law_pool : PySem.W.keepIn K (.ref g__law_pool) = true)
    (A__law_draw : PySem.W.nsIn K mainGlobals "_law_draw" = some (some (.ref g__law_draw)))
    (L__law_draw : K.lookup g__law_draw = some ⟨xo__law_draw, xd__law_draw, .func (PySem.W.fnOf "_law_draw" "_law_draw" (defArgs s__law_draw) (defBody s__law_draw) (defScope s__law_draw) .none xk__law_draw xc__law_draw xp__law_draw xa__law_draw xe__law_draw xt__law_draw), xs__law_draw⟩)
    (D__law_draw : PySem.W.codeIn K xe__law_draw "_law_draw" = true)
    (P__law_draw : PySem.W.keepIn K (.ref g__law_draw) = true)
    (A__law_item : PySem.W.nsIn K mainGlobals "_law_item" = some (some (.ref g__law_item)))
    (L__law_item : K.lookup g__law_item = some ⟨xo__law_item, xd__law_item, .func (PySem.W.fnOf "_law_item" "_law_item" (defArgs s__law_item) (defBody s__law_item) (defScope s__law_item) .none xk__law_item xc__law_item xp__law_item xa__law_item xe__law_item xt__law_item), xs__law_item⟩)
    (D__law_item : PySem.W.codeIn K xe__law_item "_law_item" = true)
    (P__law_item : PySem.W.keepIn K (.ref g__law_item) = true)
    (A__law_names : PySem.W.nsIn K mainGlobals "_law_names" = some (some (.ref g__law_names)))
    (L__law_names : K.lookup g__law_names = some ⟨xo__law_names, xd__law_names, .func (PySem.W.fnOf "_law_names" "_law_names" (defArgs s__law_names) (defBody s__law_names) (defScope s__law_names) .none xk__law_names xc__law_names xp__law_names xa__law_names xe__law_names xt__law_names), xs__law_names⟩)
    (D__law_names : PySem.W.codeIn K xe__law_names "_law_names" = true)
    (P__law_names : PySem.W.keepIn K (.ref g__law_names) = true)
    (A__law_parts : PySem.W.nsIn K mainGlobals "_law_parts" = some (some (.ref g__law_parts)))
    (L__law_parts : K.lookup g__law_parts = some ⟨xo__law_parts, xd__law_parts, .func (PySem.W.fnOf "_law_parts" "_law_parts" (defArgs s__law_parts) (defBody s__law_parts) (defScope s__law_parts) .none xk__law_parts xc__law_parts xp__law_parts xa__law_parts xe__law_parts xt__law_parts), xs__law_parts⟩)
    (D__law_parts : PySem.W.codeIn K xe__law_parts "_law_parts" = true)
    (P__law_parts : PySem.W.keepIn K (.ref g__law_parts) = true)
    (A__law_pair : PySem.W.nsIn K mainGlobals "_law_pair" = some (some (.ref g__law_pair)))
    (L__law_pair : K.lookup g__law_pair = some ⟨xo__law_pair, xd__law_pair, .func (PySem.W.fnOf "_law_pair" "_law_pair" (defArgs s__law_pair) (defBody s__law_pair) (defScope s__law_pair) .none xk__law_pair xc__law_pair xp__law_pair xa__law_pair xe__law_pair xt__law_pair), xs__law_pair⟩)
    (D__law_pair : PySem.W.codeIn K xe__law_pair "_law_pair" = true)
    (P__law_pair : PySem.W.keepIn K (.ref g__law_pair) = true)
    (A__law_race : PySem.W.nsIn K mainGlobals "_law_race" = some (some (.ref g__law_race)))
    (L__law_race : K.lookup g__law_race = some ⟨xo__law_race, xd__law_race, .func (PySem.W.fnOf "_law_race" "_law_race" (defArgs s__law_race) (defBody s__law_race) (defScope s__law_race) .none xk__law_race xc__law_race xp__law_race xa__law_race xe__law_race xt__law_race), xs__law_race⟩)
    (D__law_race : PySem.W.codeIn K xe__law_race "_law_race" = true)
    (P__law_race : PySem.W.keepIn K (.ref g__law_race) = true)
    (A__law_plain : PySem.W.nsIn K mainGlobals "_law_plain" = some (some (.ref g__law_plain)))
    (L__law_plain : K.lookup g__law_plain = some ⟨xo__law_plain, xd__law_plain, .func (PySem.W.fnOf "_law_plain" "_law_plain" (defArgs s__law_plain) (defBody s__law_plain) (defScope s__law_plain) .none xk__law_plain xc__law_plain xp__law_plain xa__law_plain xe__law_plain xt__law_plain), xs__law_plain⟩)
    (D__law_plain : PySem.W.codeIn K xe__law_plain "_law_plain" = true)
    (P__law_plain : PySem.W.keepIn K (.ref g__law_plain) = true)
    (A__law_block : PySem.W.nsIn K mainGlobals "_law_block" = some (some (.ref g__law_block)))
    (L__law_block : K.lookup g__law_block = some ⟨xo__law_block, xd__law_block, .func (PySem.W.fnOf "_law_block" "_law_block" (defArgs s__law_block) (defBody s__law_block) (defScope s__law_block) .none xk__law_block xc__law_block xp__law_block xa__law_block xe__law_block xt__law_block), xs__law_block⟩)
    (D__law_block : PySem.W.codeIn K xe__law_block "_law_block" = true)
    (P__law_block : PySem.W.keepIn K (.ref g__law_block) = true)
    (A__law_some : PySem.W.nsIn K mainGlobals "_law_some" = some (some (.ref g__law_some)))
    (L__law_some : K.lookup g__law_some = some ⟨xo__law_some, xd__law_some, .func (PySem.W.fnOf "_law_some" "_law_some" (defArgs s__law_some) (defBody s__law_some) (defScope s__law_some) .none xk__law_some xc__law_some xp__law_some xa__law_some xe__law_some xt__law_some), xs__law_some⟩)
    (D__law_some : PySem.W.codeIn K xe__law_some "_law_some" = true)
    (P__law_some : PySem.W.keepIn K (.ref g__law_some) = true)
    (A__law_spec : PySem.W.nsIn K mainGlobals "_law_spec" = some (some (.ref g__law_spec)))
    (L__law_spec : K.lookup g__law_spec = some ⟨xo__law_spec, xd__law_spec, .func (PySem.W.fnOf "_law_spec" "_law_spec" (defArgs s__law_spec) (defBody s__law_spec) (defScope s__law_spec) .none xk__law_spec xc__law_spec xp__law_spec xa__law_spec xe__law_spec xt__law_spec), xs__law_spec⟩)
    (D__law_spec : PySem.W.codeIn K xe__law_spec "_law_spec" = true)
    (P__law_spec : PySem.W.keepIn K (.ref g__law_spec) = true)
    (A__law_made : PySem.W.nsIn K mainGlobals "_law_made" = some (some (.ref g__law_made)))
    (L__law_made : K.lookup g__law_made = some ⟨xo__law_made, xd__law_made, .func (PySem.W.fnOf "_law_made" "_law_made" (defArgs s__law_made) (defBody s__law_made) (defScope s__law_made) .none xk__law_made xc__law_made xp__law_made xa__law_made xe__law_made xt__law_made), xs__law_made⟩)
    (D__law_made : PySem.W.codeIn K xe__law_made "_law_made" = true)
    (P__law_made : PySem.W.keepIn K (.ref g__law_made) = true)
    (A__law_lists : PySem.W.nsIn K mainGlobals "_law_lists" = some (some (.ref g__law_lists)))
    (L__law_lists : K.lookup g__law_lists = some ⟨xo__law_lists, xd__law_lists, .func (PySem.W.fnOf "_law_lists" "_law_lists" (defArgs s__law_lists) (defBody s__law_lists) (defScope s__law_lists) .none xk__law_lists xc__law_lists xp__law_lists xa__law_lists xe__law_lists xt__law_lists), xs__law_lists⟩)
    (D__law_lists : PySem.W.codeIn K xe__law_lists "_law_lists" = true)
    (P__law_lists : PySem.W.keepIn K (.ref g__law_lists) = true)
    (A__law_lines : PySem.W.nsIn K mainGlobals "_law_lines" = some (some (.ref g__law_lines)))
    (L__law_lines : K.lookup g__law_lines = some ⟨xo__law_lines, xd__law_lines, .func (PySem.W.fnOf "_law_lines" "_law_lines" (defArgs s__law_lines) (defBody s__law_lines) (defScope s__law_lines) .none xk__law_lines xc__law_lines xp__law_lines xa__law_lines xe__law_lines xt__law_lines), xs__law_lines⟩)
    (D__law_lines : PySem.W.codeIn K xe__law_lines "_law_lines" = true)
    (P__law_lines : PySem.W.keepIn K (.ref g__law_lines) = true)
    (A__law_head : PySem.W.nsIn K mainGlobals "_law_head" = some (some (.ref g__law_head)))
    (L__law_head : K.lookup g__law_head = some ⟨xo__law_head, xd__law_head, .func (PySem.W.fnOf "_law_head" "_law_head" (defArgs s__law_head) (defBody s__law_head) (defScope s__law_head) .none xk__law_head xc__law_head xp__law_head xa__law_head xe__law_head xt__law_head), xs__law_head⟩)
    (D__law_head : PySem.W.codeIn K xe__law_head "_law_head" = true)
    (P__law_head : PySem.W.keepIn K (.ref g__law_head) = true)
    (A__law_text : PySem.W.nsIn K mainGlobals "_law_text" = some (some (.ref g__law_text)))
    (L__law_text : K.lookup g__law_text = some ⟨xo__law_text, xd__law_text, .func (PySem.W.fnOf "_law_text" "_law_text" (defArgs s__law_text) (defBody s__law_text) (defScope s__law_text) .none xk__law_text xc__law_text xp__law_text xa__law_text xe__law_text xt__law_text), xs__law_text⟩)
    (D__law_text : PySem.W.codeIn K xe__law_text "_law_text" = true)
    (P__law_text : PySem.W.keepIn K (.ref g__law_text) = true)
    (A__law_wide : PySem.W.nsIn K mainGlobals "_law_wide" = some (some (.ref g__law_wide)))
    (L__law_wide : K.lookup g__law_wide = some ⟨xo__law_wide, xd__law_wide, .func (PySem.W.fnOf "_law_wide" "_law_wide" (defArgs s__law_wide) (defBody s__law_wide) (defScope s__law_wide) .none xk__law_wide xc__law_wide xp__law_wide xa__law_wide xe__law_wide xt__law_wide), xs__law_wide⟩)
    (D__law_wide : PySem.W.codeIn K xe__law_wide "_law_wide" = true)
    (P__law_wide : PySem.W.keepIn K (.ref g__law_wide) = true)
    (A__law_turned : PySem.W.nsIn K mainGlobals "_law_turned" = some (some (.ref g__law_turned)))
    (L__law_turned : K.lookup g__law_turned = some ⟨xo__law_turned, xd__law_turned, .func (PySem.W.fnOf "_law_turned" "_law_turned" (defArgs s__law_turned) (defBody s__law_turned) (defScope s__law_turned) .none xk__law_turned xc__law_turned xp__law_turned xa__law_turned xe__law_turned xt__law_turned), xs__law_turned⟩)
    (D__law_turned : PySem.W.codeIn K xe__law_turned "_law_turned" = true)
    (P__law_turned : PySem.W.keepIn K (.ref g__law_turned) = true)
    (A_law : PySem.W.nsIn K mainGlobals "law" = some (some (.ref g_law)))
    (L_law : K.lookup g_law = some ⟨xo_law, xd_law, .func (PySem.W.fnOf "law" "law" (defArgs s_law) (defBody s_law) (defScope s_law) .none xk_law xc_law xp_law xa_law xe_law xt_law), xs_law⟩)
    (D_law : PySem.W.codeIn K xe_law "law" = true)
    (P_law : PySem.W.keepIn K (.ref g_law) = true)
    (A_RowCheck : PySem.W.nsIn K mainGlobals "RowCheck" = some (some (.ref c_RowCheck)))
    (c1_RowCheck : PySem.W.plainGet K c_RowCheck Str.empty = true)
    (c2_RowCheck : PySem.W.hasDictIn K c_RowCheck = true)
    (c3_RowCheck : PySem.W.plainOver K c_RowCheck = true)
    (c4_RowCheck : PySem.W.findIn K (.ref c_RowCheck) "__setattr__" = some (some (.builtin "object.__setattr__")))
    (n_RowCheck_known_asks : PySem.W.findIn K (.ref c_RowCheck) "known_asks" = some none)
    (n_RowCheck_known_signals : PySem.W.findIn K (.ref c_RowCheck) "known_signals" = some none)
    (n_RowCheck_with_edits : PySem.W.findIn K (.ref c_RowCheck) "with_edits" = some none)
    (n_RowCheck_total : PySem.W.findIn K (.ref c_RowCheck) "total" = some none)
    (n_RowCheck_label_words : PySem.W.findIn K (.ref c_RowCheck) "label_words" = some none)
    (n_RowCheck_slot_words : PySem.W.findIn K (.ref c_RowCheck) "slot_words" = some none)
    (n_RowCheck_gate_words : PySem.W.findIn K (.ref c_RowCheck) "gate_words" = some none)
    (n_RowCheck_edit_words : PySem.W.findIn K (.ref c_RowCheck) "edit_words" = some none)
    (mk_RowCheck : PySem.W.makesIn K c_RowCheck = true)
    (kp_RowCheck : PySem.W.keepIn K (.ref c_RowCheck) = true)
    (at_RowCheck___init__ : PySem.W.findIn K (.ref c_RowCheck) "__init__" = some (some (.ref m_RowCheck___init__)))
    (fn_RowCheck___init__ : PySem.W.isFn K (.ref m_RowCheck___init__) = true)
    (L_RowCheck___init__ : K.lookup m_RowCheck___init__ = some ⟨xo_RowCheck___init__, xd_RowCheck___init__, .func (PySem.W.fnOf "__init__" "RowCheck.__init__" (defArgs s_RowCheck___init__) (defBody s_RowCheck___init__) (defScope s_RowCheck___init__) .none xk_RowCheck___init__ xc_RowCheck___init__ xp_RowCheck___init__ xa_RowCheck___init__ xe_RowCheck___init__ xt_RowCheck___init__), xs_RowCheck___init__⟩)
    (D_RowCheck___init__ : PySem.W.codeIn K xe_RowCheck___init__ "RowCheck.__init__" = true)
    (P_RowCheck___init__ : PySem.W.keepIn K (.ref m_RowCheck___init__) = true)
    (at_RowCheck_check : PySem.W.findIn K (.ref c_RowCheck) "check" = some (some (.ref m_RowCheck_check)))
    (fn_RowCheck_check : PySem.W.isFn K (.ref m_RowCheck_check) = true)
    (L_RowCheck_check : K.lookup m_RowCheck_check = some ⟨xo_RowCheck_check, xd_RowCheck_check, .func (PySem.W.fnOf "check" "RowCheck.check" (defArgs s_RowCheck_check) (defBody s_RowCheck_check) (defScope s_RowCheck_check) .none xk_RowCheck_check xc_RowCheck_check xp_RowCheck_check xa_RowCheck_check xe_RowCheck_check xt_RowCheck_check), xs_RowCheck_check⟩)
    (D_RowCheck_check : PySem.W.codeIn K xe_RowCheck_check "RowCheck.check" = true)
    (P_RowCheck_check : PySem.W.keepIn K (.ref m_RowCheck_check) = true)
    (at_RowCheck_check_sizes : PySem.W.findIn K (.ref c_RowCheck) "check_sizes" = some (some (.ref m_RowCheck_check_sizes)))
    (fn_RowCheck_check_sizes : PySem.W.isFn K (.ref m_RowCheck_check_sizes) = true)
    (L_RowCheck_check_sizes : K.lookup m_RowCheck_check_sizes = some ⟨xo_RowCheck_check_sizes, xd_RowCheck_check_sizes, .func (PySem.W.fnOf "check_sizes" "RowCheck.check_sizes" (defArgs s_RowCheck_check_sizes) (defBody s_RowCheck_check_sizes) (defScope s_RowCheck_check_sizes) .none xk_RowCheck_check_sizes xc_RowCheck_check_sizes xp_RowCheck_check_sizes xa_RowCheck_check_sizes xe_RowCheck_check_sizes xt_RowCheck_check_sizes), xs_RowCheck_check_sizes⟩)
    (D_RowCheck_check_sizes : PySem.W.codeIn K xe_RowCheck_check_sizes "RowCheck.check_sizes" = true)
    (P_RowCheck_check_sizes : PySem.W.keepIn K (.ref m_RowCheck_check_sizes) = true)
    (at_RowCheck_check_list : PySem.W.findIn K (.ref c_RowCheck) "check_list" = some (some (.ref m_RowCheck_check_list)))
    (fn_RowCheck_check_list : PySem.W.isFn K (.ref m_RowCheck_check_list) = true)
    (L_RowCheck_check_list : K.lookup m_RowCheck_check_list = some ⟨xo_RowCheck_check_list, xd_RowCheck_check_list, .func (PySem.W.fnOf "check_list" "RowCheck.check_list" (defArgs s_RowCheck_check_list) (defBody s_RowCheck_check_list) (defScope s_RowCheck_check_list) .none xk_RowCheck_check_list xc_RowCheck_check_list xp_RowCheck_check_list xa_RowCheck_check_list xe_RowCheck_check_list xt_RowCheck_check_list), xs_RowCheck_check_list⟩)
    (D_RowCheck_check_list : PySem.W.codeIn K xe_RowCheck_check_list "RowCheck.check_list" = true)
    (P_RowCheck_check_list : PySem.W.keepIn K (.ref m_RowCheck_check_list) = true)
    (at_RowCheck_fits : PySem.W.findIn K (.ref c_RowCheck) "fits" = some (some (.ref m_RowCheck_fits)))
    (fn_RowCheck_fits : PySem.W.isFn K (.ref m_RowCheck_fits) = true)
    (L_RowCheck_fits : K.lookup m_RowCheck_fits = some ⟨xo_RowCheck_fits, xd_RowCheck_fits, .func (PySem.W.fnOf "fits" "RowCheck.fits" (defArgs s_RowCheck_fits) (defBody s_RowCheck_fits) (defScope s_RowCheck_fits) .none xk_RowCheck_fits xc_RowCheck_fits xp_RowCheck_fits xa_RowCheck_fits xe_RowCheck_fits xt_RowCheck_fits), xs_RowCheck_fits⟩)
    (D_RowCheck_fits : PySem.W.codeIn K xe_RowCheck_fits "RowCheck.fits" = true)
    (P_RowCheck_fits : PySem.W.keepIn K (.ref m_RowCheck_fits) = true)
    (at_RowCheck_id_fits : PySem.W.findIn K (.ref c_RowCheck) "id_fits" = some (some (.ref m_RowCheck_id_fits)))
    (fn_RowCheck_id_fits : PySem.W.isFn K (.ref m_RowCheck_id_fits) = true)
    (L_RowCheck_id_fits : K.lookup m_RowCheck_id_fits = some ⟨xo_RowCheck_id_fits, xd_RowCheck_id_fits, .func (PySem.W.fnOf "id_fits" "RowCheck.id_fits" (defArgs s_RowCheck_id_fits) (defBody s_RowCheck_id_fits) (defScope s_RowCheck_id_fits) .none xk_RowCheck_id_fits xc_RowCheck_id_fits xp_RowCheck_id_fits xa_RowCheck_id_fits xe_RowCheck_id_fits xt_RowCheck_id_fits), xs_RowCheck_id_fits⟩)
    (D_RowCheck_id_fits : PySem.W.codeIn K xe_RowCheck_id_fits "RowCheck.id_fits" = true)
    (P_RowCheck_id_fits : PySem.W.keepIn K (.ref m_RowCheck_id_fits) = true)
    (at_RowCheck_part_fits : PySem.W.findIn K (.ref c_RowCheck) "part_fits" = some (some (.ref m_RowCheck_part_fits)))
    (fn_RowCheck_part_fits : PySem.W.isFn K (.ref m_RowCheck_part_fits) = true)
    (L_RowCheck_part_fits : K.lookup m_RowCheck_part_fits = some ⟨xo_RowCheck_part_fits, xd_RowCheck_part_fits, .func (PySem.W.fnOf "part_fits" "RowCheck.part_fits" (defArgs s_RowCheck_part_fits) (defBody s_RowCheck_part_fits) (defScope s_RowCheck_part_fits) .none xk_RowCheck_part_fits xc_RowCheck_part_fits xp_RowCheck_part_fits xa_RowCheck_part_fits xe_RowCheck_part_fits xt_RowCheck_part_fits), xs_RowCheck_part_fits⟩)
    (D_RowCheck_part_fits : PySem.W.codeIn K xe_RowCheck_part_fits "RowCheck.part_fits" = true)
    (P_RowCheck_part_fits : PySem.W.keepIn K (.ref m_RowCheck_part_fits) = true)
    (at_RowCheck_collect : PySem.W.findIn K (.ref c_RowCheck) "collect" = some (some (.ref m_RowCheck_collect)))
    (fn_RowCheck_collect : PySem.W.isFn K (.ref m_RowCheck_collect) = true)
    (L_RowCheck_collect : K.lookup m_RowCheck_collect = some ⟨xo_RowCheck_collect, xd_RowCheck_collect, .func (PySem.W.fnOf "collect" "RowCheck.collect" (defArgs s_RowCheck_collect) (defBody s_RowCheck_collect) (defScope s_RowCheck_collect) .none xk_RowCheck_collect xc_RowCheck_collect xp_RowCheck_collect xa_RowCheck_collect xe_RowCheck_collect xt_RowCheck_collect), xs_RowCheck_collect⟩)
    (D_RowCheck_collect : PySem.W.codeIn K xe_RowCheck_collect "RowCheck.collect" = true)
    (P_RowCheck_collect : PySem.W.keepIn K (.ref m_RowCheck_collect) = true)
    (A_Program : PySem.W.nsIn K mainGlobals "Program" = some (some (.ref c_Program)))
    (c1_Program : PySem.W.plainGet K c_Program Str.empty = true)
    (c2_Program : PySem.W.hasDictIn K c_Program = true)
    (c3_Program : PySem.W.plainOver K c_Program = true)
    (c4_Program : PySem.W.findIn K (.ref c_Program) "__setattr__" = some (some (.builtin "object.__setattr__")))
    (n_Program_ask_table : PySem.W.findIn K (.ref c_Program) "ask_table" = some none)
    (n_Program_signal_table : PySem.W.findIn K (.ref c_Program) "signal_table" = some none)
    (n_Program_input_words : PySem.W.findIn K (.ref c_Program) "input_words" = some none)
    (n_Program_row_list : PySem.W.findIn K (.ref c_Program) "row_list" = some none)
    (n_Program_label_names : PySem.W.findIn K (.ref c_Program) "label_names" = some none)
    (n_Program_slot_names : PySem.W.findIn K (.ref c_Program) "slot_names" = some none)
    (n_Program_gate_names : PySem.W.findIn K (.ref c_Program) "gate_names" = some none)
    (n_Program_row_table : PySem.W.findIn K (.ref c_Program) "row_table" = some none)
    (n_Program_list_sizes : PySem.W.findIn K (.ref c_Program) "list_sizes" = some none)
    (mk_Program : PySem.W.makesIn K c_Program = true)
    (kp_Program : PySem.W.keepIn K (.ref c_Program) = true)
    (at_Program___init__ : PySem.W.findIn K (.ref c_Program) "__init__" = some (some (.ref m_Program___init__)))
    (fn_Program___init__ : PySem.W.isFn K (.ref m_Program___init__) = true)
    (L_Program___init__ : K.lookup m_Program___init__ = some ⟨xo_Program___init__, xd_Program___init__, .func (PySem.W.fnOf "__init__" "Program.__init__" (defArgs s_Program___init__) (defBody s_Program___init__) (defScope s_Program___init__) .none xk_Program___init__ xc_Program___init__ xp_Program___init__ xa_Program___init__ xe_Program___init__ xt_Program___init__), xs_Program___init__⟩)
    (D_Program___init__ : PySem.W.codeIn K xe_Program___init__ "Program.__init__" = true)
    (P_Program___init__ : PySem.W.keepIn K (.ref m_Program___init__) = true)
    (at_Program_add_rows : PySem.W.findIn K (.ref c_Program) "add_rows" = some (some (.ref m_Program_add_rows)))
    (fn_Program_add_rows : PySem.W.isFn K (.ref m_Program_add_rows) = true)
    (L_Program_add_rows : K.lookup m_Program_add_rows = some ⟨xo_Program_add_rows, xd_Program_add_rows, .func (PySem.W.fnOf "add_rows" "Program.add_rows" (defArgs s_Program_add_rows) (defBody s_Program_add_rows) (defScope s_Program_add_rows) .none xk_Program_add_rows xc_Program_add_rows xp_Program_add_rows xa_Program_add_rows xe_Program_add_rows xt_Program_add_rows), xs_Program_add_rows⟩)
    (D_Program_add_rows : PySem.W.codeIn K xe_Program_add_rows "Program.add_rows" = true)
    (P_Program_add_rows : PySem.W.keepIn K (.ref m_Program_add_rows) = true)
    (at_Program_asks : PySem.W.findIn K (.ref c_Program) "asks" = some (some (.ref m_Program_asks)))
    (fn_Program_asks : PySem.W.isFn K (.ref m_Program_asks) = true)
    (L_Program_asks : K.lookup m_Program_asks = some ⟨xo_Program_asks, xd_Program_asks, .func (PySem.W.fnOf "asks" "Program.asks" (defArgs s_Program_asks) (defBody s_Program_asks) (defScope s_Program_asks) .none xk_Program_asks xc_Program_asks xp_Program_asks xa_Program_asks xe_Program_asks xt_Program_asks), xs_Program_asks⟩)
    (D_Program_asks : PySem.W.codeIn K xe_Program_asks "Program.asks" = true)
    (P_Program_asks : PySem.W.keepIn K (.ref m_Program_asks) = true)
    (at_Program_signals : PySem.W.findIn K (.ref c_Program) "signals" = some (some (.ref m_Program_signals)))
    (fn_Program_signals : PySem.W.isFn K (.ref m_Program_signals) = true)
    (L_Program_signals : K.lookup m_Program_signals = some ⟨xo_Program_signals, xd_Program_signals, .func (PySem.W.fnOf "signals" "Program.signals" (defArgs s_Program_signals) (defBody s_Program_signals) (defScope s_Program_signals) .none xk_Program_signals xc_Program_signals xp_Program_signals xa_Program_signals xe_Program_signals xt_Program_signals), xs_Program_signals⟩)
    (D_Program_signals : PySem.W.codeIn K xe_Program_signals "Program.signals" = true)
    (P_Program_signals : PySem.W.keepIn K (.ref m_Program_signals) = true)
    (at_Program_inputs : PySem.W.findIn K (.ref c_Program) "inputs" = some (some (.ref m_Program_inputs)))
    (fn_Program_inputs : PySem.W.isFn K (.ref m_Program_inputs) = true)
    (L_Program_inputs : K.lookup m_Program_inputs = some ⟨xo_Program_inputs, xd_Program_inputs, .func (PySem.W.fnOf "inputs" "Program.inputs" (defArgs s_Program_inputs) (defBody s_Program_inputs) (defScope s_Program_inputs) .none xk_Program_inputs xc_Program_inputs xp_Program_inputs xa_Program_inputs xe_Program_inputs xt_Program_inputs), xs_Program_inputs⟩)
    (D_Program_inputs : PySem.W.codeIn K xe_Program_inputs "Program.inputs" = true)
    (P_Program_inputs : PySem.W.keepIn K (.ref m_Program_inputs) = true)
    (at_Program_rows : PySem.W.findIn K (.ref c_Program) "rows" = some (some (.ref m_Program_rows)))
    (fn_Program_rows : PySem.W.isFn K (.ref m_Program_rows) = true)
    (L_Program_rows : K.lookup m_Program_rows = some ⟨xo_Program_rows, xd_Program_rows, .func (PySem.W.fnOf "rows" "Program.rows" (defArgs s_Program_rows) (defBody s_Program_rows) (defScope s_Program_rows) .none xk_Program_rows xc_Program_rows xp_Program_rows xa_Program_rows xe_Program_rows xt_Program_rows), xs_Program_rows⟩)
    (D_Program_rows : PySem.W.codeIn K xe_Program_rows "Program.rows" = true)
    (P_Program_rows : PySem.W.keepIn K (.ref m_Program_rows) = true)
    (pi_ha : PySem.W.findIn K (.ref c_Program) "__class__" = some (some (.builtin "object.__class__")))
    (pi_hn : PySem.W.specialIn K (.builtin "object.__class__") "__get__" = some (some (.builtin "getset_descriptor.__get__")))
    (pi_ht : PySem.W.takesIn K (.builtin "object.__class__") = some true)
    (pi_hm : PySem.W.mroIn K c_Program (.type "object") = some true)
    : ∃ fd : FuncData, (∀ (s : Shared) (v : Value), BindsTo s fd ⟨[v], []⟩ [("_law_script", v)]) ∧ ∀ base : Heap, K.In base → base.Ns mainGlobals mg → FnOk PP w K mg base CX0 16 fa fd ["_law_script"] (spLaw K) := by
  have e := hfa.symm.trans (PySem.W.mg_of X G A_law)
  cases e
  have X_InvalidProgram : XCls PP K c_InvalidProgram := ⟨⟨_, _, _, _, _, _, _, _, _, _, _, _, _, _, _, l_InvalidProgram, rfl⟩, sa_InvalidProgram, su_InvalidProgram, opq, sg, by decide +kernel⟩
  have Y_InvalidProgram : XFn PP K c_InvalidProgram i_InvalidProgram "InvalidProgram.__init__" (defArgs s_InvalidProgram___init__) (defBody s_InvalidProgram___init__) (defScope s_InvalidProgram___init__) := ⟨⟨_, _, _, _, _, _, _, _, _, _, _, _, _, _, _, _, _, _, _, lf_InvalidProgram, cf_InvalidProgram, lc_InvalidProgram, ld_InvalidProgram, v2_InvalidProgram, fe_InvalidProgram⟩, ii_InvalidProgram, ti_InvalidProgram⟩
  have xm_InvalidProgram := Xm_InvalidProgram (w := w) X_InvalidProgram Y_InvalidProgram no_part_InvalidProgram no_path_InvalidProgram
  have ex_InvalidProgram := exm_own hs_InvalidProgram ic_InvalidProgram ty_InvalidProgram ss_InvalidProgram
  have xf_InvalidProgram : XfC K c_InvalidProgram := ⟨hg_InvalidProgram, hk_InvalidProgram, hs_InvalidProgram, hd_InvalidProgram⟩
  have F_is_integer := fun_mk (st := s_is_integer) L_is_integer D_is_integer P_is_integer
  have B_is_integer := F_is_integer.binds (ps := ["value"]) fun _ _ _ _ _ _ us hl => match us, hl with | [_], _ => rfl
  have F_is_word := fun_mk (st := s_is_word) L_is_word D_is_word P_is_word
  have B_is_word := F_is_word.binds (ps := ["value"]) fun _ _ _ _ _ _ us hl => match us, hl with | [_], _ => rfl
  have F_are_words := fun_mk (st := s_are_words) L_are_words D_are_words P_are_words
  have B_are_words := F_are_words.binds (ps := ["value", "most"]) fun _ _ _ _ _ _ us hl => match us, hl with | [_, _], _ => rfl
  have F_is_branches := fun_mk (st := s_is_branches) L_is_branches D_is_branches P_is_branches
  have B_is_branches := F_is_branches.binds (ps := ["value"]) fun _ _ _ _ _ _ us hl => match us, hl with | [_], _ => rfl
  have F_inner_lists := fun_mk (st := s_inner_lists) L_inner_lists D_inner_lists P_inner_lists
  have B_inner_lists := F_inner_lists.binds (ps := ["row"]) fun _ _ _ _ _ _ us hl => match us, hl with | [_], _ => rfl
  have F_with_lists := fun_mk (st := s_with_lists) L_with_lists D_with_lists P_with_lists
  have B_with_lists := F_with_lists.binds (ps := ["row", "lists"]) fun _ _ _ _ _ _ us hl => match us, hl with | [_, _], _ => rfl
  have F_copy_row := fun_mk (st := s_copy_row) L_copy_row D_copy_row P_copy_row
  have B_copy_row := F_copy_row.binds (ps := ["row"]) fun _ _ _ _ _ _ us hl => match us, hl with | [_], _ => rfl
  have F_copy_rows := fun_mk (st := s_copy_rows) L_copy_rows D_copy_rows P_copy_rows
  have B_copy_rows := F_copy_rows.binds (ps := ["rows"]) fun _ _ _ _ _ _ us hl => match us, hl with | [_], _ => rfl
  have F_checked_asks := fun_mk (st := s_checked_asks) L_checked_asks D_checked_asks P_checked_asks
  have B_checked_asks := F_checked_asks.binds (ps := ["value"]) fun _ _ _ _ _ _ us hl => match us, hl with | [_], _ => rfl
  have F_is_box := fun_mk (st := s_is_box) L_is_box D_is_box P_is_box
  have B_is_box := F_is_box.binds (ps := ["value"]) fun _ _ _ _ _ _ us hl => match us, hl with | [_], _ => rfl
  have F_checked_signals := fun_mk (st := s_checked_signals) L_checked_signals D_checked_signals P_checked_signals
  have B_checked_signals := F_checked_signals.binds (ps := ["value"]) fun _ _ _ _ _ _ us hl => match us, hl with | [_], _ => rfl
  have F_checked_inputs := fun_mk (st := s_checked_inputs) L_checked_inputs D_checked_inputs P_checked_inputs
  have B_checked_inputs := F_checked_inputs.binds (ps := ["value"]) fun _ _ _ _ _ _ us hl => match us, hl with | [_], _ => rfl
  have F_check_program := fun_mk (st := s_check_program) L_check_program D_check_program P_check_program
  have B_check_program := F_check_program.binds (ps := ["value", "part"]) fun _ _ _ _ _ _ us hl => match us, hl with | [_, _], _ => rfl
  have F_block_lines := fun_mk (st := s_block_lines) L_block_lines D_block_lines P_block_lines
  have B_block_lines := F_block_lines.binds (ps := ["rows", "level"]) fun _ _ _ _ _ _ us hl => match us, hl with | [_, _], _ => rfl
  have F_row_lines := fun_mk (st := s_row_lines) L_row_lines D_row_lines P_row_lines
  have B_row_lines := F_row_lines.binds (ps := ["row", "level"]) fun _ _ _ _ _ _ us hl => match us, hl with | [_, _], _ => rfl
  have F_program_text := fun_mk (st := s_program_text) L_program_text D_program_text P_program_text
  have B_program_text := F_program_text.binds (ps := ["program"]) fun _ _ _ _ _ _ us hl => match us, hl with | [_], _ => rfl
  have F__law_pool := fun_mk (st := s__law_pool) L__law_pool D__law_pool P__law_pool
  have B__law_pool := F__law_pool.binds (ps := ["_law_script", "_law_k"]) fun _ _ _ _ _ _ us hl => match us, hl with | [_, _], _ => rfl
  have F__law_draw := fun_mk (st := s__law_draw) L__law_draw D__law_draw P__law_draw
  have B__law_draw := F__law_draw.binds (ps := ["_law_pool_here", "_law_many"]) fun _ _ _ _ _ _ us hl => match us, hl with | [_, _], _ => rfl
  have F__law_item := fun_mk (st := s__law_item) L__law_item D__law_item P__law_item
  have B__law_item := F__law_item.binds (ps := ["_law_pool_here", "_law_items"]) fun _ _ _ _ _ _ us hl => match us, hl with | [_, _], _ => rfl
  have F__law_names := fun_mk (st := s__law_names) L__law_names D__law_names P__law_names
  have B__law_names := F__law_names.binds (ps := ["_law_pool_here", "_law_many"]) fun _ _ _ _ _ _ us hl => match us, hl with | [_, _], _ => rfl
  have F__law_parts := fun_mk (st := s__law_parts) L__law_parts D__law_parts P__law_parts
  have B__law_parts := F__law_parts.binds (ps := ["_law_pool_here"]) fun _ _ _ _ _ _ us hl => match us, hl with | [_], _ => rfl
  have F__law_pair := fun_mk (st := s__law_pair) L__law_pair D__law_pair P__law_pair
  have B__law_pair := F__law_pair.binds (ps := ["_law_pool_here", "_law_names_here"]) fun _ _ _ _ _ _ us hl => match us, hl with | [_, _], _ => rfl
  have F__law_race := fun_mk (st := s__law_race) L__law_race D__law_race P__law_race
  have B__law_race := F__law_race.binds (ps := ["_law_pool_here", "_law_names_here"]) fun _ _ _ _ _ _ us hl => match us, hl with | [_, _], _ => rfl
  have F__law_plain := fun_mk (st := s__law_plain) L__law_plain D__law_plain P__law_plain
  have B__law_plain := F__law_plain.binds (ps := ["_law_pool_here", "_law_names_here"]) fun _ _ _ _ _ _ us hl => match us, hl with | [_, _], _ => rfl
  have F__law_block := fun_mk (st := s__law_block) L__law_block D__law_block P__law_block
  have B__law_block := F__law_block.binds (ps := ["_law_pool_here", "_law_names_here", "_law_fuel", "_law_depth", "_law_loop"]) fun _ _ _ _ _ _ us hl => match us, hl with | [_, _, _, _, _], _ => rfl
  have F__law_some := fun_mk (st := s__law_some) L__law_some D__law_some P__law_some
  have B__law_some := F__law_some.binds (ps := ["_law_pool_here", "_law_names_here", "_law_fuel", "_law_depth", "_law_loop"]) fun _ _ _ _ _ _ us hl => match us, hl with | [_, _, _, _, _], _ => rfl
  have F__law_spec := fun_mk (st := s__law_spec) L__law_spec D__law_spec P__law_spec
  have B__law_spec := F__law_spec.binds (ps := ["_law_pool_here", "_law_left", "_law_deep"]) fun _ _ _ _ _ _ us hl => match us, hl with | [_, _, _], _ => rfl
  have F__law_made := fun_mk (st := s__law_made) L__law_made D__law_made P__law_made
  have B__law_made := F__law_made.binds (ps := ["_law_spec_here", "_law_rows"]) fun _ _ _ _ _ _ us hl => match us, hl with | [_, _], _ => rfl
  have F__law_lists := fun_mk (st := s__law_lists) L__law_lists D__law_lists P__law_lists
  have B__law_lists := F__law_lists.binds (ps := ["_law_row"]) fun _ _ _ _ _ _ us hl => match us, hl with | [_], _ => rfl
  have F__law_lines := fun_mk (st := s__law_lines) L__law_lines D__law_lines P__law_lines
  have B__law_lines := F__law_lines.binds (ps := ["_law_rows", "_law_level"]) fun _ _ _ _ _ _ us hl => match us, hl with | [_, _], _ => rfl
  have F__law_head := fun_mk (st := s__law_head) L__law_head D__law_head P__law_head
  have B__law_head := F__law_head.binds (ps := ["_law_spec_here"]) fun _ _ _ _ _ _ us hl => match us, hl with | [_], _ => rfl
  have F__law_text := fun_mk (st := s__law_text) L__law_text D__law_text P__law_text
  have B__law_text := F__law_text.binds (ps := ["_law_spec_here"]) fun _ _ _ _ _ _ us hl => match us, hl with | [_], _ => rfl
  have F__law_wide := fun_mk (st := s__law_wide) L__law_wide D__law_wide P__law_wide
  have B__law_wide := F__law_wide.binds (ps := ["_law_script"]) fun _ _ _ _ _ _ us hl => match us, hl with | [_], _ => rfl
  have F__law_turned := fun_mk (st := s__law_turned) L__law_turned D__law_turned P__law_turned
  have B__law_turned := F__law_turned.binds (ps := ["_law_given"]) fun _ _ _ _ _ _ us hl => match us, hl with | [_], _ => rfl
  have F_law := fun_mk (st := s_law) L_law D_law P_law
  have B_law := F_law.binds (ps := ["_law_script"]) fun _ _ _ _ _ _ us hl => match us, hl with | [_], _ => rfl
  have cls_RowCheck : Cls K c_RowCheck := ⟨c1_RowCheck, c2_RowCheck, c3_RowCheck, c4_RowCheck⟩
  have F_RowCheck___init__ := fun_mk (st := s_RowCheck___init__) L_RowCheck___init__ D_RowCheck___init__ P_RowCheck___init__
  have B_RowCheck___init__ := F_RowCheck___init__.binds (ps := ["self", "asks", "signals", "with_edits"]) fun _ _ _ _ _ _ us hl => match us, hl with | [_, _, _, _], _ => rfl
  have M_RowCheck : Mk K c_RowCheck m_RowCheck___init__ := ⟨mk_RowCheck, at_RowCheck___init__, fn_RowCheck___init__, kp_RowCheck⟩
  have F_RowCheck_check := fun_mk (st := s_RowCheck_check) L_RowCheck_check D_RowCheck_check P_RowCheck_check
  have B_RowCheck_check := F_RowCheck_check.binds (ps := ["self", "rows"]) fun _ _ _ _ _ _ us hl => match us, hl with | [_, _], _ => rfl
  have M_RowCheck_check : Meth K c_RowCheck "check" m_RowCheck_check := ⟨at_RowCheck_check, fn_RowCheck_check, P_RowCheck_check⟩
  have F_RowCheck_check_sizes := fun_mk (st := s_RowCheck_check_sizes) L_RowCheck_check_sizes D_RowCheck_check_sizes P_RowCheck_check_sizes
  have B_RowCheck_check_sizes := F_RowCheck_check_sizes.binds (ps := ["self"]) fun _ _ _ _ _ _ us hl => match us, hl with | [_], _ => rfl
  have M_RowCheck_check_sizes : Meth K c_RowCheck "check_sizes" m_RowCheck_check_sizes := ⟨at_RowCheck_check_sizes, fn_RowCheck_check_sizes, P_RowCheck_check_sizes⟩
  have F_RowCheck_check_list := fun_mk (st := s_RowCheck_check_list) L_RowCheck_check_list D_RowCheck_check_list P_RowCheck_check_list
  have B_RowCheck_check_list := F_RowCheck_check_list.binds (ps := ["self", "rows", "prefix", "depth", "in_loop"]) fun _ _ _ _ _ _ us hl => match us, hl with | [_, _, _, _, _], _ => rfl
  have M_RowCheck_check_list : Meth K c_RowCheck "check_list" m_RowCheck_check_list := ⟨at_RowCheck_check_list, fn_RowCheck_check_list, P_RowCheck_check_list⟩
  have F_RowCheck_fits := fun_mk (st := s_RowCheck_fits) L_RowCheck_fits D_RowCheck_fits P_RowCheck_fits
  have B_RowCheck_fits := F_RowCheck_fits.binds (ps := ["self", "row", "depth", "in_loop"]) fun _ _ _ _ _ _ us hl => match us, hl with | [_, _, _, _], _ => rfl
  have M_RowCheck_fits : Meth K c_RowCheck "fits" m_RowCheck_fits := ⟨at_RowCheck_fits, fn_RowCheck_fits, P_RowCheck_fits⟩
  have F_RowCheck_id_fits := fun_mk (st := s_RowCheck_id_fits) L_RowCheck_id_fits D_RowCheck_id_fits P_RowCheck_id_fits
  have B_RowCheck_id_fits := F_RowCheck_id_fits.binds (ps := ["self", "row"]) fun _ _ _ _ _ _ us hl => match us, hl with | [_, _], _ => rfl
  have M_RowCheck_id_fits : Meth K c_RowCheck "id_fits" m_RowCheck_id_fits := ⟨at_RowCheck_id_fits, fn_RowCheck_id_fits, P_RowCheck_id_fits⟩
  have F_RowCheck_part_fits := fun_mk (st := s_RowCheck_part_fits) L_RowCheck_part_fits D_RowCheck_part_fits P_RowCheck_part_fits
  have B_RowCheck_part_fits := F_RowCheck_part_fits.binds (ps := ["self", "code", "part"]) fun _ _ _ _ _ _ us hl => match us, hl with | [_, _, _], _ => rfl
  have M_RowCheck_part_fits : Meth K c_RowCheck "part_fits" m_RowCheck_part_fits := ⟨at_RowCheck_part_fits, fn_RowCheck_part_fits, P_RowCheck_part_fits⟩
  have F_RowCheck_collect := fun_mk (st := s_RowCheck_collect) L_RowCheck_collect D_RowCheck_collect P_RowCheck_collect
  have B_RowCheck_collect := F_RowCheck_collect.binds (ps := ["self", "row"]) fun _ _ _ _ _ _ us hl => match us, hl with | [_, _], _ => rfl
  have M_RowCheck_collect : Meth K c_RowCheck "collect" m_RowCheck_collect := ⟨at_RowCheck_collect, fn_RowCheck_collect, P_RowCheck_collect⟩
  have cls_Program : Cls K c_Program := ⟨c1_Program, c2_Program, c3_Program, c4_Program⟩
  have F_Program___init__ := fun_mk (st := s_Program___init__) L_Program___init__ D_Program___init__ P_Program___init__
  have M_Program : Mk K c_Program m_Program___init__ := ⟨mk_Program, at_Program___init__, fn_Program___init__, kp_Program⟩
  have F_Program_add_rows := fun_mk (st := s_Program_add_rows) L_Program_add_rows D_Program_add_rows P_Program_add_rows
  have B_Program_add_rows := F_Program_add_rows.binds (ps := ["self", "rows", "prefix"]) fun _ _ _ _ _ _ us hl => match us, hl with | [_, _, _], _ => rfl
  have M_Program_add_rows : Meth K c_Program "add_rows" m_Program_add_rows := ⟨at_Program_add_rows, fn_Program_add_rows, P_Program_add_rows⟩
  have F_Program_asks := fun_mk (st := s_Program_asks) L_Program_asks D_Program_asks P_Program_asks
  have B_Program_asks := F_Program_asks.binds (ps := ["self"]) fun _ _ _ _ _ _ us hl => match us, hl with | [_], _ => rfl
  have M_Program_asks : Meth K c_Program "asks" m_Program_asks := ⟨at_Program_asks, fn_Program_asks, P_Program_asks⟩
  have F_Program_signals := fun_mk (st := s_Program_signals) L_Program_signals D_Program_signals P_Program_signals
  have B_Program_signals := F_Program_signals.binds (ps := ["self"]) fun _ _ _ _ _ _ us hl => match us, hl with | [_], _ => rfl
  have M_Program_signals : Meth K c_Program "signals" m_Program_signals := ⟨at_Program_signals, fn_Program_signals, P_Program_signals⟩
  have F_Program_inputs := fun_mk (st := s_Program_inputs) L_Program_inputs D_Program_inputs P_Program_inputs
  have B_Program_inputs := F_Program_inputs.binds (ps := ["self"]) fun _ _ _ _ _ _ us hl => match us, hl with | [_], _ => rfl
  have M_Program_inputs : Meth K c_Program "inputs" m_Program_inputs := ⟨at_Program_inputs, fn_Program_inputs, P_Program_inputs⟩
  have F_Program_rows := fun_mk (st := s_Program_rows) L_Program_rows D_Program_rows P_Program_rows
  have B_Program_rows := F_Program_rows.binds (ps := ["self"]) fun _ _ _ _ _ _ us hl => match us, hl with | [_], _ => rfl
  have M_Program_rows : Meth K c_Program "rows" m_Program_rows := ⟨at_Program_rows, fn_Program_rows, P_Program_rows⟩
  have T0 : Txt mg := { b_len := PySem.W.mg_none_of X G z_len, b_int := PySem.W.mg_none_of X G z_int, b_bool := PySem.W.mg_none_of X G z_bool, b_str := PySem.W.mg_none_of X G z_str, b_list := PySem.W.mg_none_of X G z_list, b_tuple := PySem.W.mg_none_of X G z_tuple, b_dict := PySem.W.mg_none_of X G z_dict, b_set := PySem.W.mg_none_of X G z_set, b_range := PySem.W.mg_none_of X G z_range, b_zip := PySem.W.mg_none_of X G z_zip, b_enumerate := PySem.W.mg_none_of X G z_enumerate, b_sorted := PySem.W.mg_none_of X G z_sorted, b_isinstance := PySem.W.mg_none_of X G z_isinstance, g_LETTERS := ⟨_, PySem.W.mg_of X G z_LETTERS⟩ }
  have T : TxtC PP w K mg p_SHAPES c_InvalidProgram := { T0 with g_SHAPES := PySem.W.mg_of X G A_SHAPES, w_SHAPES := ⟨_, _, L_SHAPES, E_SHAPES, S_SHAPES⟩, g_MOST_ROWS := ⟨_, PySem.W.mg_of X G z_MOST_ROWS⟩, g_MOST_LABELS := ⟨_, PySem.W.mg_of X G z_MOST_LABELS⟩, g_MOST_SLOTS := ⟨_, PySem.W.mg_of X G z_MOST_SLOTS⟩, g_MOST_GATES := ⟨_, PySem.W.mg_of X G z_MOST_GATES⟩, g_MOST_EDITS := ⟨_, PySem.W.mg_of X G z_MOST_EDITS⟩, g_DEEPEST := ⟨_, PySem.W.mg_of X G z_DEEPEST⟩, g_InvalidProgram := PySem.W.mg_of X G A_InvalidProgram, k_InvalidProgram := kp_InvalidProgram, mk_InvalidProgram := xm_InvalidProgram.1, r_InvalidProgram := fun _ _ k => ⟨PySem.W.looks_subIn k hs_InvalidProgram, PySem.W.looks_typeIn k ty_InvalidProgram⟩ }
  have rc : RcC K c_RowCheck := ⟨cls_RowCheck, n_RowCheck_known_asks, n_RowCheck_known_signals, n_RowCheck_with_edits, n_RowCheck_total, n_RowCheck_label_words, n_RowCheck_slot_words, n_RowCheck_gate_words, n_RowCheck_edit_words⟩
  have pc : PgC K c_Program := ⟨cls_Program, n_Program_ask_table, n_Program_signal_table, n_Program_input_words, n_Program_row_list, n_Program_label_names, n_Program_slot_names, n_Program_gate_names, n_Program_row_table, n_Program_list_sizes⟩
  have pi : PgI K c_Program := ⟨cls_Program, pi_ha, pi_hn, pi_ht, pi_hm⟩
  have TP : TxtP mg c_Program := { T0 with g_Program := PySem.W.mg_of X G A_Program }
  refine ⟨PySem.W.fnOf "law" "law" (defArgs s_law) (defBody s_law) (defScope s_law) .none xk_law xc_law xp_law xa_law xe_law xt_law, fun s v => .of_eq rfl, fun base _ _ => ?_⟩
  have c_is_integer : Cal PP w K mg base CX0 1 "is_integer" ["value"] (spInt K) := ⟨g_is_integer, _, PySem.W.mg_of X G A_is_integer, P_is_integer, B_is_integer, ok_is_integer F_is_integer T0⟩
  have c_is_word : Cal PP w K mg base CX0 1 "is_word" ["value"] (spWord K) := ⟨g_is_word, _, PySem.W.mg_of X G A_is_word, P_is_word, B_is_word, ok_is_word F_is_word T0⟩
  have c_are_words : Cal PP w K mg base CX0 2 "are_words" ["value", "most"] (spAreWords K) := ⟨g_are_words, _, PySem.W.mg_of X G A_are_words, P_are_words, B_are_words, ok_are_words F_are_words T0 c_is_word⟩
  have c_is_branches : Cal PP w K mg base CX0 1 "is_branches" ["value"] (spBr K) := ⟨g_is_branches, _, PySem.W.mg_of X G A_is_branches, P_is_branches, B_is_branches, ok_is_branches F_is_branches T0⟩
  have c_inner_lists : Cal PP w K mg base CX0 1 "inner_lists" ["row"] (spInner K) := ⟨g_inner_lists, _, PySem.W.mg_of X G A_inner_lists, P_inner_lists, B_inner_lists, ok_inner_lists F_inner_lists T0⟩
  have c_with_lists : Cal PP w K mg base CX0 1 "with_lists" ["row", "lists"] (spWith K) := ⟨g_with_lists, _, PySem.W.mg_of X G A_with_lists, P_with_lists, B_with_lists, ok_with_lists F_with_lists T0⟩
  have c_copy_rows : Cal PP w K mg base CX0 11 "copy_rows" ["rows"] (spCRows K 5) := ok_copies F_copy_rows F_copy_row T0 (PySem.W.mg_of X G A_copy_rows) (PySem.W.mg_of X G A_copy_row) P_copy_rows P_copy_row B_copy_rows B_copy_row c_inner_lists c_with_lists 5
  have c_checked_asks : Cal PP w K mg base (L2.CX PP w) 3 "checked_asks" ["value"] (spTab K c_InvalidProgram "asks" (areWords 4) 6) := ⟨g_checked_asks, _, PySem.W.mg_of X G A_checked_asks, P_checked_asks, B_checked_asks, ok_checked_asks F_checked_asks T c_is_word c_are_words⟩
  have c_is_box : Cal PP w K mg base CX0 3 "is_box" ["value"] (spBox K) := ⟨g_is_box, _, PySem.W.mg_of X G A_is_box, P_is_box, B_is_box, ok_is_box F_is_box T0 c_is_integer c_are_words⟩
  have c_checked_signals : Cal PP w K mg base (L2.CX PP w) 4 "checked_signals" ["value"] (spTab K c_InvalidProgram "signals" isBox 3) := ⟨g_checked_signals, _, PySem.W.mg_of X G A_checked_signals, P_checked_signals, B_checked_signals, ok_checked_signals F_checked_signals T c_is_word c_is_box⟩
  have c_checked_inputs : Cal PP w K mg base (L2.CX PP w) 3 "checked_inputs" ["value"] (spInputs K c_InvalidProgram) := ⟨g_checked_inputs, _, PySem.W.mg_of X G A_checked_inputs, P_checked_inputs, B_checked_inputs, ok_checked_inputs F_checked_inputs T c_are_words⟩
  have m_part_fits : Mcal PP w K mg base CX0 3 c_RowCheck "part_fits" ["self", "code", "part"] (spPF K) := ⟨m_RowCheck_part_fits, _, M_RowCheck_part_fits, B_RowCheck_part_fits, ok_part_fits F_RowCheck_part_fits T0 c_is_word c_are_words c_is_branches⟩
  have m_id_fits : Mcal PP w K mg base CX0 1 c_RowCheck "id_fits" ["self", "row"] (spID K) := ⟨m_RowCheck_id_fits, _, M_RowCheck_id_fits, B_RowCheck_id_fits, ok_id_fits F_RowCheck_id_fits⟩
  have m_collect : Mcal PP w K mg base CX0 1 c_RowCheck "collect" ["self", "row"] (spCol K) := ⟨m_RowCheck_collect, _, M_RowCheck_collect, B_RowCheck_collect, ok_collect F_RowCheck_collect T⟩
  have m_fits : Mcal PP w K mg base CX0 4 c_RowCheck "fits" ["self", "row", "depth", "in_loop"] (spFits K c_RowCheck) := ⟨m_RowCheck_fits, _, M_RowCheck_fits, B_RowCheck_fits, ok_fits F_RowCheck_fits T rc m_part_fits m_id_fits⟩
  have m_check_list : Mcal PP w K mg base (L2.CX PP w) 11 c_RowCheck "check_list" ["self", "rows", "prefix", "depth", "in_loop"] (spCL K c_RowCheck c_InvalidProgram 5) := ⟨m_RowCheck_check_list, _, M_RowCheck_check_list, B_RowCheck_check_list, ok_check_list F_RowCheck_check_list T rc M_RowCheck_check_list B_RowCheck_check_list m_fits m_collect c_inner_lists 5⟩
  have m_check_sizes : Mcal PP w K mg base (L2.CX PP w) 1 c_RowCheck "check_sizes" ["self"] (spSizes K c_RowCheck c_InvalidProgram) := ⟨m_RowCheck_check_sizes, _, M_RowCheck_check_sizes, B_RowCheck_check_sizes, ok_check_sizes F_RowCheck_check_sizes T rc⟩
  have m_check : Mcal PP w K mg base (L2.CX PP w) 12 c_RowCheck "check" ["self", "rows"] (spCheck K c_RowCheck c_InvalidProgram) := ⟨m_RowCheck_check, _, M_RowCheck_check, B_RowCheck_check, ok_check F_RowCheck_check T rc m_check_list m_check_sizes⟩
  have k_RowCheck : Kcal PP w K mg base CX0 1 "RowCheck" c_RowCheck ["self", "asks", "signals", "with_edits"] (spRcInit K c_RowCheck) := ⟨m_RowCheck___init__, _, M_RowCheck, PySem.W.mg_of X G A_RowCheck, B_RowCheck___init__, ok_rcinit F_RowCheck___init__ rc⟩
  have c_inner_listsG : Cal PP w K mg base CX0 1 "inner_lists" ["row"] (spInnerG K) := ⟨g_inner_lists, _, PySem.W.mg_of X G A_inner_lists, P_inner_lists, B_inner_lists, ok_inner_listsG F_inner_lists T0⟩
  have m_add_rows : Mcal PP w K mg base CX0 7 c_Program "add_rows" ["self", "rows", "prefix"] (spAdd K c_Program 5) := ⟨m_Program_add_rows, _, M_Program_add_rows, B_Program_add_rows, ok_add_rows F_Program_add_rows T0 pc M_Program_add_rows B_Program_add_rows c_inner_listsG 5⟩
  have k_Program : KcalN PP w K mg base (L2.CX PP w) 13 "Program" c_Program ["self", "rows", "asks", "signals", "inputs"] 1 ["asks", "signals", "inputs"] (spProg K c_Program c_InvalidProgram) := ⟨m_Program___init__, _, fun us ws => us ++ ws, M_Program, PySem.W.mg_of X G A_Program, ⟨fun s us ws _ l1 l2 => match us, l1, ws, l2 with | [_, _], _, [_, _, _], _ => .of_eq rfl, fun r1 r2 => vals_app r1 r2⟩, ok_prog F_Program___init__ T pc rc c_checked_asks c_checked_signals c_checked_inputs k_RowCheck m_check c_copy_rows m_add_rows⟩
  have m_asks : Mcal PP w K mg base CX0 1 c_Program "asks" ["self"] (spTabM K c_Program Pg.asks) := ⟨m_Program_asks, _, M_Program_asks, B_Program_asks, ok_pasks F_Program_asks pc⟩
  have m_signals : Mcal PP w K mg base CX0 1 c_Program "signals" ["self"] (spTabM K c_Program Pg.sigs) := ⟨m_Program_signals, _, M_Program_signals, B_Program_signals, ok_psignals F_Program_signals pc⟩
  have m_inputs : Mcal PP w K mg base CX0 1 c_Program "inputs" ["self"] (spInputsM K c_Program) := ⟨m_Program_inputs, _, M_Program_inputs, B_Program_inputs, ok_pinputs F_Program_inputs pc⟩
  have m_rows : Mcal PP w K mg base CX0 12 c_Program "rows" ["self"] (spRowsM K c_Program) := ⟨m_Program_rows, _, M_Program_rows, B_Program_rows, ok_prows F_Program_rows pc c_copy_rows⟩
  have c_check_program : Cal PP w K mg base CX0 1 "check_program" ["value", "part"] (spIsProg c_Program) := ⟨g_check_program, _, PySem.W.mg_of X G A_check_program, P_check_program, B_check_program, ok_check_program F_check_program TP pi⟩
  have c_block_lines : Cal PP w K mg base CX0 11 "block_lines" ["rows", "level"] (spBlk K 5) := ok_lines F_block_lines F_row_lines T0 (PySem.W.mg_of X G A_block_lines) (PySem.W.mg_of X G A_row_lines) P_block_lines P_row_lines B_block_lines B_row_lines 5
  have c_program_text : Cal PP w K mg base CX0 13 "program_text" ["program"] (spPText K c_Program) := ⟨g_program_text, _, PySem.W.mg_of X G A_program_text, P_program_text, B_program_text, ok_program_text F_program_text T0 pc c_check_program m_asks m_signals m_inputs m_rows c_block_lines⟩
  have c__law_pool : Cal PP w K mg base CX0 1 "_law_pool" ["_law_script", "_law_k"] (spPoolN K) := ⟨g__law_pool, _, PySem.W.mg_of X G A__law_pool, P__law_pool, B__law_pool, ok_poolN F__law_pool T0⟩
  have c__law_draw : Cal PP w K mg base CX0 1 "_law_draw" ["_law_pool_here", "_law_many"] spD := ⟨g__law_draw, _, PySem.W.mg_of X G A__law_draw, P__law_draw, B__law_draw, ok_draw2 (ok_draw F__law_draw T0)⟩
  have c__law_item : Cal PP w K mg base CX0 2 "_law_item" ["_law_pool_here", "_law_items"] (spItem K) := ⟨g__law_item, _, PySem.W.mg_of X G A__law_item, P__law_item, B__law_item, ok_item F__law_item T0 c__law_draw⟩
  have c__law_names : Cal PP w K mg base CX0 2 "_law_names" ["_law_pool_here", "_law_many"] spNames := ⟨g__law_names, _, PySem.W.mg_of X G A__law_names, P__law_names, B__law_names, ok_names F__law_names T0 c__law_draw⟩
  have c__law_parts : Cal PP w K mg base CX0 3 "_law_parts" ["_law_pool_here"] (spParts K) := ⟨g__law_parts, _, PySem.W.mg_of X G A__law_parts, P__law_parts, B__law_parts, ok_parts F__law_parts T0 c__law_draw c__law_names⟩
  have c__law_pair : Cal PP w K mg base CX0 3 "_law_pair" ["_law_pool_here", "_law_names_here"] (spFlat K 2) := ⟨g__law_pair, _, PySem.W.mg_of X G A__law_pair, P__law_pair, B__law_pair, ok_pair F__law_pair T0 c__law_draw c__law_item⟩
  have c__law_race : Cal PP w K mg base CX0 3 "_law_race" ["_law_pool_here", "_law_names_here"] (spFlat K 5) := ⟨g__law_race, _, PySem.W.mg_of X G A__law_race, P__law_race, B__law_race, ok_race F__law_race T0 c__law_item⟩
  have c__law_plain : Cal PP w K mg base CX0 3 "_law_plain" ["_law_pool_here", "_law_names_here"] (spPlain K) := ⟨g__law_plain, _, PySem.W.mg_of X G A__law_plain, P__law_plain, B__law_plain, ok_plain F__law_plain T0 c__law_draw c__law_item⟩
  have c__law_block : Cal PP w K mg base CX0 13 "_law_block" ["_law_pool_here", "_law_names_here", "_law_fuel", "_law_depth", "_law_loop"] (spBlock K 5) := ok_gen F__law_block F__law_some T0 (PySem.W.mg_of X G A__law_block) (PySem.W.mg_of X G A__law_some) P__law_block P__law_some B__law_block B__law_some c__law_draw c__law_item c__law_pair c__law_race c__law_plain 5
  have c__law_spec : Cal PP w K mg base CX0 14 "_law_spec" ["_law_pool_here", "_law_left", "_law_deep"] (spSpec K) := ⟨g__law_spec, _, PySem.W.mg_of X G A__law_spec, P__law_spec, B__law_spec, ok_spec F__law_spec T0 c__law_parts c__law_block⟩
  have c__law_made : Cal PP w K mg base CX0 15 "_law_made" ["_law_spec_here", "_law_rows"] (spMade K c_Program) := ⟨g__law_made, _, PySem.W.mg_of X G A__law_made, P__law_made, B__law_made, ok_made F__law_made T0 k_Program⟩
  have c__law_lists : Cal PP w K mg base CX0 1 "_law_lists" ["_law_row"] (spInnerG K) := ⟨g__law_lists, _, PySem.W.mg_of X G A__law_lists, P__law_lists, B__law_lists, ok_lists F__law_lists T0⟩
  have c__law_lines : Cal PP w K mg base CX0 6 "_law_lines" ["_law_rows", "_law_level"] (spBlk K 5) := ok_llinesN F__law_lines T0 c__law_lists (PySem.W.mg_of X G A__law_lines) P__law_lines B__law_lines 5
  have c__law_head : Cal PP w K mg base CX0 1 "_law_head" ["_law_spec_here"] (spHead K) := ⟨g__law_head, _, PySem.W.mg_of X G A__law_head, P__law_head, B__law_head, ok_head F__law_head T0⟩
  have c__law_text : Cal PP w K mg base CX0 7 "_law_text" ["_law_spec_here"] (spTextL K) := ⟨g__law_text, _, PySem.W.mg_of X G A__law_text, P__law_text, B__law_text, ok_text F__law_text T0 c__law_head c__law_lines⟩
  have c__law_wide : Cal PP w K mg base CX0 15 "_law_wide" ["_law_script"] (spWide K) := ⟨g__law_wide, _, PySem.W.mg_of X G A__law_wide, P__law_wide, B__law_wide, ok_wide F__law_wide T0 c__law_pool c__law_draw c__law_names c__law_spec⟩
  have c__law_turned : Cal PP w K mg base CX0 1 "_law_turned" ["_law_given"] (spTurn K) := ⟨g__law_turned, _, PySem.W.mg_of X G A__law_turned, P__law_turned, B__law_turned, ok_turned F__law_turned T0⟩
  exact ok_law F_law T0 c__law_wide c__law_made c__law_text c_program_text c__law_turned k_Program
theorem walk {q : Program} {loose : List Str} {XP : (Str → Option Value) → Heap → Prop} {YP : World → Heap → Prop} {d : DefRec} {K : Params → PySem.W.Frag} (hdf : d.params.defaults = [])
    (hY : ∀ (w : World) (h : Heap), YP w h → (K w.params).In h)
    (F : ∀ (w : World) (mg : Str → Option Value) (fa : Addr) (h : Heap), (K w.params).In h → h.Ns mainGlobals mg → mg d.name = some (.ref fa) →
      ∃ fd : FuncData, (∀ (s : Shared) (u : Value), BindsTo s fd ⟨[u], []⟩ [("_law_script", u)]) ∧ ∀ base : Heap, (K w.params).In base → base.Ns mainGlobals mg → FnOk PP w (K w.params) mg base CX0 16 fa fd ["_law_script"] (spLaw (K w.params))) :
    PySem.W.WalkO q loose XP YP PySem.Challenge.rw_openruns_k18_program_text.row.toRowW d [] (fun f vs => PySem.call f vs) :=
  L2.walk_of (l := PySem.Challenge.rw_openruns_k18_program_text) (n := 63) (k := 16) (x := "_law_script") (CX := fun _ => CX0) (sp := fun w => spLaw (K w.params)) rfl (by decide) hdf ⟨rfl, by decide, by decide⟩ hY F (fun _ _ a ns hl _ hS => ⟨a, ns, rfl, hS, hl, fun _ => rfl⟩) fun _ _ _ _ _ z => z
end Op
open PySem PySem.W PyProof.Rows
set_option maxRecDepth 100000 in
set_option maxHeartbeats 0 in
theorem PySem.Challenge.cw_openruns_k18_program_text_holds : PySem.Challenge.rw_openruns_k18_program_text.Holds := by
  w_on; o_law; k_head; (case hw => w_witness2)
  k_fill
  refine Op.walk rfl (fun w h Y => PySem.W.kIn_of Y) ?F
  case F =>
    intro w mg fa h KX G hmg
    refine' Op.all_mk KX G hmg ?z_len ?z_int ?z_bool ?z_str ?z_list ?z_tuple ?z_dict ?z_set ?z_range ?z_zip ?z_enumerate ?z_sorted ?z_isinstance ?z_LETTERS ?z_MOST_ROWS ?z_MOST_LABELS ?z_MOST_SLOTS ?z_MOST_GATES ?z_MOST_EDITS ?z_DEEPEST ?A_SHAPES ?L_SHAPES ?E_SHAPES ?S_SHAPES ?opq ?sg ?A_InputError ?A_OpenError ?A_InvalidProgram ?l_InvalidProgram ?sa_InvalidProgram ?su_InvalidProgram ?ii_InvalidProgram ?ti_InvalidProgram ?lf_InvalidProgram ?cf_InvalidProgram ?lc_InvalidProgram ?ld_InvalidProgram ?v2_InvalidProgram ?fe_InvalidProgram ?kp_InvalidProgram ?hg_InvalidProgram ?hk_InvalidProgram ?hs_InvalidProgram ?hd_InvalidProgram ?ty_InvalidProgram ?ic_InvalidProgram ?ss_InvalidProgram ?no_part_InvalidProgram ?no_path_InvalidProgram ?A_is_integer ?L_is_integer ?D_is_integer ?P_is_integer ?A_is_word ?L_is_word ?D_is_word ?P_is_word ?A_are_words ?L_are_words ?D_are_words ?P_are_words ?A_is_branches ?L_is_branches ?D_is_branches ?P_is_branches ?A_inner_lists ?L_inner_lists ?D_inner_lists ?P_inner_lists ?A_with_lists ?L_with_lists ?D_with_lists ?P_with_lists ?A_copy_row ?L_copy_row ?D_copy_row ?P_copy_row ?A_copy_rows ?L_copy_rows ?D_copy_rows ?P_copy_rows ?A_checked_asks ?L_checked_asks ?D_checked_asks ?P_checked_asks ?A_is_box ?L_is_box ?D_is_box ?P_is_box ?A_checked_signals ?L_checked_signals ?D_checked_signals ?P_checked_signals ?A_checked_inputs ?L_checked_inputs ?D_checked_inputs ?P_checked_inputs ?A_check_program ?L_check_program ?D_check_program ?P_check_program ?A_block_lines ?L_block_lines ?D_block_lines ?P_block_lines ?A_row_lines ?L_row_lines ?D_row_lines ?P_row_lines ?A_program_text ?L_program_text ?D_program_text ?P_program_text ?A__law_pool ?L__law_pool ?D__law_pool ?P__law_pool ?A__law_draw ?L__law_draw ?D__law_draw ?P__law_draw ?A__law_item ?L__law_item ?D__law_item ?P__law_item ?A__law_names ?L__law_names ?D__law_names ?P__law_names ?A__law_parts ?L__law_parts ?D__law_parts ?P__law_parts ?A__law_pair ?L__law_pair ?D__law_pair ?P__law_pair ?A__law_race ?L__law_race ?D__law_race ?P__law_race ?A__law_plain ?L__law_plain ?D__law_plain ?P__law_plain ?A__law_block ?L__law_block ?D__law_block ?P__law_block ?A__law_some ?L__law_some ?D__law_some ?P__law_some ?A__law_spec ?L__law_spec ?D__law_spec ?P__law_spec ?A__law_made ?L__law_made ?D__law_made ?P__law_made ?A__law_lists ?L__law_lists ?D__law_lists ?P__law_lists ?A__law_lines ?L__law_lines ?D__law_lines ?P__law_lines ?A__law_head ?L__law_head ?D__law_head ?P__law_head ?A__law_text ?L__law_text ?D__law_text ?P__law_text ?A__law_wide ?L__law_wide ?D__law_wide ?P__law_wide ?A__law_turned ?L__law_turned ?D__law_turned ?P__law_turned ?A_law ?L_law ?D_law ?P_law ?A_RowCheck ?c1_RowCheck ?c2_RowCheck ?c3_RowCheck ?c4_RowCheck ?n_RowCheck_known_asks ?n_RowCheck_known_signals ?n_RowCheck_with_edits ?n_RowCheck_total ?n_RowCheck_label_words ?n_RowCheck_slot_words ?n_RowCheck_gate_words ?n_RowCheck_edit_words ?mk_RowCheck ?kp_RowCheck ?at_RowCheck___init__ ?fn_RowCheck___init__ ?L_RowCheck___init__ ?D_RowCheck___init__ ?P_RowCheck___init__ ?at_RowCheck_check ?fn_RowCheck_check ?L_RowCheck_check ?D_RowCheck_check ?P_RowCheck_check ?at_RowCheck_check_sizes ?fn_RowCheck_check_sizes ?L_RowCheck_check_sizes ?D_RowCheck_check_sizes ?P_RowCheck_check_sizes ?at_RowCheck_check_list ?fn_RowCheck_check_list ?L_RowCheck_check_list ?D_RowCheck_check_list ?P_RowCheck_check_list ?at_RowCheck_fits ?fn_RowCheck_fits ?L_RowCheck_fits ?D_RowCheck_fits ?P_RowCheck_fits ?at_RowCheck_id_fits ?fn_RowCheck_id_fits ?L_RowCheck_id_fits ?D_RowCheck_id_fits ?P_RowCheck_id_fits ?at_RowCheck_part_fits ?fn_RowCheck_part_fits ?L_RowCheck_part_fits ?D_RowCheck_part_fits ?P_RowCheck_part_fits ?at_RowCheck_collect ?fn_RowCheck_collect ?L_RowCheck_collect ?D_RowCheck_collect ?P_RowCheck_collect ?A_Program ?c1_Program ?c2_Program ?c3_Program ?c4_Program ?n_Program_ask_table ?n_Program_signal_table ?n_Program_input_words ?n_Program_row_list ?n_Program_label_names ?n_Program_slot_names ?n_Program_gate_names ?n_Program_row_table ?n_Program_list_sizes ?mk_Program ?kp_Program ?at_Program___init__ ?fn_Program___init__ ?L_Program___init__ ?D_Program___init__ ?P_Program___init__ ?at_Program_add_rows ?fn_Program_add_rows ?L_Program_add_rows ?D_Program_add_rows ?P_Program_add_rows ?at_Program_asks ?fn_Program_asks ?L_Program_asks ?D_Program_asks ?P_Program_asks ?at_Program_signals ?fn_Program_signals ?L_Program_signals ?D_Program_signals ?P_Program_signals ?at_Program_inputs ?fn_Program_inputs ?L_Program_inputs ?D_Program_inputs ?P_Program_inputs ?at_Program_rows ?fn_Program_rows ?L_Program_rows ?D_Program_rows ?P_Program_rows ?pi_ha ?pi_hn ?pi_ht ?pi_hm
    (case z_len => k_is)
    (case z_int => k_is)
    (case z_bool => k_is)
    (case z_str => k_is)
    (case z_list => k_is)
    (case z_tuple => k_is)
    (case z_dict => k_is)
    (case z_set => k_is)
    (case z_range => k_is)
    (case z_zip => k_is)
    (case z_enumerate => k_is)
    (case z_sorted => k_is)
    (case z_isinstance => k_is)
    (case z_LETTERS => k_is)
    (case z_MOST_ROWS => k_is)
    (case z_MOST_LABELS => k_is)
    (case z_MOST_SLOTS => k_is)
    (case z_MOST_GATES => k_is)
    (case z_MOST_EDITS => k_is)
    (case z_DEEPEST => k_is)
    (case A_SHAPES => k_is)
    (case L_SHAPES => k_is)
    (case E_SHAPES => exact ⟨⟨_, rfl, rfl⟩, ⟨_, rfl⟩, ⟨⟨_, rfl, rfl⟩, ⟨_, rfl⟩, ⟨⟨_, rfl, rfl⟩, ⟨_, rfl⟩, ⟨⟨_, rfl, rfl⟩, ⟨_, rfl⟩, ⟨⟨_, rfl, rfl⟩, ⟨_, rfl⟩, ⟨⟨_, rfl, rfl⟩, ⟨_, rfl⟩, ⟨⟨_, rfl, rfl⟩, ⟨_, rfl⟩, ⟨⟨_, rfl, rfl⟩, ⟨_, rfl⟩, ⟨⟨_, rfl, rfl⟩, ⟨_, rfl⟩, ⟨⟨_, rfl, rfl⟩, ⟨_, rfl⟩, ⟨⟨_, rfl, rfl⟩, ⟨_, rfl⟩, ⟨⟨_, rfl, rfl⟩, ⟨_, rfl⟩, ⟨⟨_, rfl, rfl⟩, ⟨_, rfl⟩, ⟨⟨_, rfl, rfl⟩, ⟨_, rfl⟩, ⟨⟨_, rfl, rfl⟩, ⟨_, rfl⟩, ⟨⟨_, rfl, rfl⟩, ⟨_, rfl⟩, ⟨⟨_, rfl, rfl⟩, ⟨_, rfl⟩, ⟨⟨_, rfl, rfl⟩, ⟨_, rfl⟩, trivial⟩⟩⟩⟩⟩⟩⟩⟩⟩⟩⟩⟩⟩⟩⟩⟩⟩⟩)
    (case S_SHAPES => rfl)
    (case opq => k_is)
    (case sg => k_is)
    (case A_InputError => k_is)
    (case A_OpenError => k_is)
    (case A_InvalidProgram => k_is)
    (case l_InvalidProgram => k_is)
    (case sa_InvalidProgram => k_is)
    (case su_InvalidProgram => rfl)
    (case ii_InvalidProgram => k_is)
    (case ti_InvalidProgram => k_is)
    (case lf_InvalidProgram => k_is)
    (case cf_InvalidProgram => k_is)
    (case lc_InvalidProgram => k_is)
    (case ld_InvalidProgram => k_is)
    (case v2_InvalidProgram => rfl)
    (case fe_InvalidProgram => decide +kernel)
    (case kp_InvalidProgram => k_is)
    (case hg_InvalidProgram => k_is)
    (case hk_InvalidProgram => k_is)
    (case hs_InvalidProgram => k_is)
    (case hd_InvalidProgram => k_is)
    (case ty_InvalidProgram => k_is)
    (case ic_InvalidProgram => k_is)
    (case ss_InvalidProgram => k_is)
    (case no_part_InvalidProgram => k_is)
    (case no_path_InvalidProgram => k_is)
    (case A_is_integer => k_is)
    (case L_is_integer => k_is)
    (case D_is_integer => k_is)
    (case P_is_integer => k_is)
    (case A_is_word => k_is)
    (case L_is_word => k_is)
    (case D_is_word => k_is)
    (case P_is_word => k_is)
    (case A_are_words => k_is)
    (case L_are_words => k_is)
    (case D_are_words => k_is)
    (case P_are_words => k_is)
    (case A_is_branches => k_is)
    (case L_is_branches => k_is)
    (case D_is_branches => k_is)
    (case P_is_branches => k_is)
    (case A_inner_lists => k_is)
    (case L_inner_lists => k_is)
    (case D_inner_lists => k_is)
    (case P_inner_lists => k_is)
    (case A_with_lists => k_is)
    (case L_with_lists => k_is)
    (case D_with_lists => k_is)
    (case P_with_lists => k_is)
    (case A_copy_row => k_is)
    (case L_copy_row => k_is)
    (case D_copy_row => k_is)
    (case P_copy_row => k_is)
    (case A_copy_rows => k_is)
    (case L_copy_rows => k_is)
    (case D_copy_rows => k_is)
    (case P_copy_rows => k_is)
    (case A_checked_asks => k_is)
    (case L_checked_asks => k_is)
    (case D_checked_asks => k_is)
    (case P_checked_asks => k_is)
    (case A_is_box => k_is)
    (case L_is_box => k_is)
    (case D_is_box => k_is)
    (case P_is_box => k_is)
    (case A_checked_signals => k_is)
    (case L_checked_signals => k_is)
    (case D_checked_signals => k_is)
    (case P_checked_signals => k_is)
    (case A_checked_inputs => k_is)
    (case L_checked_inputs => k_is)
    (case D_checked_inputs => k_is)
    (case P_checked_inputs => k_is)
    (case A_check_program => k_is)
    (case L_check_program => k_is)
    (case D_check_program => k_is)
    (case P_check_program => k_is)
    (case A_block_lines => k_is)
    (case L_block_lines => k_is)
    (case D_block_lines => k_is)
    (case P_block_lines => k_is)
    (case A_row_lines => k_is)
    (case L_row_lines => k_is)
    (case D_row_lines => k_is)
    (case P_row_lines => k_is)
    (case A_program_text => k_is)
    (case L_program_text => k_is)
    (case D_program_text => k_is)
    (case P_program_text => k_is)
    (case A__law_pool => k_is)
    (case L__law_pool => k_is)
    (case D__law_pool => k_is)
    (case P__law_pool => k_is)
    (case A__law_draw => k_is)
    (case L__law_draw => k_is)
    (case D__law_draw => k_is)
    (case P__law_draw => k_is)
    (case A__law_item => k_is)
    (case L__law_item => k_is)
    (case D__law_item => k_is)
    (case P__law_item => k_is)
    (case A__law_names => k_is)
    (case L__law_names => k_is)
    (case D__law_names => k_is)
    (case P__law_names => k_is)
    (case A__law_parts => k_is)
    (case L__law_parts => k_is)
    (case D__law_parts => k_is)
    (case P__law_parts => k_is)
    (case A__law_pair => k_is)
    (case L__law_pair => k_is)
    (case D__law_pair => k_is)
    (case P__law_pair => k_is)
    (case A__law_race => k_is)
    (case L__law_race => k_is)
    (case D__law_race => k_is)
    (case P__law_race => k_is)
    (case A__law_plain => k_is)
    (case L__law_plain => k_is)
    (case D__law_plain => k_is)
    (case P__law_plain => k_is)
    (case A__law_block => k_is)
    (case L__law_block => k_is)
    (case D__law_block => k_is)
    (case P__law_block => k_is)
    (case A__law_some => k_is)
    (case L__law_some => k_is)
    (case D__law_some => k_is)
    (case P__law_some => k_is)
    (case A__law_spec => k_is)
    (case L__law_spec => k_is)
    (case D__law_spec => k_is)
    (case P__law_spec => k_is)
    (case A__law_made => k_is)
    (case L__law_made => k_is)
    (case D__law_made => k_is)
    (case P__law_made => k_is)
    (case A__law_lists => k_is)
    (case L__law_lists => k_is)
    (case D__law_lists => k_is)
    (case P__law_lists => k_is)
    (case A__law_lines => k_is)
    (case L__law_lines => k_is)
    (case D__law_lines => k_is)
    (case P__law_lines => k_is)
    (case A__law_head => k_is)
    (case L__law_head => k_is)
    (case D__law_head => k_is)
    (case P__law_head => k_is)
    (case A__law_text => k_is)
    (case L__law_text => k_is)
    (case D__law_text => k_is)
    (case P__law_text => k_is)
    (case A__law_wide => k_is)
    (case L__law_wide => k_is)
    (case D__law_wide => k_is)
    (case P__law_wide => k_is)
    (case A__law_turned => k_is)
    (case L__law_turned => k_is)
    (case D__law_turned => k_is)
    (case P__law_turned => k_is)
    (case A_law => k_is)
    (case L_law => k_is)
    (case D_law => k_is)
    (case P_law => k_is)
    (case A_RowCheck => k_is)
    (case c1_RowCheck => k_is)
    (case c2_RowCheck => k_is)
    (case c3_RowCheck => k_is)
    (case c4_RowCheck => k_is)
    (case n_RowCheck_known_asks => k_is)
    (case n_RowCheck_known_signals => k_is)
    (case n_RowCheck_with_edits => k_is)
    (case n_RowCheck_total => k_is)
    (case n_RowCheck_label_words => k_is)
    (case n_RowCheck_slot_words => k_is)
    (case n_RowCheck_gate_words => k_is)
    (case n_RowCheck_edit_words => k_is)
    (case mk_RowCheck => k_is)
    (case kp_RowCheck => k_is)
    (case at_RowCheck___init__ => k_is)
    (case fn_RowCheck___init__ => k_is)
    (case L_RowCheck___init__ => k_is)
    (case D_RowCheck___init__ => k_is)
    (case P_RowCheck___init__ => k_is)
    (case at_RowCheck_check => k_is)
    (case fn_RowCheck_check => k_is)
    (case L_RowCheck_check => k_is)
    (case D_RowCheck_check => k_is)
    (case P_RowCheck_check => k_is)
    (case at_RowCheck_check_sizes => k_is)
    (case fn_RowCheck_check_sizes => k_is)
    (case L_RowCheck_check_sizes => k_is)
    (case D_RowCheck_check_sizes => k_is)
    (case P_RowCheck_check_sizes => k_is)
    (case at_RowCheck_check_list => k_is)
    (case fn_RowCheck_check_list => k_is)
    (case L_RowCheck_check_list => k_is)
    (case D_RowCheck_check_list => k_is)
    (case P_RowCheck_check_list => k_is)
    (case at_RowCheck_fits => k_is)
    (case fn_RowCheck_fits => k_is)
    (case L_RowCheck_fits => k_is)
    (case D_RowCheck_fits => k_is)
    (case P_RowCheck_fits => k_is)
    (case at_RowCheck_id_fits => k_is)
    (case fn_RowCheck_id_fits => k_is)
    (case L_RowCheck_id_fits => k_is)
    (case D_RowCheck_id_fits => k_is)
    (case P_RowCheck_id_fits => k_is)
    (case at_RowCheck_part_fits => k_is)
    (case fn_RowCheck_part_fits => k_is)
    (case L_RowCheck_part_fits => k_is)
    (case D_RowCheck_part_fits => k_is)
    (case P_RowCheck_part_fits => k_is)
    (case at_RowCheck_collect => k_is)
    (case fn_RowCheck_collect => k_is)
    (case L_RowCheck_collect => k_is)
    (case D_RowCheck_collect => k_is)
    (case P_RowCheck_collect => k_is)
    (case A_Program => k_is)
    (case c1_Program => k_is)
    (case c2_Program => k_is)
    (case c3_Program => k_is)
    (case c4_Program => k_is)
    (case n_Program_ask_table => k_is)
    (case n_Program_signal_table => k_is)
    (case n_Program_input_words => k_is)
    (case n_Program_row_list => k_is)
    (case n_Program_label_names => k_is)
    (case n_Program_slot_names => k_is)
    (case n_Program_gate_names => k_is)
    (case n_Program_row_table => k_is)
    (case n_Program_list_sizes => k_is)
    (case mk_Program => k_is)
    (case kp_Program => k_is)
    (case at_Program___init__ => k_is)
    (case fn_Program___init__ => k_is)
    (case L_Program___init__ => k_is)
    (case D_Program___init__ => k_is)
    (case P_Program___init__ => k_is)
    (case at_Program_add_rows => k_is)
    (case fn_Program_add_rows => k_is)
    (case L_Program_add_rows => k_is)
    (case D_Program_add_rows => k_is)
    (case P_Program_add_rows => k_is)
    (case at_Program_asks => k_is)
    (case fn_Program_asks => k_is)
    (case L_Program_asks => k_is)
    (case D_Program_asks => k_is)
    (case P_Program_asks => k_is)
    (case at_Program_signals => k_is)
    (case fn_Program_signals => k_is)
    (case L_Program_signals => k_is)
    (case D_Program_signals => k_is)
    (case P_Program_signals => k_is)
    (case at_Program_inputs => k_is)
    (case fn_Program_inputs => k_is)
    (case L_Program_inputs => k_is)
    (case D_Program_inputs => k_is)
    (case P_Program_inputs => k_is)
    (case at_Program_rows => k_is)
    (case fn_Program_rows => k_is)
    (case L_Program_rows => k_is)
    (case D_Program_rows => k_is)
    (case P_Program_rows => k_is)
    (case pi_ha => k_is)
    (case pi_hn => k_is)
    (case pi_ht => k_is)
    (case pi_hm => k_is)
