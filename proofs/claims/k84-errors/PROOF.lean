import PyProof.Rows.All
import Wide.All
import OpenK.AllK
import Wide.FinOn
import PyProof.EqAt
import PyProof.EqKinds
import PyProof.TupleCall
import KE.KExcSuper
import KE.KExcIs
import HandS.Base
import HandS.Call
import HandS.List
import HandS.Ends
import HandS.Exc
import HandS.ExcInit
import HandS.ExcSuper
import HandS.MakeKwOnly
import HandS.IsInst
import HandS.ForMost
import HandS.Wide
import HandS.Evl
import PySem.Challenge.RW_openruns_k84_errors_made_by_name
set_option Elab.async false
set_option linter.all false
set_option maxRecDepth 100000
set_option maxHeartbeats 4000000
namespace PySem
namespace XL
open PySem.W PySem.Calls PyProof.Rows
/-! ### C(args, kw = ..), C an own exception class -/
section
variable {M : Model} {prog : Program} {w : World} {A : Around} {E : Value → Shared → Prop} {R : Result → Shared → Prop} {h : Heap} {g : Array GenState} {d : Drawn} {t : Nat} {os : OsState}
variable {nm q : Str} {C N : Addr} {bs bm bmB : List Value} {hdct : Bool} {sn : List Str} {sub : List Value} {ab : Bool} {col : Option Bool} {dd : Option Addr} {k0 k1 k2 k3 k5 : Option Value} {B newId initId : String}
theorem check_newK (F : ExcBaseFacts B newId initId bmB) (hT : ∀ X : String, bm.contains (.type X) = bmB.contains (.type X)) {rest : List Value} {kw : List (Str × Value)} {Q : Unit → Shared → Prop}
    (hC : h.get? C = some (excClassObj nm q C N bs bm hdct sn sub ab col dd k0 k1 k2 k3 k5 newId)) (hq : Q () ⟨h, g, d, t, os⟩) : wpAny M A (checkBuiltinCall newId ⟨.ref C :: rest, kw⟩) Q E ⟨h, g, d, t, os⟩ := by
  have hcont : (Value.ref C :: bm).contains (.type B) = true := by rw [List.contains_cons, hT, F.hasB, Bool.or_true]
  have hstar := F.noStar
  simp only [checkBuiltinCall, F.newKind, F.newSplit, F.newRow]
  repeat (first | refine wpAny_loadPart_at hC ?_ | (refine wpAny_isSubtype_exc hC ?_; rw [hcont]) | refine wpAny_staticBase_exc hC ?_ | refine wpAny_madeBy_exc hC ?_ | simp only [bne_self_eq_false, Bool.false_eq_true, if_false] | wp_step)
  exact hq
theorem newK (F : ExcBaseFacts B newId initId bmB) (hT : ∀ X : String, bm.contains (.type X) = bmB.contains (.type X)) {rest : List Value} {kw : List (Str × Value)}
    (hC : h.get? C = some (excClassObj nm q C N bs bm hdct sn sub ab col dd k0 k1 k2 k3 k5 newId))
    (hq : R (.ok (.ret (.ref (h.objs.size + 1)))) ⟨(h.push { cls := .type "tuple", data := .seq rest.toArray }).push
      { cls := .ref C, data := .fields #[.ref h.objs.size, .none, .none, .none, .bool false, .none] }, g, d, t, os⟩) (hrest : rest.length ≤ sizeLine) :
    codeAny (model prog w) A (.builtin newId ⟨.ref C :: rest, kw⟩) R ⟨h, g, d, t, os⟩ := by
  have hends := F.ends
  have hcB : (Value.ref C :: bm).contains (.type B) = true := by rw [List.contains_cons, hT, F.hasB, Bool.or_true]
  have hcA : (Value.ref C :: bm).contains (.type "AttributeError") = false := by rw [List.contains_cons, hT, F.noAttr]; rfl
  have hcN : (Value.ref C :: bm).contains (.type "NameError") = false := by rw [List.contains_cons, hT, F.noName]; rfl
  refine codeAny_builtinAt F.entry ?_
  unfold Builtin.«BaseException.__new__»
  refine wpAt_bind ?_
  show wpAt _ _ _ (stack >>= _) _ _ _
  refine wpAt_bind (wpAt_stack fun p below => wpAt_of_wpAny ?_)
  wp_walk
  refine wpAt_of_wpAny ?_
  rw [F.owner]
  repeat (first | with_reducible refine wpAny_madeHere_exc F.canon hC ?_ | with_reducible refine wpAny_loadPart_at hC ?_ | (with_reducible refine wpAny_isSubtype_exc hC ?_; first | rw [hcB] | rw [hcA] | rw [hcN]) | wp_step)
  show R _ _
  rw [Heap.size_push]
  exact hq
theorem type_callK (F : ExcBaseFacts B newId initId bmB) (hT : ∀ X : String, bm.contains (.type X) = bmB.contains (.type X)) {rest : List Value} {kw : List (Str × Value)} {fI : Addr} {Q : Fin → Shared → Prop}
    (hC : h.get? C = some (excClassObj nm q C N bs bm hdct sn sub ab col dd k0 k1 k2 k3 k5 newId))
    (hi : W.Looks (model prog w) h (typeLookup (.ref C) "__init__") (some (.ref fI))) (hb : ∀ self, W.Looks (model prog w) h (bindSpecial (.ref fI) self) (.ref fI, [self])) (hrest : rest.length ≤ sizeLine)
    (hq : codeAny (model prog w) A (.call (.ref fI) ⟨.ref (h.objs.size + 1) :: rest, kw⟩)
      (fun r s' => match r with | .ok (.ret v) => v = .none ∧ Q (.done (.ret (.ref (h.objs.size + 1)))) s' | .ok _ => False | .error e => E e s')
      ⟨(h.push (W.kdv_tup rest)).push (HandSPX.excO C h.objs.size), g, d, t, os⟩) :
    wpAny (model prog w) A (Builtin.«type.__call__» ⟨.ref C :: rest, kw⟩) Q E ⟨h, g, d, t, os⟩ := by
  repeat (first | with_reducible refine wpAny_loadPart_at hC ?_ | with_reducible refine wpAny_madeBy_exc hC ?_ | wp_step)
  refine codeAny_call_builtin_code (Code.quiet_builtin _ F.quiet) (check_newK F hT hC ?_)
  refine newK F hT hC ?_ hrest
  show wpAny _ _ _ _ _ _
  have k : ∀ b o, h.get? b = some o → ((h.push (W.kdv_tup rest)).push (HandSPX.excO C h.objs.size)).get? b = some o := fun b o e => Heap.get?_push_of_some _ (Heap.get?_push_of_some _ e)
  have hC₁ := k _ _ hC
  have hget : ((h.push (W.kdv_tup rest)).push (HandSPX.excO C h.objs.size)).get? (h.objs.size + 1) = some (HandSPX.excO C h.objs.size) := by heap_get
  have hcC : (Value.ref C :: bm).contains (.ref C) = true := by simp
  have i1 := hi.keeps k
  have b1 := (hb (.ref (h.objs.size + 1))).keeps k
  unfold isInstance
  repeat (first | with_reducible refine wpAny_loadPart_at hget ?_ | (with_reducible refine wpAny_isSubtype_exc hC₁ ?_; rw [hcC]) | wp_step)
  show wpAny _ _ (typeLookup (.ref C) _) _ _ _
  refine i1.at ?_
  refine wpAny_holding (wpAny_bind (b1.at ?_))
  refine wpAny_bind (wpAny_call (codeAny_mono hq fun r s' z => ?_))
  rcases r with e | (v | _ | _ | _) <;> first | exact z | exact z.elim | skip
  obtain ⟨rfl, z⟩ := z
  first
    | exact wpAny_pure (wpAny_pure z)
    | (wp_walk; exact z)
theorem check_typeK {M : Model} {rest : List Value} {kw : List (Str × Value)} {Q : Unit → Shared → Prop} (hC : h.get? C = some (excClassObj nm q C N bs bm hdct sn sub ab col dd k0 k1 k2 k3 k5 newId))
    (hq : Q () ⟨h, g, d, t, os⟩) : wpAny M A (checkBuiltinCall "type.__call__" ⟨.ref C :: rest, kw⟩) Q E ⟨h, g, d, t, os⟩ := by
  have f3 := tc_sub
  have hT : (⟨h, g, d, t, os⟩ : Shared).TypeIs (.ref C) "type" := ⟨_, hC, rfl⟩
  simp only [checkBuiltinCall, tc_kind, tc_split]
  repeat (any_goals (first | assumption | with_reducible refine wpAny_loadPart_at hC ?_ | with_reducible refine wpAny_onRaise ?_ | with_reducible refine wpAny_map ?_ | wp_step))
theorem call_ownK (F : ExcBaseFacts B newId initId bmB) (hT : ∀ X : String, bm.contains (.type X) = bmB.contains (.type X)) {rest : List Value} {kw : List (Str × Value)} {fI : Addr}
    (hC : h.get? C = some (excClassObj nm q C N bs bm hdct sn sub ab col dd k0 k1 k2 k3 k5 newId))
    (hi : W.Looks (model prog w) h (typeLookup (.ref C) "__init__") (some (.ref fI))) (hb : ∀ self, W.Looks (model prog w) h (bindSpecial (.ref fI) self) (.ref fI, [self])) (hrest : rest.length ≤ sizeLine)
    (hq : codeAny (model prog w) (A.under (.builtin "type.__call__" ⟨.ref C :: rest, kw⟩)) (.call (.ref fI) ⟨.ref (h.objs.size + 1) :: rest, kw⟩) (W.InitBack (h.objs.size + 1) R)
      ⟨(h.push (W.kdv_tup rest)).push (HandSPX.excO C h.objs.size), g, d, t, os⟩) :
    codeAny (model prog w) A (.call (.ref C) ⟨rest, kw⟩) R ⟨h, g, d, t, os⟩ := by
  have f1 := tc_lookup
  have f2 := tc_bind (.ref C)
  have hTy : (⟨h, g, d, t, os⟩ : Shared).TypeIs (.ref C) "type" := ⟨_, hC, rfl⟩
  refine codeAny_of_tree ?_
  show wpAny _ _ (callAny (.ref C) _) _ _ _
  repeat (any_goals (first | assumption | with_reducible refine wpAny_loadPart_at hC ?_ | wp_step))
  refine ⟨rfl, ?_⟩
  refine codeAny_call_builtin_at (Code.quiet_builtin _ (by decide +kernel)) entry_typeCall (check_typeK hC (type_callK F hT hC hi hb hrest ?_))
  refine codeAny_mono hq fun r s' z => ?_
  rcases r with e | (v | _ | _ | _) <;> exact z
end
end XL
end PySem
namespace PySem
namespace XL
open PySem.W PySem.Calls PyProof.Rows Builtin Builtin.ObjectAttr
abbrev lkT : List Value := [.type "LookupError", .type "Exception", .type "BaseException", .type "object"]
theorem lk_ne {l : List Value} (e : excTail lkT l = true) : l.isEmpty = false := by
  rcases excTail_cases l e with ⟨c, r, rfl, _⟩ | rfl <;> rfl
/-! ### self.name = v on an exception over LookupError -/
section
variable {prog : Program} {w : World} {A : Around} {E : Value → Shared → Prop} {R : Result → Shared → Prop} {hp : Heap} {g : Array GenState} {d : Drawn} {t : Nat} {os : OsState}
theorem osa_walk {K : W.Frag} {name : Str} {tk : Tok} {v : Value} {x C : Addr} {ox : Obj} {od : Option Obj} {cd : ClassData}
    (X : K.In hp) (I : W.InstAt hp x ox C od) (hcd : W.clsIn K C = some cd) (hm : excTail lkT cd.mro = true) (ha : W.findIn K (.ref C) name = some none)
    (hq : wpAny (model prog w) A.in1 (Builtin.ObjectAttr.storeInOwnDict (.ref x) (.ref C) (.str name tk) name v false)
      (fun fin s' => match fin with | .done f => R (.ok f) s' | .again c' => c'.quiet = true ∧ codeAny (model prog w) A c' R s') (fun e s' => R (.error e) s') ⟨hp, g, d, t, os⟩) :
    codeAny (model prog w) A (.call (.builtin "object.__setattr__") ⟨[.ref x, .str name tk, v], []⟩) R ⟨hp, g, d, t, os⟩ := by
  have SF := F.store_LookupError
  have ne := lk_ne hm
  have hob : cd.mro.contains (.type "object") = true := (excTail_contains "object" _ hm).trans (by decide +kernel)
  have sub : W.Looks (model prog w) hp (isInstance (.ref x) (.type "object")) true := I.type.andThen (W.looks_mroIn X (by unfold W.mroIn; rw [hcd, Option.bind_some, if_neg (by rw [ne]; decide), hob]))
  refine codeAny_call_builtin SF.slot.plain SF.entry (@W.check_slot (model prog w) _ _ ⟨hp, g, d, t, os⟩ "object.__setattr__" "object" "__setattr__" (.ref x) [.str name tk, v] [] _ SF.kind SF.split sub (SF.args (.ref x) (.str name tk) v) ?_)
  have hmr : W.Looks (model prog w) hp (mroOf (.ref C)) cd.mro := (W.looks_clsIn X hcd).andThen .now
  have L3 : W.Looks (model prog w) hp (storeTaker? none) none := .now
  rw [W.osa_eq, refuse_eq]
  refine wpAny_bind (wpAny_bind (I.type.at (wpAny_bind (hmr.at ?_))))
  rw [excTail_pass _ (SF.passes _) _ hm]
  refine wpAny_pure (wpAny_bind (I.type.at (wpAny_bind ((W.looks_findIn X ha).at (wpAny_bind (L3.at ?_))))))
  exact hq
theorem osa_new {K : W.Frag} {name : Str} {tk : Tok} {v : Value} {x C : Addr} {fv : Array Value} {cd : ClassData}
    (X : K.In hp) (hx : hp.get? x = some { cls := .ref C, data := .fields fv }) (hcd : W.clsIn K C = some cd) (hm : excTail lkT cd.mro = true) (hh : cd.hasDict = true) (ha : W.findIn K (.ref C) name = some none)
    (hq : ∀ h' tk' dx, (∀ b o, b ≠ x → hp.get? b = some o → h'.get? b = some o) → hp.objs.size ≤ dx → dx ≠ x → h'.get? x = some { cls := .ref C, dict := some dx, data := .fields fv } →
      h'.Ns1 dx (fun y => if y = name then some v else none) → R (.ok (.ret .none)) ⟨h', g, d, tk', os⟩) :
    codeAny (model prog w) A (.call (.builtin "object.__setattr__") ⟨[.ref x, .str name tk, v], []⟩) R ⟨hp, g, d, t, os⟩ := by
  have I : W.InstAt hp x { cls := .ref C, data := .fields fv } C none := ⟨hx, rfl, rfl, trivial⟩
  have hxs : x ≠ hp.objs.size := Nat.ne_of_lt (Heap.lt_size hx)
  refine osa_walk X I hcd hm ha ?_
  have hcls : W.Looks (model prog w) hp (classData C) cd := W.looks_clsIn X hcd
  obtain ⟨nm, bs, mro, ns, qn, hd, sn, sb, ab, col, del⟩ := cd
  dsimp only at hh
  subst hh
  unfold Builtin.ObjectAttr.storeInOwnDict Builtin.ObjectAttr.ownDictForStores
  repeat (first | with_reducible refine HandSPX.store_in_new ?_ ?_ | with_reducible refine wpAny_loadPart_at hx ?_ | with_reducible refine hcls.at ?_ | wp_step)
  · exact ⟨_, #[], _, (Heap.get?_update_ne _ _ _ _ hxs.symm).trans (Heap.get?_push_at rfl rfl), rfl, fun e he => absurd he (by simp), fun _ => rfl⟩
  · intro h' tk' hn' hs
    have hx₁ : (hp.push { cls := .type "dict", data := .dict #[] }).get? x = some { cls := .ref C, data := .fields fv } := Heap.get?_push_of_some _ hx
    refine hq h' tk' hp.objs.size (fun b o hb ho => ?_) (Nat.le_refl _) hxs.symm ?_ hn'
    · exact (hs.2 b (Nat.ne_of_lt (Heap.lt_size ho))).trans ((Heap.get?_update_ne _ _ _ _ hb).trans (Heap.get?_push_of_some _ ho))
    · exact (hs.2 x hxs).trans (Heap.get?_update_self _ hx₁ rfl)
theorem osa_old {K : W.Frag} {name : Str} {tk : Tok} {v : Value} {x C dx : Addr} {fv : Array Value} {cd : ClassData} {m0 : Str → Option Value} {nl : List Str}
    (X : K.In hp) (hx : hp.get? x = some { cls := .ref C, dict := some dx, data := .fields fv }) (hns : hp.Ns1 dx m0) (hw : Within m0 nl) (hz : nl.length ≤ 1000) (hcd : W.clsIn K C = some cd) (hm : excTail lkT cd.mro = true) (hh : cd.hasDict = true)
    (ha : W.findIn K (.ref C) name = some none)
    (hq : ∀ h' tk', (∀ b o, b ≠ dx → hp.get? b = some o → h'.get? b = some o) → h'.Ns1 dx (fun y => if y = name then some v else m0 y) → R (.ok (.ret .none)) ⟨h', g, d, tk', os⟩) :
    codeAny (model prog w) A (.call (.builtin "object.__setattr__") ⟨[.ref x, .str name tk, v], []⟩) R ⟨hp, g, d, t, os⟩ := by
  obtain ⟨oD, esD, epD, hoD, hdD, _⟩ := hns.count hw
  have I : W.InstAt hp x { cls := .ref C, dict := some dx, data := .fields fv } C (some oD) := ⟨hx, rfl, rfl, hoD⟩
  refine osa_walk X I hcd hm ha ?_
  have hcls : W.Looks (model prog w) hp (classData C) cd := W.looks_clsIn X hcd
  obtain ⟨nm, bs, mro, ns, qn, hd, sn, sb, ab, col, del⟩ := cd
  dsimp only at hh
  subst hh
  unfold Builtin.ObjectAttr.storeInOwnDict Builtin.ObjectAttr.ownDictForStores
  repeat (first | with_reducible refine OEX.store_in_old hns hw hz ?_ | with_reducible refine wpAny_loadPart_at hx ?_ | with_reducible refine hcls.at ?_ | wp_step)
  intro h' tk' hn' hs
  exact hq h' tk' (fun b o hb ho => (hs.2 b hb).trans ho) hn'
end
/-! ### the text of an own __init__ -/
section
variable {prog : Program} {w : World} {A : Around} {E : Value → Shared → Prop} {R : Result → Shared → Prop} {s : Shared} {K : Frag}
/-- the __init__ of an own class at C (its cell __class__ at cc, its code at cda), over LookupError: what the written part says -/
structure XCls (prog : Program) (K : Frag) (C : Addr) : Prop where
  cls : ∃ nm q N bs bm sn sub ab col dd k0 k1 k2 k3 k5, K.lookup C = some (excClassObj nm q C N bs bm true sn sub ab col dd k0 k1 k2 k3 k5 "LookupError.__new__") ∧ excTail lkT bm = true
  sa : findIn K (.ref C) "__setattr__" = some (some (.builtin "object.__setattr__"))
  sup : ks_superIn K C C "__init__" = some (some (.builtin "LookupError.__init__"))
  opq : nsIn K cStatics "thirdparty.any" = some none
  sg : nsIn K mainGlobals "super" = some none
  top : (prog.main.scope.names.lookup ("super" : Str)).isSome = false
/-- .. of the function object at fI -/
structure XFn (prog : Program) (K : Frag) (C fI : Addr) (qual : Str) (params : Arguments) (body : List Stmt) (scope : Scope) : Prop where
  fn : ∃ (oc : Value) (od : Option Addr) (kV doc pm : Value) (an : Option Addr) (cda : Addr) (ct : Value) (cc : Addr) (osl : Array (Option Value)) (cl ccl : Value) (cld cdd : Option Addr) (csl ccs : Array (Option Value)) (vs : Array Value) (file : Str) (tf : Tok),
    K.lookup fI = some ⟨oc, od, .func (ksFn "__init__" qual params body scope .none kV doc pm an (.ref cda) ct cc), osl⟩ ∧ codeIn K (.ref cda) qual = true ∧
    K.lookup cc = some ⟨cl, cld, .cell (some (.ref C)), csl⟩ ∧ K.lookup cda = some ⟨ccl, cdd, .fields vs, ccs⟩ ∧ vs[2]? = some (.str file tf) ∧ ((prog.main.file : Str) == file) = true
  iC : findIn K (.ref C) "__init__" = some (some (.ref fI))
  tI : typeIn K (.ref fI) = some (.type "function")
/-- a module's parts -/
structure XTop (h : Heap) : Prop where
  g : ∃ mg, h.Ns mainGlobals mg
  b : ∃ mb, h.Ns builtinsNs mb ∧ ∀ x : Str, x ≠ "__name__" → mb x = bootBuiltins x
  nolimit : h.NoLimit
theorem XTop.keeps {h h' : Heap} (T : XTop h) (k : ∀ b o, h.get? b = some o → h'.get? b = some o) : XTop h' :=
  ⟨let ⟨mg, q⟩ := T.g; ⟨mg, q.keeps k⟩, let ⟨mb, q, r⟩ := T.b; ⟨mb, q.keeps k, r⟩, T.nolimit.keeps k⟩
end
end XL
end PySem
namespace PySem
namespace XL
open PySem.W PySem.Calls PyProof.Rows
/-! ### super().__init__('..') in an own __init__ -/
/-- where the statement stands -/
structure SupPos where
  (p0 p1 p2 p3 p4 p5 : Pos) (j : String)
section
variable {prog : Program} {w : World} {A : Around} {E : Value → Shared → Prop} {R : Result → Shared → Prop} {s : Shared} {K : Frag}
theorem call_mw {x C u t0 : Addr} {rest : List Value} {Q : Value → Shared → Prop} (T : XCls prog K C) (X : K.In s.heap) (hx : s.heap.get? x = some (HandSPX.excO C t0)) (hu : KxsAt "LookupError.__init__" u x s.heap) (hz : rest.length ≤ sizeLine)
    (hq : ∀ h' t1, (∀ b o, b ≠ x → s.heap.get? b = some o → h'.get? b = some o) → h'.get? x = some (HandSPX.excO C t1) → Q .none { s with heap := h' }) :
    wpAny (model prog w) A (call (.ref u) rest) Q E s := by
  obtain ⟨nm, q, N, bs, bm, sn, sub, ab, col, dd, k0, k1, k2, k3, k5, hC, hbm⟩ := T.cls
  have FB := F.excBase_LookupError
  obtain ⟨hh, g, d, tk, os⟩ := s
  unfold KxsAt at hu
  refine wpAny_call (codeAny_of_tree ?_)
  show wpAny _ A.in1 (callAny (.ref u) ⟨rest, []⟩) _ _ _
  simp only [callAny]
  refine wpAny_bind (wpAny_load hu ?_)
  simp only [kxs_mw, show (Value.type "method-wrapper" == Value.type "method" || Value.type "method-wrapper" == Value.type "builtin_function_or_method" || Value.type "method-wrapper" == Value.type "method-wrapper") = true by decide, if_true]
  refine KFB.if_so (by decide) ?_
  refine wpAny_bind (check_bound_init FB.toExcCallFacts (X _ _ hC) hx rfl ?_)
  refine wpAny_bind (wpAny_pure (wpAny_pure ?_))
  refine ⟨plainId_quiet FB.init.plain _, codeAny_builtin FB.initEntry ?_⟩
  exact exc_init_tree (cls := .ref C) (t0 := t0) (dv := none) (c2 := .none) (c3 := .none) (b4 := .bool false) hx hz fun h' k e _ => hq h' _ k e
theorem sup_stmt {x C fI L : Addr} {t0 : Addr} {qual : Str} {body : List Stmt} {scope : Scope} {cda cc : Addr} {oc cl ccl : Value} {od cld cdd : Option Addr} {osl csl ccs : Array (Option Value)} {fd : FuncData} {vs : Array Value} {file : Str} {tf : Tok} {ar : Arg}
    {m : Str → Option Value} {p0 p1 p2 p3 p4 p5 : Pos} {tx : Str} {j} {Q : Flow → Shared → Prop}
    (T : XCls prog K C) (X : K.In s.heap) (P : XTop s.heap) (hn : s.heap.Ns L m) (hv : m ar.arg = some (.ref x)) (hx : s.heap.get? x = some (HandSPX.excO C t0)) (hL : L ≠ x)
    (hf : K.lookup fI = some ⟨oc, od, .func fd, osl⟩) (hp : (fd.params.posonlyargs ++ fd.params.args).head? = some ar) (hcode : K.lookup cda = some ⟨ccl, cdd, .fields vs, ccs⟩) (hvs : vs[2]? = some (.str file tf)) (hfile : ((prog.main.file : Str) == file) = true)
    (hcell : K.lookup cc = some ⟨cl, cld, .cell (some (.ref C)), csl⟩)
    (hks : scope.names.lookup ("super" : Str) = some .globalImplicit) (hkc : scope.names.lookup ("__class__" : Str) = some .free) (hka : scope.names.lookup ar.arg = some .local) (hk : scope.kind = .function)
    (hq : ∀ h' tk t1, (∀ b o, b ≠ x → s.heap.get? b = some o → h'.get? b = some o) → h'.get? x = some (HandSPX.excO C t1) → Q .next { s with heap := h', toks := tk })
    {pl : Sem Bool}
    (he : eval (.Call (.Attribute (.Call (.Name "super" p0) [] [] p1) "__init__" p2) [.Constant (.str tx) j p3] [] p4) (ksEnv qual scope L fI (.ref cda) cc) = (do
      let ov ← attributeBase (.Call (.Name "super" p0) [] [] p1) "__init__" (ksEnv qual scope L fI (.ref cda) cc) (eval (.Call (.Name "super" p0) [] [] p1) (ksEnv qual scope L fI (.ref cda) cc))
      standAt p2.atName
      let (f, first) ← holding [ov] (getMethod ov "__init__" pl)
      callWith p4 f first (backTo p4 (starEach [.Constant (.str tx) j p3] (ksEnv qual scope L fI (.ref cda) cc))) []) := by rfl)
    (hi : interactive (ksEnv qual scope L fI (.ref cda) cc) = false := by rfl)
    (hw : swapsWith (.Call (.Attribute (.Call (.Name "super" p0) [] [] p1) "__init__" p2) [.Constant (.str tx) j p3] [] p4) none p5.line (ksEnv qual scope L fI (.ref cda) cc) = pure false := by rfl) :
    _root_.PySem.wpAt (model prog w) A (.func body (ksEnv qual scope L fI (.ref cda) cc)) (exec (.Expr (.Call (.Attribute (.Call (.Name "super" p0) [] [] p1) "__init__" p2) [.Constant (.str tx) j p3] [] p4) p5) (ksEnv qual scope L fI (.ref cda) cc)) Q E s := by
  obtain ⟨nm, q, N, bs, bm, sn, sub, ab, col, dd, k0, k1, k2, k3, k5, hC, hbm⟩ := T.cls
  have hcl : clsIn K C = some { name := nm, bases := bs, mro := .ref C :: bm, ns := N, qualname := q, hasDict := true, slotNames := sn, subclasses := sub, abstract := ab, collection := col, hasDel := false } := by unfold clsIn; rw [hC] <;> rfl
  have hmC : mroIn K C (.ref C) = some true := by unfold mroIn; rw [hcl, Option.bind_some, if_neg (by show ¬ (List.isEmpty (Value.ref C :: bm) = true); simp)]; simp
  have hD1 := X _ _ hC
  obtain ⟨hh, g, d, t, os⟩ := s
  refine ks_wpAt_Expr_any (ks_wpAt_MethodCall ?_ he) hi hw
  refine ks_wpAt_super_base (env := ksEnv qual scope L fI (.ref cda) cc) hks hkc (by decide) rfl (X _ _ hf) rfl hp rfl (X _ _ hcode) rfl hvs hfile T.top ?_
  obtain ⟨mg, hg⟩ := P.g
  obtain ⟨mb, hb, hbt⟩ := P.b
  refine ks_loadName_global hk hks (loadGlobal_builtin (env := ksEnv qual scope L fI (.ref cda) cc) hg (mg_none_of X hg T.sg) hb ((hbt _ (by decide +kernel)).trans (show bootBuiltins "super" = some (.type "super") from by decide +kernel)) ⟨rfl, ?_⟩)
  refine wpAny_loadName_free hk hkc rfl ⟨_, X _ _ hcell, rfl⟩ ?_
  refine wpAny_loadName_local hk hka hn hv ?_
  refine ks_wpAny_isType_cls hD1 rfl ⟨rfl, ?_⟩
  refine ks_wpAny_call_super hD1 rfl hx rfl (fun c e => nomatch e) (looks_mroIn X hmC) (fun h1 e1 kk1 => ?_)
  have k1' : ∀ b o, hh.get? b = some o → h1.get? b = some o := kk1
  have X1 : K.In h1 := X.keeps k1'
  have hI : Looks (model prog w) h1 (isInstance (.ref x) (.type "LookupError")) true := by
    have I : InstAt h1 x (HandSPX.excO C t0) C none := ⟨k1' _ _ hx, rfl, rfl, trivial⟩
    refine I.type.andThen (looks_mroIn X1 ?_)
    unfold mroIn
    rw [hcl, Option.bind_some, if_neg (by show ¬ (List.isEmpty (Value.ref C :: bm) = true); simp)]
    show some ((Value.ref C :: bm).contains (.type "LookupError")) = some true
    rw [List.contains_cons, excTail_contains "LookupError" _ hbm]
    rfl
  have hxC : x ≠ C := fun z => by
    rw [z] at hx
    have y := hD1.symm.trans hx
    cases y
  have hsup := T.sup
  unfold ks_superIn at hsup
  rw [hcl] at hsup
  refine kxs_getMethod kxs_LookupError e1 (looks_opaque X1 T.opq) (l₀ := .ref C :: bm) (fun A Q E s k q => wpAny_bind ((looks_clsIn X1 hcl) A _ E s k (wpAny_pure q))) rfl X1 hsup hI hxC (by decide) ?_
  have k2' : ∀ b o, hh.get? b = some o → (h1.push (kxs_mw "LookupError.__init__" x)).get? b = some o := fun b o z => Heap.get?_push_of_some _ (k1' b o z)
  show wpAny _ _ (callWith p4 (.ref h1.objs.size) [] (backTo p4 (starEach [.Constant (.str tx) j p3] (ksEnv qual scope L fI (.ref cda) cc))) []) _ _ _
  refine kxs_callWith (i := "LookupError.__init__") (x := x) (by rfl) (evalArgs_plain ?_)
  refine spliced_cons ?_
  show wpAny _ _ (eval (.Constant (.str tx) j p3) (ksEnv qual scope L fI (.ref cda) cc)) _ _ _
  refine Calls.Constant_str (spliced_nil ?_)
  refine ⟨Heap.get?_push_at rfl rfl, ?_⟩
  refine call_mw (s := ⟨h1.push (kxs_mw "LookupError.__init__" x), g, d, _, os⟩) T (X.keeps k2') (k2' _ _ hx) (Heap.get?_push_at rfl rfl) (by show 1 ≤ sizeLine; rw [sizeLine_eq]; decide) fun h' t1 k3 e3 => ?_
  exact hq h' _ t1 (fun b o hb z => k3 b o hb (k2' b o z)) e3
end
end XL
end PySem
namespace PySem
namespace XL
open PySem.W PySem.Calls PyProof.Rows
/-- where an __init__ of one, of two fields stands -/
structure Ps1 where
  (p0 p1 p2 p3 p4 p5 q1 q2 q3 q4 : Pos) (j : Nat)
structure Ps2 extends Ps1 where
  (r1 r2 r3 r4 : Pos)
abbrev supS (P : Ps1) (tx : Str) : Stmt := .Expr (.Call (.Attribute (.Call (.Name "super" P.p0) [] [] P.p1) "__init__" P.p2) [.Constant (.str tx) P.j P.p3] [] P.p4) P.p5
abbrev body1 (P : Ps1) (tx f : Str) : List Stmt := [supS P tx, .Assign [.Attribute (.Name "self" P.q1) f P.q2] (.Name f P.q3) P.q4]
abbrev body2 (P : Ps2) (tx f f2 : Str) : List Stmt := [supS P.toPs1 tx, .Assign [.Attribute (.Name "self" P.q1) f P.q2] (.Name f P.q3) P.q4, .Assign [.Attribute (.Name "self" P.r1) f2 P.r2] (.Name f2 P.r3) P.r4]
abbrev args1 (a1 a2 : Pos) (f : Str) : Arguments := { posonlyargs := [], args := [{ arg := "self", annotation := none, pos := a1 }, { arg := f, annotation := none, pos := a2 }], vararg := none, kwonlyargs := [], kw_defaults := [], kwarg := none, defaults := [] }
abbrev args2 (a1 a2 a3 : Pos) (f f2 : Str) : Arguments := { posonlyargs := [], args := [{ arg := "self", annotation := none, pos := a1 }, { arg := f, annotation := none, pos := a2 }, { arg := f2, annotation := none, pos := a3 }], vararg := none, kwonlyargs := [], kw_defaults := [], kwarg := none, defaults := [] }
abbrev scope1 (f : Str) : Scope := { kind := .function, names := [(Str.ofString "self", .local), (f, .local), (Str.ofString "__class__", .free), (Str.ofString "super", .globalImplicit)], isGenerator := false, isCoroutine := false, more := [] }
abbrev scope2 (f f2 : Str) : Scope := { kind := .function, names := [(Str.ofString "self", .local), (f, .local), (f2, .local), (Str.ofString "__class__", .free), (Str.ofString "super", .globalImplicit)], isGenerator := false, isCoroutine := false, more := [] }
/-- how the statement super().__init__('..') is run: rfl for a written scope -/
def EvOk (qual : Str) (scope : Scope) (fI : Addr) (P : Ps1) (tx : Str) : Prop := ∀ L cda cc : Addr, ∃ pl : Sem Bool,
  eval (.Call (.Attribute (.Call (.Name "super" P.p0) [] [] P.p1) "__init__" P.p2) [.Constant (.str tx) P.j P.p3] [] P.p4) (ksEnv qual scope L fI (.ref cda) cc) = (do
      let ov ← attributeBase (.Call (.Name "super" P.p0) [] [] P.p1) "__init__" (ksEnv qual scope L fI (.ref cda) cc) (eval (.Call (.Name "super" P.p0) [] [] P.p1) (ksEnv qual scope L fI (.ref cda) cc))
      standAt P.p2.atName
      let (f, first) ← holding [ov] (getMethod ov "__init__" pl)
      callWith P.p4 f first (backTo P.p4 (starEach [.Constant (.str tx) P.j P.p3] (ksEnv qual scope L fI (.ref cda) cc))) []) ∧
  interactive (ksEnv qual scope L fI (.ref cda) cc) = false ∧
  swapsWith (.Call (.Attribute (.Call (.Name "super" P.p0) [] [] P.p1) "__init__" P.p2) [.Constant (.str tx) P.j P.p3] [] P.p4) none P.p5.line (ksEnv qual scope L fI (.ref cda) cc) = pure false
/-- what __init__ leaves of a fresh exception at x -/
structure InitEnd (h h' : Heap) (x C dx : Addr) (mm : Str → Option Value) : Prop where
  keep : ∀ b o, b ≠ x → h.get? b = some o → h'.get? b = some o
  obj : ∃ t1 : Addr, h'.get? x = some { cls := .ref C, dict := some dx, data := .fields #[.ref t1, .none, .none, .none, .bool false, .none] }
  dbig : h.objs.size ≤ dx
  dne : dx ≠ x
  ns : h'.Ns1 dx mm
/-- a field's name is no name of the machine's -/
def okF (f : Str) : Bool := !(f == ("self" : Str)) && !(f == ("super" : Str)) && !(f == ("__class__" : Str)) && !(f == ("__debug__" : Str))
theorem okF_of {f : Str} (h : okF f = true) : (f == ("self" : Str)) = false ∧ (f == ("super" : Str)) = false ∧ (f == ("__class__" : Str)) = false ∧ (f == ("__debug__" : Str)) = false := by
  unfold okF at h
  simp only [Bool.and_eq_true, Bool.not_eq_true'] at h
  exact ⟨h.1.1.1, h.1.1.2, h.1.2, h.2⟩
theorem flip {a b : Str} (h : (a == b) = false) : (b == a) = false := by
  have := beq_eq_false_iff_ne.mp h
  exact beq_eq_false_iff_ne.mpr (Ne.symm this)
section
variable {prog : Program} {w : World} {A : Around} {E : Value → Shared → Prop} {R : Result → Shared → Prop} {s : Shared} {K : Frag} {C fI x t0 : Addr} {qual tx f f2 : Str} {v v2 : Value}
theorem init1 {P : Ps1} {a1 a2 : Pos} {args : Args} (T : XCls prog K C) (Fn : XFn prog K C fI qual (args1 a1 a2 f) (body1 P tx f) (scope1 f)) (hf : okF f = true) (nof : findIn K (.ref C) f = some none) (ev : EvOk qual (scope1 f) fI P tx)
    (X : K.In s.heap) (Tp : XTop s.heap) (hx : s.heap.get? x = some (HandSPX.excO C t0)) (hnx : K.lookup x = none) (hroom : A.depth < recursionLimit)
    (hb : ∀ (kV doc pm : Value) (an : Option Addr) (cdv ct : Value) (cc : Addr), BindsTo s (ksFn "__init__" qual (args1 a1 a2 f) (body1 P tx f) (scope1 f) .none kV doc pm an cdv ct cc) args [("self", .ref x), (f, v)])
    (hq : ∀ h' tk dx, InitEnd s.heap h' x C dx (fun y => if y = f then some v else none) → R (.ok (.ret .none)) { s with heap := h', toks := tk }) :
    codeAny (model prog w) A (.call (.ref fI) args) R s := by
  obtain ⟨oc, od, kV, doc, pm, an, cda, ct, cc, osl, cl, ccl, cld, cdd, csl, ccs, vs, file, tf, ho, hcd, hcell, hcode, hvs, hfile⟩ := Fn.fn
  obtain ⟨n1, n2, n3, n4⟩ := okF_of hf
  have l1 : (scope1 f).names.lookup f = some .local := by simp [List.lookup, n1]
  have l2 : (scope1 f).names.lookup ("super" : Str) = some .globalImplicit := by simp [List.lookup, flip n2]; rfl
  have l3 : (scope1 f).names.lookup ("__class__" : Str) = some .free := by simp [List.lookup, flip n3]; rfl
  have ls : (scope1 f).names.lookup ("self" : Str) = some .local := by simp [List.lookup]
  have hnc : ∀ y ∈ (scope1 f).names, y.2 ≠ .cell := by
    intro y hy
    simp only [scope1, List.mem_cons, List.mem_nil_iff, or_false] at hy
    rcases hy with rfl | rfl | rfl | rfl <;> simp
  have hlo : ∀ y ∈ ([("self", .ref x), (f, v)] : List (Str × Value)), (scope1 f).names.lookup y.1 = some .local := by
    intro y hy
    simp only [List.mem_cons, List.mem_nil_iff, or_false] at hy
    rcases hy with rfl | rfl
    · exact ls
    · exact l1
  obtain ⟨nm, q, N, bs, bm, sn, sub, ab, col, dd, k0, k1, k2, k3, k5, hC, hbm⟩ := T.cls
  have hcl : clsIn K C = some { name := nm, bases := bs, mro := .ref C :: bm, ns := N, qualname := q, hasDict := true, slotNames := sn, subclasses := sub, abstract := ab, collection := col, hasDel := false } := by unfold clsIn; rw [hC] <;> rfl
  refine ks_codeAny_call_defAt (fd := ksFn "__init__" qual (args1 a1 a2 f) (body1 P tx f) (scope1 f) .none kV doc pm an (.ref cda) ct cc) (body := body1 P tx f) (binds := [("self", .ref x), (f, v)]) hroom (X _ _ ho) rfl Tp.nolimit (codeRec_of X hcd) rfl (hb _ _ _ _ _ _ _) hnc hlo (fun h₁ hns hk₁ => ?_)
  have hLx : s.heap.objs.size ≠ x := Nat.ne_of_gt (Heap.lt_size hx)
  have ms : (fun y => ([("self", Value.ref x), (f, v)] : List (Str × Value)).reverse.lookup y) "self" = some (.ref x) := by simp [List.lookup, flip n1]
  have mf : (fun y => ([("self", Value.ref x), (f, v)] : List (Str × Value)).reverse.lookup y) f = some v := by simp [List.lookup]
  obtain ⟨pl, he, hi, hw⟩ := ev s.heap.objs.size cda cc
  refine ks_wpAt_execs_cons (sup_stmt (s := { s with heap := h₁, toks := s.toks + 2 }) (ar := { arg := "self", annotation := none, pos := a1 }) (t0 := t0) T (X.keeps hk₁) (Tp.keeps hk₁) hns ms (hk₁ _ _ hx) hLx ho rfl hcode hvs hfile hcell l2 l3 ls rfl (fun h₂ tk₂ t1 k₂ e₂ => ?_) he hi hw)
  refine wpAt_of_wpAny ?_
  have kk : ∀ b o, b ≠ x → s.heap.get? b = some o → h₂.get? b = some o := fun b o hb z => k₂ b o hb (hk₁ b o z)
  have X₂ : K.In h₂ := fun a o e => kk a o (fun z => by
    subst z
    rw [hnx] at e
    cases e) (X a o e)
  have hns₂ : h₂.Ns s.heap.objs.size (fun y => ([("self", Value.ref x), (f, v)] : List (Str × Value)).reverse.lookup y) := hns.at fun o z => k₂ _ o hLx z
  refine wpAny_execs_cons (plainObj_wpAny_Assign_Attribute ?_)
  refine ESX.ldL (v := v) hns₂ mf (ESX.ldL (v := .ref x) hns₂ ms ?_ rfl ls) rfl l1 n4
  refine set_plain X₂ (ox := HandSPX.excO C t1) (od := none) ⟨e₂, rfl, rfl, trivial⟩ T.sa ?_
  refine osa_new X₂ e₂ hcl (show excTail lkT (.ref C :: bm) = true from hbm) rfl nof (fun h₃ tk₃ dx k₃ dn dne hx₃ hn₃ => ?_)
  refine wpAny_execs_nil ?_
  have z1 : s.heap.objs.size < h₂.objs.size := hns₂.lt
  exact hq h₃ tk₃ dx ⟨fun b o hb e => k₃ b o hb (kk b o hb e), ⟨t1, hx₃⟩, Nat.le_of_lt (Nat.lt_of_lt_of_le z1 dn), dne, hn₃⟩
theorem init2 {P : Ps2} {a1 a2 a3 : Pos} {args : Args} (T : XCls prog K C) (Fn : XFn prog K C fI qual (args2 a1 a2 a3 f f2) (body2 P tx f f2) (scope2 f f2)) (hf : okF f = true) (hf2 : okF f2 = true) (h12 : (f == f2) = false) (nof : findIn K (.ref C) f = some none) (nof2 : findIn K (.ref C) f2 = some none) (ev : EvOk qual (scope2 f f2) fI P.toPs1 tx)
    (X : K.In s.heap) (Tp : XTop s.heap) (hx : s.heap.get? x = some (HandSPX.excO C t0)) (hnx : K.lookup x = none) (hroom : A.depth < recursionLimit)
    (hb : ∀ (kV doc pm : Value) (an : Option Addr) (cdv ct : Value) (cc : Addr), BindsTo s (ksFn "__init__" qual (args2 a1 a2 a3 f f2) (body2 P tx f f2) (scope2 f f2) .none kV doc pm an cdv ct cc) args [("self", .ref x), (f, v), (f2, v2)])
    (hq : ∀ h' tk dx, InitEnd s.heap h' x C dx (fun y => if y = f2 then some v2 else if y = f then some v else none) → R (.ok (.ret .none)) { s with heap := h', toks := tk }) :
    codeAny (model prog w) A (.call (.ref fI) args) R s := by
  obtain ⟨oc, od, kV, doc, pm, an, cda, ct, cc, osl, cl, ccl, cld, cdd, csl, ccs, vs, file, tf, ho, hcd, hcell, hcode, hvs, hfile⟩ := Fn.fn
  obtain ⟨n1, n2, n3, n4⟩ := okF_of hf
  obtain ⟨m1, m2, m3, m4⟩ := okF_of hf2
  have l1 : (scope2 f f2).names.lookup f = some .local := by simp [List.lookup, n1]
  have l1' : (scope2 f f2).names.lookup f2 = some .local := by simp [List.lookup, m1, flip h12]
  have l2 : (scope2 f f2).names.lookup ("super" : Str) = some .globalImplicit := by simp [List.lookup, flip n2, flip m2]; rfl
  have l3 : (scope2 f f2).names.lookup ("__class__" : Str) = some .free := by simp [List.lookup, flip n3, flip m3]; rfl
  have ls : (scope2 f f2).names.lookup ("self" : Str) = some .local := by simp [List.lookup]
  have hnc : ∀ y ∈ (scope2 f f2).names, y.2 ≠ .cell := by
    intro y hy
    simp only [scope1, List.mem_cons, List.mem_nil_iff, or_false] at hy
    rcases hy with rfl | rfl | rfl | rfl | rfl <;> simp
  have hlo : ∀ y ∈ ([("self", .ref x), (f, v), (f2, v2)] : List (Str × Value)), (scope2 f f2).names.lookup y.1 = some .local := by
    intro y hy
    simp only [List.mem_cons, List.mem_nil_iff, or_false] at hy
    rcases hy with rfl | rfl | rfl
    · exact ls
    · exact l1
    · exact l1'
  obtain ⟨nm, q, N, bs, bm, sn, sub, ab, col, dd, k0, k1, k2, k3, k5, hC, hbm⟩ := T.cls
  have hcl : clsIn K C = some { name := nm, bases := bs, mro := .ref C :: bm, ns := N, qualname := q, hasDict := true, slotNames := sn, subclasses := sub, abstract := ab, collection := col, hasDel := false } := by unfold clsIn; rw [hC] <;> rfl
  refine ks_codeAny_call_defAt (fd := ksFn "__init__" qual (args2 a1 a2 a3 f f2) (body2 P tx f f2) (scope2 f f2) .none kV doc pm an (.ref cda) ct cc) (body := body2 P tx f f2) (binds := [("self", .ref x), (f, v), (f2, v2)]) hroom (X _ _ ho) rfl Tp.nolimit (codeRec_of X hcd) rfl (hb _ _ _ _ _ _ _) hnc hlo (fun h₁ hns hk₁ => ?_)
  have hLx : s.heap.objs.size ≠ x := Nat.ne_of_gt (Heap.lt_size hx)
  have ms : (fun y => ([("self", Value.ref x), (f, v), (f2, v2)] : List (Str × Value)).reverse.lookup y) "self" = some (.ref x) := by simp [List.lookup, flip n1, flip m1]
  have mf : (fun y => ([("self", Value.ref x), (f, v), (f2, v2)] : List (Str × Value)).reverse.lookup y) f = some v := by simp [List.lookup, h12]
  have mf2 : (fun y => ([("self", Value.ref x), (f, v), (f2, v2)] : List (Str × Value)).reverse.lookup y) f2 = some v2 := by simp [List.lookup]
  obtain ⟨pl, he, hi, hw⟩ := ev s.heap.objs.size cda cc
  refine ks_wpAt_execs_cons (sup_stmt (s := { s with heap := h₁, toks := s.toks + 3 }) (ar := { arg := "self", annotation := none, pos := a1 }) (t0 := t0) T (X.keeps hk₁) (Tp.keeps hk₁) hns ms (hk₁ _ _ hx) hLx ho rfl hcode hvs hfile hcell l2 l3 ls rfl (fun h₂ tk₂ t1 k₂ e₂ => ?_) he hi hw)
  refine wpAt_of_wpAny ?_
  have kk : ∀ b o, b ≠ x → s.heap.get? b = some o → h₂.get? b = some o := fun b o hb z => k₂ b o hb (hk₁ b o z)
  have X₂ : K.In h₂ := fun a o e => kk a o (fun z => by
    subst z
    rw [hnx] at e
    cases e) (X a o e)
  have hns₂ : h₂.Ns s.heap.objs.size (fun y => ([("self", Value.ref x), (f, v), (f2, v2)] : List (Str × Value)).reverse.lookup y) := hns.at fun o z => k₂ _ o hLx z
  refine wpAny_execs_cons (plainObj_wpAny_Assign_Attribute ?_)
  refine ESX.ldL (v := v) hns₂ mf (ESX.ldL (v := .ref x) hns₂ ms ?_ rfl ls) rfl l1 n4
  refine set_plain X₂ (ox := HandSPX.excO C t1) (od := none) ⟨e₂, rfl, rfl, trivial⟩ T.sa ?_
  refine osa_new X₂ e₂ hcl (show excTail lkT (.ref C :: bm) = true from hbm) rfl nof (fun h₃ tk₃ dx k₃ dn dne hx₃ hn₃ => ?_)
  have z1 : s.heap.objs.size < h₂.objs.size := hns₂.lt
  have hns₃ : h₃.Ns s.heap.objs.size (fun y => ([("self", Value.ref x), (f, v), (f2, v2)] : List (Str × Value)).reverse.lookup y) := hns₂.at fun o z => k₃ _ o hLx z
  have X₃ : K.In h₃ := fun a o e => k₃ a o (fun z => by
    subst z
    rw [hnx] at e
    cases e) (X₂ a o e)
  refine wpAny_execs_cons (plainObj_wpAny_Assign_Attribute ?_)
  refine ESX.ldL (v := v2) hns₃ mf2 (ESX.ldL (v := .ref x) hns₃ ms ?_ rfl ls) rfl l1' m4
  have hwi : Within (fun y => if y = f then some v else none) [f] := fun y hy => by
    by_cases e : y = f
    · rw [e]; exact List.mem_cons_self ..
    · exact absurd (if_neg e) hy
  obtain ⟨oD, _, _, hoD, _, _⟩ := hn₃.count hwi
  refine set_plain X₃ (ox := { cls := .ref C, dict := some dx, data := .fields #[.ref t1, .none, .none, .none, .bool false, .none] }) (od := some oD) ⟨hx₃, rfl, rfl, hoD⟩ T.sa ?_
  refine osa_old X₃ hx₃ hn₃ hwi (by show 1 ≤ 1000; decide) hcl (show excTail lkT (.ref C :: bm) = true from hbm) rfl nof2 (fun h₄ tk₄ k₄ hn₄ => ?_)
  refine wpAny_execs_nil ?_
  have nd : ∀ {b : Addr} {o : Obj}, s.heap.get? b = some o → b ≠ dx := fun {b o} q => Nat.ne_of_lt (Nat.lt_of_lt_of_le (Heap.lt_size q) (Nat.le_of_lt (Nat.lt_of_lt_of_le z1 dn)))
  exact hq h₄ tk₄ dx ⟨fun b o hb e => k₄ b o (nd e) (k₃ b o hb (kk b o hb e)), ⟨t1, k₄ _ _ (Ne.symm dne) hx₃⟩, Nat.le_of_lt (Nat.lt_of_lt_of_le z1 dn), dne, hn₄⟩

/-- a made exception at e -/
structure OwnMade (h h' : Heap) (e C d : Addr) (mm : Str → Option Value) : Prop where
  keep : ∀ b o, h.get? b = some o → h'.get? b = some o
  new : h.objs.size ≤ e
  obj : ∃ t1 : Addr, h'.get? e = some { cls := .ref C, dict := some d, data := .fields #[.ref t1, .none, .none, .none, .bool false, .none] }
  dbig : h.objs.size ≤ d
  dne : d ≠ e
  ns : h'.Ns1 d mm
theorem made {params : Arguments} {body : List Stmt} {scope : Scope} {rest : List Value} {kw : List (Str × Value)} {mm : Str → Option Value} (T : XCls prog K C) (Fn : XFn prog K C fI qual params body scope) (X : K.In s.heap) (Tp : XTop s.heap) (hz : rest.length ≤ sizeLine)
    (hi : ∀ (s' : Shared) (A' : Around) (x t0 : Addr) (R' : Result → Shared → Prop), K.In s'.heap → XTop s'.heap → s'.heap.get? x = some (HandSPX.excO C t0) → K.lookup x = none → A'.depth ≤ A.depth + 1 →
      (∀ h' tk dx, InitEnd s'.heap h' x C dx mm → R' (.ok (.ret .none)) { s' with heap := h', toks := tk }) → codeAny (model prog w) A' (.call (.ref fI) ⟨.ref x :: rest, kw⟩) R' s')
    (hq : ∀ h' tk e d, OwnMade s.heap h' e C d mm → R (.ok (.ret (.ref e))) { s with heap := h', toks := tk }) :
    codeAny (model prog w) A (.call (.ref C) ⟨rest, kw⟩) R s := by
  obtain ⟨nm, q, N, bs, bm, sn, sub, ab, col, dd, k0, k1, k2, k3, k5, hC, hbm⟩ := T.cls
  obtain ⟨hp, g, dr, tk, os⟩ := s
  have k : ∀ b o, hp.get? b = some o → ((hp.push (kdv_tup rest)).push (HandSPX.excO C hp.objs.size)).get? b = some o := fun b o e => Heap.get?_push_of_some _ (Heap.get?_push_of_some _ e)
  have hget : ((hp.push (kdv_tup rest)).push (HandSPX.excO C hp.objs.size)).get? (hp.objs.size + 1) = some (HandSPX.excO C hp.objs.size) := by heap_get
  have hnx : K.lookup (hp.objs.size + 1) = none := by
    cases e : K.lookup (hp.objs.size + 1) with
    | none => rfl
    | some o =>
      have z : hp.get? (hp.objs.size + 1) = some o := X _ _ e
      exact absurd (Nat.lt_of_succ_lt (Heap.lt_size z)) (Nat.lt_irrefl _)
  refine call_ownK F.excBase_LookupError (fun Y => excTail_contains Y bm hbm) (X _ _ hC) (looks_findIn X Fn.iC) (fun self => bind_fn X self Fn.tI) hz ?_
  refine hi ⟨(hp.push (kdv_tup rest)).push (HandSPX.excO C hp.objs.size), g, dr, tk, os⟩ _ (hp.objs.size + 1) hp.objs.size _ (X.keeps k) (Tp.keeps k) hget hnx (Nat.le_refl _) fun h' tk' dx IE => ?_
  have old : ∀ b o, hp.get? b = some o → h'.get? b = some o := fun b o e => IE.keep b o (Nat.ne_of_lt (Nat.lt_succ_of_lt (Heap.lt_size e))) (k b o e)
  have z : hp.objs.size + 1 + 1 ≤ dx := by
    have q := IE.dbig
    rw [show ({ heap := (hp.push (kdv_tup rest)).push (HandSPX.excO C hp.objs.size), gens := g, drawn := dr, toks := tk, os := os } : Shared).heap.objs.size = hp.objs.size + 1 + 1 from by rw [Heap.size_push, Heap.size_push]] at q
    exact q
  exact ⟨rfl, hq h' tk' (hp.objs.size + 1) dx ⟨old, Nat.le_succ _, IE.obj, Nat.le_trans (Nat.le_trans (Nat.le_succ _) (Nat.le_succ _)) z, IE.dne, IE.ns⟩⟩
end
end XL
end PySem
namespace L2
open PySem PySem.Spec PyProof.Rows
/-! ### exceptions of own classes (over LookupError) as values: made, their fields read, isinstance -/
section
variable {X : Cx} {pins : List (Addr × Obj)} {σ : St} {H : Hp} {s : Shared}
theorem Inv.xtop (I : Inv X pins σ H s) : XL.XTop s.heap :=
  ⟨⟨_, I.mod.glob.keeps I.bk⟩, let ⟨mb, h1, h2⟩ := I.mod.blt; ⟨mb, h1.keeps I.bk, h2⟩, I.nolimit⟩
/-- two objects that are new -/
theorem Inv.laid2 {a d : Addr} {oa od : HO} {t' : Nat} {h' : Heap} (I : Inv X pins σ H s) (k : ∀ b u, s.heap.get? b = some u → h'.get? b = some u) (ha : s.heap.objs.size ≤ a) (hd : s.heap.objs.size ≤ d) (hne : d ≠ a)
    (na : ObjOk X.prog X.w (upd (upd H d od) a oa) h' a oa) (nd : ObjOk X.prog X.w (upd (upd H d od) a oa) h' d od) : Inv X pins σ (upd (upd H d od) a oa) { s with heap := h', toks := t' } := by
  have fa := I.hok.fresh ha
  have fd := I.hok.fresh hd
  have la : ∀ {b : Addr} {u : Obj}, s.heap.get? b = some u → b ≠ a := fun q => Nat.ne_of_lt (Nat.lt_of_lt_of_le (Heap.lt_size q) ha)
  have ld : ∀ {b : Addr} {u : Obj}, s.heap.get? b = some u → b ≠ d := fun q => Nat.ne_of_lt (Nat.lt_of_lt_of_le (Heap.lt_size q) hd)
  have up : ∀ {b : Addr} {u : HO}, H b = some u → upd (upd H d od) a oa b = some u := fun q => by rw [upd_ne (ne_of_none q fa), upd_ne (ne_of_none q fd)]; exact q
  refine I.un (t' := t') (h' := h') {
    keep := fun b u q _ _ _ => k b u q
    slot := fun b u q _ _ _ => ⟨u.slots, k b u q⟩
    free := fun b u q n _ => by rw [upd_ne (la q), upd_ne (ld q)]; exact n
    there := fun b u q _ => ⟨u, k b u q⟩
    tups := fun b xs q => up q
    frzs := fun b u xs q => up q
    tbls := fun b ps q => ⟨#[], by rw [up q]; simp⟩ } fun b u e => ?_
  by_cases hb : b = a
  · subst hb; rw [upd_same] at e; cases e; exact na
  · rw [upd_ne hb] at e
    by_cases hb' : b = d
    · subst hb'; rw [upd_same] at e; cases e; exact nd
    · rw [upd_ne hb'] at e
      exact (I.hok b u e).stay (fun c v _ q => k c v q) (fun c q => up q) fun c xs q => up q
end
theorem pe_gref {X : Cx} {x : Str} {C : Addr} {pos : Pos} (hg : Gl X x) (hm : X.mg x = some (.ref C)) (hd : (x == ("__debug__" : Str)) = false := by decide) : PE X (.Name x pos) (tC (.ref C)) := pe_glob hg hm rfl hd
/-- C(us, ks = ws) can be made; its fields then are gV's -/
def XMk (P : Program) (w : World) (K : PySem.W.Frag) (C : Addr) (n : Nat) (ks : List Str) (gV : List V → List V → List (Str × V)) : Prop :=
  ∀ (A : Around) (s : Shared) (R : Result → Shared → Prop) (us ws : List Value) (vs zs : List V), Vals vs us → Vals zs ws → us.length = n → ws.length = ks.length → K.In s.heap → XL.XTop s.heap → A.depth + 2 < recursionLimit →
    (∀ h' tk e d mm, XL.OwnMade s.heap h' e C d mm → (∀ f, RelO ((gV vs zs).lookup f) (mm f)) → R (.ok (.ret (.ref e))) { s with heap := h', toks := tk }) →
    codeAny (model P w) A (.call (.ref C) ⟨us, ks.zip ws⟩) R s
/-- a new exception of the class C with the fields gV -/
def tXv (C : Addr) (n m : Nat) (gV : List V → List V → List (Str × V)) (ta tk : TA) : TE := fun σ H Q => ta σ H fun vs H1 => tk σ H1 fun zs H2 => vs.length = n ∧ zs.length = m ∧
  ∀ a d, H2 a = none → H2 d = none → d ≠ a → Q (.ref a) (upd (upd H2 d (exd d (gV vs zs))) a (exo a C (some d)))
section
variable {X : Cx} {n k : Nat} {C : Addr} {ks : List Str} {x : Str} {p pos : Pos} {e : Expr} {es : List Expr} {kws : List Keyword} {t tk : TA} {gV : List V → List V → List (Str × V)}
theorem run_xv {pins : List (Addr × Obj)} {σ : St} {H : Hp} {s : Shared} {Q : VK} {us ws : List Value} {vs zs : List V} (M : XMk X.prog X.w X.K C n ks gV) (hr : Room k X.A) (I : Inv X pins σ H s) (r : Vals vs us) (rz : Vals zs ws) (l1 : vs.length = n) (l2 : zs.length = ks.length)
    (h : ∀ a d, H a = none → H d = none → d ≠ a → Q (.ref a) (upd (upd H d (exd d (gV vs zs))) a (exo a C (some d)))) :
    wpAny (model X.prog X.w) X.A (call (.ref C) us (ks.zip ws)) (EP X pins σ Q) X.xe s := by
  refine wpAny_call (M _ s _ us ws vs zs r rz (r.length.symm.trans l1) (rz.length.symm.trans l2) I.kIn I.xtop (by have := hr.dp; omega) fun h' tk' e' d mm O rel => ?_)
  obtain ⟨t1, ho⟩ := O.obj
  exact ⟨.ref e', _, I.laid2 (t' := tk') O.keep O.new O.dbig O.dne (exo_ok ho) (exd_ok O.ns rel), rfl, h e' d (I.hok.fresh O.new) (I.hok.fresh O.dbig) O.dne⟩
/-- C(e, .., k = v, ..) -/
theorem pe_xv (M : XMk X.prog X.w X.K C n ks gV) (hr : Room k X.A) (hg : Gl X x) (hm : X.mg x = some (.ref C)) (kp : PySem.W.keepIn X.K (.ref C) = true) (ha : PA X (e :: es) t) (hkw : PK X kws tk)
    (hall : (backToKw pos (keywordEach kws X.env)).all (·.1.isSome) = true := by rfl) (hks : (backToKw pos (keywordEach kws X.env)).filterMap (·.1) = ks := by rfl) (hdb : (x == ("__debug__" : Str)) = false := by decide)
    (he : starEach (e :: es) X.env = (false, eval e X.env) :: starEach es X.env := by rfl) (hpl : ((backTo pos (starEach (e :: es) X.env)).any (·.1) || (backToKw pos (keywordEach kws X.env)).any (·.1.isNone)) = false := by rfl) :
    PE X (.Call (.Name x p) (e :: es) kws pos) (tXv C n ks.length gV t tk) := by
  refine ⟨fun pins s σ H Q I h => ?_⟩
  refine wpAny_Call_Name_kw (ld_glob I hg hm ?_ hdb)
  refine PySem.W.callWith_KW (h₀ := X.base) I.ok.mod.kin kp hall (thn (ha.run pos pins s σ H _ I h) fun us s1 ⟨vs, H1, I1, r, q⟩ => ?_) hpl he
  refine thn (hkw.run pos pins s1 σ H1 _ I1 q) fun ws s2 ⟨zs, H2, I2, rz, l1, l2, q2⟩ => ⟨I2.kIn, ?_⟩
  rw [hks]
  exact run_xv M hr I2 r rz l1 l2 q2
/-- C(k = v, ..) -/
theorem pe_xv0 (M : XMk X.prog X.w X.K C 0 ks gV) (hr : Room k X.A) (hg : Gl X x) (hm : X.mg x = some (.ref C)) (kp : PySem.W.keepIn X.K (.ref C) = true) (hkw : PK X kws tk)
    (hall : (backToKw pos (keywordEach kws X.env)).all (·.1.isSome) = true := by rfl) (hks : (backToKw pos (keywordEach kws X.env)).filterMap (·.1) = ks := by rfl) (hdb : (x == ("__debug__" : Str)) = false := by decide)
    (hpl : ((backTo pos (starEach [] X.env)).any (·.1) || (backToKw pos (keywordEach kws X.env)).any (·.1.isNone)) = false := by rfl) :
    PE X (.Call (.Name x p) [] kws pos) (tXv C 0 ks.length gV tNil tk) := by
  refine ⟨fun pins s σ H Q I h => ?_⟩
  refine wpAny_Call_Name_kw (ld_glob I hg hm ?_ hdb)
  refine PySem.W.callWith_KW0 (h₀ := X.base) I.ok.mod.kin kp hall ?_ hpl
  refine thn (hkw.run pos pins s σ H _ I h) fun ws s2 ⟨zs, H2, I2, rz, l1, l2, q2⟩ => ⟨I2.kIn, ?_⟩
  rw [hks]
  exact run_xv (us := []) (vs := []) M hr I2 .nil rz rfl l2 q2
end
section
variable {P : Program} {w : World} {K : PySem.W.Frag} {C fI : Addr} {qual tx f f2 : Str}
open PySem.XL in
theorem xmk1 {Ps : Ps1} {a1 a2 : Pos} (T : XCls P K C) (Fn : XFn P K C fI qual (args1 a1 a2 f) (body1 Ps tx f) (scope1 f)) (hf : okF f = true) (nof : PySem.W.findIn K (.ref C) f = some none) (ev : EvOk qual (scope1 f) fI Ps tx)
    (hb : ∀ (s : Shared) (x : Addr) (v : Value) (kV doc pm : Value) (an : Option Addr) (cdv ct : Value) (cc : Addr), BindsTo s (PySem.W.ksFn "__init__" qual (args1 a1 a2 f) (body1 Ps tx f) (scope1 f) .none kV doc pm an cdv ct cc) ⟨[.ref x, v], []⟩ [("self", .ref x), (f, v)]) :
    XMk P w K C 1 [] (fun vs _ => [(f, vs.headD .non)]) := by
  intro A s R us ws vs zs r rz l1 l2 X Tp dp hq
  cases r with
  | nil => cases l1
  | @cons v u vs' us' ru rr =>
    cases rr with
    | cons _ _ => cases l1
    | nil =>
      show codeAny _ _ (.call (.ref C) ⟨[u], []⟩) _ _
      refine made (mm := fun y => if y = f then some u else none) T Fn X Tp (by show 1 ≤ sizeLine; rw [sizeLine_eq]; decide) (fun s' A' x t0 R' X' Tp' hx hnx hA hq' => ?_) fun h' tk e d O => hq h' tk e d _ O fun g => ?_
      · exact init1 T Fn hf nof ev X' Tp' hx hnx (by omega) (hb s' x u) hq'
      · rw [lookup_put]
        by_cases e : g = f
        · rw [if_pos e, if_pos e]; exact ru
        · rw [if_neg e, if_neg e]; exact True.intro
open PySem.XL in
theorem xmk1k {Ps : Ps1} {a1 a2 : Pos} (T : XCls P K C) (Fn : XFn P K C fI qual (args1 a1 a2 f) (body1 Ps tx f) (scope1 f)) (hf : okF f = true) (nof : PySem.W.findIn K (.ref C) f = some none) (ev : EvOk qual (scope1 f) fI Ps tx)
    (hb : ∀ (s : Shared) (x : Addr) (v : Value) (kV doc pm : Value) (an : Option Addr) (cdv ct : Value) (cc : Addr), BindsTo s (PySem.W.ksFn "__init__" qual (args1 a1 a2 f) (body1 Ps tx f) (scope1 f) .none kV doc pm an cdv ct cc) ⟨[.ref x], [(f, v)]⟩ [("self", .ref x), (f, v)]) :
    XMk P w K C 0 [f] (fun _ zs => [(f, zs.headD .non)]) := by
  intro A s R us ws vs zs r rz l1 l2 X Tp dp hq
  cases r with
  | cons _ _ => cases l1
  | nil =>
    cases rz with
    | nil => cases l2
    | @cons v u vs' us' ru rr =>
      cases rr with
      | cons _ _ => cases l2
      | nil =>
        show codeAny _ _ (.call (.ref C) ⟨[], [(f, u)]⟩) _ _
        refine made (mm := fun y => if y = f then some u else none) T Fn X Tp (by show 0 ≤ sizeLine; omega) (fun s' A' x t0 R' X' Tp' hx hnx hA hq' => ?_) fun h' tk e d O => hq h' tk e d _ O fun g => ?_
        · exact init1 T Fn hf nof ev X' Tp' hx hnx (by omega) (hb s' x u) hq'
        · rw [lookup_put]
          by_cases e : g = f
          · rw [if_pos e, if_pos e]; exact ru
          · rw [if_neg e, if_neg e]; exact True.intro
theorem rel2 {v v2 : V} {u u2 : Value} (r : RelV v u) (r2 : RelV v2 u2) (g : Str) : RelO (([(f2, v2), (f, v)] : List (Str × V)).lookup g) (if g = f2 then some u2 else if g = f then some u else none) := by
  rw [lookup_put]
  by_cases e : g = f2
  · rw [if_pos e, if_pos e]; exact r2
  · rw [if_neg e, if_neg e, lookup_put]
    by_cases e' : g = f
    · rw [if_pos e', if_pos e']; exact r
    · rw [if_neg e', if_neg e']; exact True.intro
open PySem.XL in
theorem xmk2 {Ps : Ps2} {a1 a2 a3 : Pos} (T : XCls P K C) (Fn : XFn P K C fI qual (args2 a1 a2 a3 f f2) (body2 Ps tx f f2) (scope2 f f2)) (hf : okF f = true) (hf2 : okF f2 = true) (h12 : (f == f2) = false) (nof : PySem.W.findIn K (.ref C) f = some none) (nof2 : PySem.W.findIn K (.ref C) f2 = some none) (ev : EvOk qual (scope2 f f2) fI Ps.toPs1 tx)
    (hb : ∀ (s : Shared) (x : Addr) (v v2 : Value) (kV doc pm : Value) (an : Option Addr) (cdv ct : Value) (cc : Addr), BindsTo s (PySem.W.ksFn "__init__" qual (args2 a1 a2 a3 f f2) (body2 Ps tx f f2) (scope2 f f2) .none kV doc pm an cdv ct cc) ⟨[.ref x, v, v2], []⟩ [("self", .ref x), (f, v), (f2, v2)]) :
    XMk P w K C 2 [] (fun vs _ => [(f2, vs.getD 1 .non), (f, vs.getD 0 .non)]) := by
  intro A s R us ws vs zs r rz l1 l2 X Tp dp hq
  cases r with
  | nil => cases l1
  | @cons v u vs' us' ru rr =>
    cases rr with
    | nil => cases l1
    | @cons v2 u2 vs' us' ru2 rr =>
      cases rr with
      | cons _ _ => cases l1
      | nil =>
        show codeAny _ _ (.call (.ref C) ⟨[u, u2], []⟩) _ _
        refine made (mm := fun y => if y = f2 then some u2 else if y = f then some u else none) T Fn X Tp (by show 2 ≤ sizeLine; rw [sizeLine_eq]; decide) (fun s' A' x t0 R' X' Tp' hx hnx hA hq' => ?_) fun h' tk e d O => hq h' tk e d _ O fun g => rel2 ru ru2 g
        exact init2 T Fn hf hf2 h12 nof nof2 ev X' Tp' hx hnx (by omega) (hb s' x u u2) hq'
open PySem.XL in
/-- by keywords, the second one first -/
theorem xmk2k {Ps : Ps2} {a1 a2 a3 : Pos} (T : XCls P K C) (Fn : XFn P K C fI qual (args2 a1 a2 a3 f f2) (body2 Ps tx f f2) (scope2 f f2)) (hf : okF f = true) (hf2 : okF f2 = true) (h12 : (f == f2) = false) (nof : PySem.W.findIn K (.ref C) f = some none) (nof2 : PySem.W.findIn K (.ref C) f2 = some none) (ev : EvOk qual (scope2 f f2) fI Ps.toPs1 tx)
    (hb : ∀ (s : Shared) (x : Addr) (v v2 : Value) (kV doc pm : Value) (an : Option Addr) (cdv ct : Value) (cc : Addr), BindsTo s (PySem.W.ksFn "__init__" qual (args2 a1 a2 a3 f f2) (body2 Ps tx f f2) (scope2 f f2) .none kV doc pm an cdv ct cc) ⟨[.ref x], [(f2, v2), (f, v)]⟩ [("self", .ref x), (f, v), (f2, v2)]) :
    XMk P w K C 0 [f2, f] (fun _ zs => [(f2, zs.getD 0 .non), (f, zs.getD 1 .non)]) := by
  intro A s R us ws vs zs r rz l1 l2 X Tp dp hq
  cases r with
  | cons _ _ => cases l1
  | nil =>
  cases rz with
  | nil => cases l2
  | @cons v2 u2 vs' us' ru2 rr =>
    cases rr with
    | nil => cases l2
    | @cons v u vs' us' ru rr =>
      cases rr with
      | cons _ _ => cases l2
      | nil =>
        show codeAny _ _ (.call (.ref C) ⟨[], [(f2, u2), (f, u)]⟩) _ _
        refine made (mm := fun y => if y = f2 then some u2 else if y = f then some u else none) T Fn X Tp (by show 0 ≤ sizeLine; omega) (fun s' A' x t0 R' X' Tp' hx hnx hA hq' => ?_) fun h' tk e d O => hq h' tk e d _ O fun g => rel2 ru ru2 g
        exact init2 T Fn hf hf2 h12 nof nof2 ev X' Tp' hx hnx (by omega) (hb s' x u u2) hq'
end
/-- what an own exception class must say for its instances to be read and asked -/
structure XAsk (K : PySem.W.Frag) (D : Addr) : Prop where
  hg : PySem.W.findIn K (.ref D) "__getattribute__" = some (some (.builtin "BaseException.__getattribute__"))
  hk : PySem.W.findIn K (.ref D) "__getattr__" = some none
  hs : PySem.W.subIn K (.ref D) (.type "BaseException") = some true
  hd : PySem.W.hasDictIn K D = true
  ha : PySem.W.findIn K (.ref D) "__class__" = some (some (.builtin "object.__class__"))
  hn : PySem.W.specialIn K (.builtin "object.__class__") "__get__" = some (some (.builtin "getset_descriptor.__get__"))
  ht : PySem.W.takesIn K (.builtin "object.__class__") = some true
  hm : PySem.W.mroIn K D (.type "object") = some true
/-- e.f, e an exception that is held as a value -/
def tXat (K : PySem.W.Frag) (f : Str) (te : TE) : TE := fun σ H Q => te σ H fun x H1 => ∃ (a C d : Addr) (fs : List (Str × V)) (v : V), x = .ref a ∧ H1 a = some (exo a C (some d)) ∧ H1 d = some (exd d fs) ∧ XAsk K C ∧ PySem.W.findIn K (.ref C) f = some none ∧ fs.lookup f = some v ∧ Q v H1
/-- isinstance(e, c) -/
def rXis (K : PySem.W.Frag) : List V → Hp → VK → Prop := fun xs H Q => ∃ (a C d : Addr) (fs : List (Str × V)) (c : V) (u : Value) (b : Bool), xs = [.ref a, c] ∧ ClsV c u ∧ H a = some (exo a C (some d)) ∧ H d = some (exd d fs) ∧ XAsk K C ∧ PySem.W.kitOne K (.ref C) u = some b ∧ Q (.bl b) H
section
variable {X : Cx} {pins : List (Addr × Obj)} {σ : St} {H : Hp} {s : Shared}
theorem Inv.inst {a C d : Addr} {fs : List (Str × V)} (I : Inv X pins σ H s) (ea : H a = some (exo a C (some d))) (ed : H d = some (exd d fs)) :
    ∃ (oe od : Obj) (mA : Str → Option Value), PySem.W.InstAt s.heap a oe C (some od) ∧ (∀ f, RelO (fs.lookup f) (mA f)) ∧ ∀ f, PySem.W.lookIn f od = some (mA f) := by
  obtain ⟨t1, ho⟩ := exo_at I.hok ea
  obtain ⟨mA, hns, hr⟩ := exd_at I.hok ed
  obtain ⟨od, hod, hl⟩ := lookIn_ns hns
  exact ⟨_, od, mA, ⟨ho, rfl, rfl, hod⟩, hr, hl⟩
theorem pe_xat {e : Expr} {te : TE} {pos : Pos} {f : Str} (he : PE X e te) (hb : attributeBase e f X.env (eval e X.env) = eval e X.env := by rfl) : PE X (.Attribute e f pos) (tXat X.K f te) := by
  refine ⟨fun pins s σ H Q I h => ?_⟩
  refine attr_of hb (thn (he.run pins s σ H _ I h) fun u s1 ⟨x, H1, I1, rx, a, C, d, fs, v, ex, ea, ed, T, hno, l, q⟩ => ?_)
  subst ex
  obtain rfl : u = Value.ref a := rx
  obtain ⟨oe, od, mA, J, hr, hl⟩ := I1.inst ea ed
  obtain ⟨u, hu, ru⟩ := RelO.some_of (v := v) (o := mA f) (by rw [← l]; exact hr f)
  exact HandSPX.exc_get I1.kIn J T.hg T.hk T.hs (PySem.W.findObj_own T.hd hno rfl (by rw [hl, hu])) (handed_of ru) ⟨v, H1, I1.tok _, ru, q⟩
theorem call_xis : CallR X (.builtin "isinstance") (rXis X.K) := by
  intro pins s σ H xs us Q I r h
  obtain ⟨a, C, d, fs, c, u, b, rfl, k, ea, ed, T, e, q⟩ := h
  obtain ⟨u1, u2, rfl, r1, r2⟩ := vals2 r
  have e2 := k.eq r2
  subst e2
  obtain rfl : u1 = Value.ref a := r1
  obtain ⟨oe, od, mA, J, hr, hl⟩ := I.inst ea ed
  obtain ⟨cd, hc, _⟩ := PySem.W.any_some T.hd
  exact PySem.W.kia_one (PySem.W.kitx_exc (by rw [hc]; rfl) T.hg T.hk T.hs T.ha T.hn T.ht T.hm) I.kIn J e (fun z => nomatch z) fun tk => ⟨.bl b, H, I.tok tk, rfl, q⟩
end
end L2
namespace K84
open PySem L2 PyProof.Rows
def top (i : Nat) : Stmt := PySem.Challenge.pw_openruns_k84_errors_made_by_name.main.body.getD i (.Pass ⟨0, 0, 0, 0⟩)
abbrev s__law_pool : Stmt := top 15
abbrev s__law_draw : Stmt := top 16
abbrev s__law_above : Stmt := top 17
abbrev s__law_fits : Stmt := top 18
abbrev s__law_inputs_fit : Stmt := top 19
abbrev s_law : Stmt := top 20
theorem if_true_of {c : Bool} {A B : Prop} (hc : c = true) (h : A) : if c = true then A else B := by
  rw [if_pos hc]
  exact h
theorem if_false_of {c : Bool} {A B : Prop} (hc : c = false) (h : B) : if c = true then A else B := by
  rw [hc, if_neg Bool.false_ne_true]
  exact h
/-! ### great powers -/
theorem op_powW {X : Cx} : OpR X (binaryOp .Pow) (rI (fun i j => 0 ≤ j ∧ (Builtin.Int.intBits i : Int) * j ≤ 2 ^ 27) fun i j => .int (i ^ j.toNat)) := opI fun _ _ _ _ _ _ _ hc q => pow_int hc.1 hc.2 q
/-! ### the pool -/
def pool (b sd c : Int) : HO := .dK [((.inr "big" : Key), .int b), (.inr "seed", .int sd), (.inr "count", .int c)]
theorem mk_pool (b sd c : Int) : mergeK [] [((.inr "big" : Key), V.int b), (.inr "seed", .int sd), (.inr "count", .int c)] = [((.inr "big" : Key), .int b), (.inr "seed", .int sd), (.inr "count", .int c)] := by
  first | rfl | kernel_rfl
theorem put_count (b sd c c' : Int) : putK [((.inr "big" : Key), V.int b), (.inr "seed", .int sd), (.inr "count", .int c)] (.inr "count") (.int c') = [((.inr "big" : Key), .int b), (.inr "seed", .int sd), (.inr "count", .int c')] := by
  first | rfl | kernel_rfl
theorem put_big (b sd c b' : Int) : putK [((.inr "big" : Key), V.int b), (.inr "seed", .int sd), (.inr "count", .int c)] (.inr "big") (.int b') = [((.inr "big" : Key), .int b'), (.inr "seed", .int sd), (.inr "count", .int c)] := by
  first | rfl | kernel_rfl
section
variable {H : Hp} {p : Addr} {b sd c : Int}
theorem get_count (h : H p = some (pool b sd c)) : DGet H p (.str "count") (some (.int c)) := DGet.k (k := (.inr "count" : Key)) h
theorem get_big (h : H p = some (pool b sd c)) : DGet H p (.str "big") (some (.int b)) := DGet.k (k := (.inr "big" : Key)) h
theorem get_seed (h : H p = some (pool b sd c)) : DGet H p (.str "seed") (some (.int sd)) := DGet.k (k := (.inr "seed" : Key)) h
theorem dput_count (h : H p = some (pool b sd c)) (c' : Int) : DPut H p (.str "count") (.int c') (upd H p (pool b sd c')) := by
  have z := DPut.k (k := (.inr "count" : Key)) (v := .int c') h (by show 3 < sizeLine; rw [sizeLine_eq]; decide)
  rw [put_count] at z
  exact z
theorem dput_big (h : H p = some (pool b sd c)) (b' : Int) : DPut H p (.str "big") (.int b') (upd H p (pool b' sd c)) := by
  have z := DPut.k (k := (.inr "big" : Key)) (v := .int b') h (by show 3 < sizeLine; rw [sizeLine_eq]; decide)
  rw [put_big] at z
  exact z
end
theorem fmod_lt {a m : Int} (h : 0 < m) : 0 ≤ a.fmod m ∧ a.fmod m < m := ⟨Int.fmod_nonneg_of_pos _ h, Int.fmod_lt_of_pos _ h⟩
theorem lt64a {a : Int} : -(2 ^ 64) < a.fmod 2147483629 + 1 ∧ a.fmod 2147483629 + 1 < 2 ^ 64 := by
  have := fmod_lt (a := a) (m := 2147483629) (by decide)
  omega
theorem lt64b {a : Int} : -(2 ^ 64) < a.fmod 2147483647 ∧ a.fmod 2147483647 < 2 ^ 64 := by
  have := fmod_lt (a := a) (m := 2147483647) (by decide)
  omega
structure Blt (mg : Str → Option Value) : Prop where
  b_len : mg "len" = none
  b_int : mg "int" = none
  b_range : mg "range" = none
  b_tuple : mg "tuple" = none
  b_isinstance : mg "isinstance" = none
  b_LookupError : mg "LookupError" = none
  b_ValueError : mg "ValueError" = none
  b_KeyError : mg "KeyError" = none
def spPool (K : PySem.W.Frag) : Sp := fun vs H Q _ => ∃ (a : Addr) (ns : List Int), vs = [.ref a, .int 0] ∧ SqL K H a (ns.map V.int) ∧ ns.length ≤ 63 ∧
  ∀ (p : Addr) (b sd c : Int), H p = none → 0 ≤ b → Q (.ref p) (upd H p (pool b sd c))
def spDraw : Sp := fun vs H Q _ => ∃ (p : Addr) (m b sd c : Int), vs = [.ref p, .int m] ∧ H p = some (pool b sd c) ∧ 0 ≤ b ∧ 1 ≤ m ∧ m < 1073741824 ∧
  ∀ (r b' c' : Int), 0 ≤ r → r < m → 0 ≤ b' → Q (.int r) (upd H p (pool b' sd c'))
section
variable {P : Program} {w : World} {K : PySem.W.Frag} {mg : Str → Option Value} {base : Heap}
theorem sc__law_pool : FnScope ["_law_script", "_law_number", "_law_cell", "_law_big"] ["_law_script", "_law_number"] (defScope s__law_pool) := ⟨rfl, rfl, rfl, by decide +kernel, rfl, by decide +kernel, by decide +kernel⟩
theorem ok_pool {f : Addr} {fd : FuncData} (F : Fun K "_law_pool" "_law_pool" s__law_pool f fd) (T : Blt mg) : FnOk P w K mg base CX0 1 f fd ["_law_script", "_law_number"] (spPool K) := by
  refine F.ok sc__law_pool (fun vs H Q E h => ?_) (fun cdv A outer s H vs Q E hr h => ?_)
  · obtain ⟨a, ns, rfl, _⟩ := h
    rfl
  · obtain ⟨a, ns, rfl, hS, hlen, k⟩ := h
    refine ⟨_, (pss_cons (ps_set (i := 2) sc__law_pool.nd rfl (.inl rfl) pe_int)
      (Evl.pss_cut (ps_if (pt_cmpR op_lt (pv 1) (pe_callB call_len_seq (by rfl) T.b_len (by decide +kernel) (pa_cons (pv 0) pa_nil)) (nomark _)) (pss_one (ps_set (i := 2) sc__law_pool.nd rfl (.inl rfl) (pe_callTy call_int1 (by rfl) T.b_int (by decide +kernel) (pa_cons (pe_ix ix_list (pv 0) (pv 1) (fun _ _ => rfl)) pa_nil)))) pss_nil)
      (pss_cons (ps_set (i := 3) sc__law_pool.nd rfl (.inl rfl) pe_int)
      (Evl.pss_cut (ps_if (pt_cmpR op_ge (pv 2) (pe_op op_pow pe_int pe_int) (nomark _)) (pss_one (ps_set (i := 3) sc__law_pool.nd rfl (.inl rfl) (pe_op op_modN (pe_callTy call_int1 (by rfl) T.b_int (by decide +kernel) (pa_cons (pv 2) pa_nil)) (pe_op op_powW (pe_op op_pow pe_int pe_int) pe_int)))) pss_nil)
      (pss_one (ps_ret (pe_disp (pps_cons pe_str (pv 3) (pps_cons pe_str (pe_op op_modN (pe_callTy call_int1 (by rfl) T.b_int (by decide +kernel) (pa_cons (pv 2) pa_nil)) pe_int) (pps_cons pe_str (pe_op op_mul pe_int (pv 1)) pps_nil))) (by rfl) (by rfl) (fun z => by cases z) (by decide)))))))), ?_⟩
    refine ⟨fun σ H' => H' = H ∧ ∃ c : Int, σ = [some (.ref a), some (.int 0), some (.int c), none], ?_, ?_⟩
    · refine ⟨_, rfl, _, rfl, a, _, rfl, .inl hS, _, _, rfl, rfl, _, rfl, ?_⟩
      by_cases c : (0 : Int) < ((ns.map V.int).length : Int)
      · refine if_true_of (decide_eq_true c) ?_
        cases ns with
        | nil => simp at c
        | cons n r =>
          exact ⟨_, rfl, _, rfl, a, _, _, _, rfl, rfl, hS, atI_nat (j := 0) rfl, .inl ⟨n, rfl, rfl, n, rfl⟩⟩
      · exact if_false_of (decide_eq_false c) ⟨rfl, 0, rfl⟩
    · rintro _ H1 ⟨e1, c, rfl⟩
      subst e1
      refine ⟨fun σ H' => H' = H1 ∧ ∃ b : Int, 0 ≤ b ∧ σ = [some (.ref a), some (.int 0), some (.int c), some (.int b)], ?_, ?_⟩
      · refine ⟨_, rfl, _, _, rfl, rfl, ⟨by decide, by decide, by decide⟩, _, _, rfl, rfl, _, rfl, ?_⟩
        by_cases e : (10 : Int) ^ (18 : Int).toNat ≤ c
        · refine if_true_of (decide_eq_true e) ?_
          refine ⟨_, rfl, .inl ⟨c, rfl, ?_⟩⟩
          refine ⟨_, _, rfl, rfl, ⟨by decide, by decide, by decide⟩, _, _, rfl, rfl, ⟨by decide, by decide +kernel⟩, _, _, rfl, rfl, (by show ((10 : Int) ^ (50 : Int).toNat) ^ (8 : Int).toNat ≠ 0; decide +kernel), rfl, _, ?_, rfl⟩
          exact Int.fmod_nonneg_of_pos _ (by decide +kernel)
        · exact if_false_of (decide_eq_false e) ⟨rfl, 0, by decide, rfl⟩
      · rintro _ H2 ⟨e2, b, hb, rfl⟩
        subst e2
        intro p hp
        refine ⟨_, rfl, _, rfl, .inl ⟨c, rfl, _, _, rfl, rfl, (by show (2147483647 : Int) ≠ 0; decide), _, rfl, _, _, rfl, rfl, .inl ⟨by decide, by decide⟩, upd_same, [((.inr "big" : Key), .int b), (.inr "seed", .int (c.fmod 2147483647)), (.inr "count", .int (7 * 0))], rfl, (by show 3 ≤ 15; decide), ?_⟩⟩
        refine (congrArg (fun l => Q (.ref p) l) ?_).mp (k p b (c.fmod 2147483647) (7 * 0) hp hb)
        rw [mk_pool]
        exact upd_upd.symm
theorem sc__law_draw : FnScope ["_law_pool_here", "_law_many", "_law_digit", "_law_first", "_law_second"] ["_law_pool_here", "_law_many"] (defScope s__law_draw) := ⟨rfl, rfl, rfl, by decide +kernel, rfl, by decide +kernel, by decide +kernel⟩
theorem ok_draw {f : Addr} {fd : FuncData} (F : Fun K "_law_draw" "_law_draw" s__law_draw f fd) (T : Blt mg) : FnOk P w K mg base CX0 1 f fd ["_law_pool_here", "_law_many"] spDraw := by
  refine F.ok sc__law_draw (fun vs H Q E h => ?_) (fun cdv A outer s H vs Q E hr h => ?_)
  · obtain ⟨p, m, b, sd, c, rfl, _⟩ := h
    rfl
  · obtain ⟨p, m, b, sd, c, rfl, hp, hb, h1, h2, k⟩ := h
    have hu := hu_of hr
    refine ⟨_, (pss_cons (ps_dput hu (pv 0) pe_str (pe_op op_add (pe_dget hu (pv 0) pe_str (fun _ _ => rfl)) pe_int) rfl)
      (pss_cons (ps_if (pt_cmpR op_gt (pe_dget hu (pv 0) pe_str (fun _ _ => rfl)) pe_int (nomark _)) (pss_cons (ps_set (i := 2) sc__law_draw.nd rfl (.inl rfl) (pe_op op_modN (pe_callTy call_int1 (by rfl) T.b_int (by decide +kernel) (pa_cons (pe_dget hu (pv 0) pe_str (fun _ _ => rfl)) pa_nil)) (pv 1)))
      (pss_cons (ps_dput hu (pv 0) pe_str (pe_op op_fdivN (pe_dget hu (pv 0) pe_str (fun _ _ => rfl)) (pv 1)) rfl)
      (pss_one (ps_ret (pv 2))))) pss_nil)
      (pss_cons (ps_set (i := 3) sc__law_draw.nd rfl (.inl rfl) (pe_op op_add (pe_op op_modN (pe_callTy call_int1 (by rfl) T.b_int (by decide +kernel) (pa_cons (pe_op op_add (pe_op op_add (pe_op op_mul (pe_dget hu (pv 0) pe_str (fun _ _ => rfl)) pe_int) (pe_op op_mul (pe_dget hu (pv 0) pe_str (fun _ _ => rfl)) pe_int)) pe_int) pa_nil)) pe_int) pe_int))
      (pss_cons (ps_set (i := 4) sc__law_draw.nd rfl (.inl rfl) (pe_op op_modN (pe_callTy call_int1 (by rfl) T.b_int (by decide +kernel) (pa_cons (pe_op op_mul (pv 3) (pe_op op_add (pe_op op_fdivN (pv 3) pe_int) pe_int)) pa_nil)) pe_int))
      (pss_cons (ps_set (i := 4) sc__law_draw.nd rfl (.inl rfl) (pe_op op_modN (pe_callTy call_int1 (by rfl) T.b_int (by decide +kernel) (pa_cons (pe_op op_mul (pv 4) (pe_op op_add (pe_op op_fdivN (pv 4) pe_int) pe_int)) pa_nil)) pe_int))
      (pss_one (ps_ret (pe_op op_modN (pe_callTy call_int1 (by rfl) T.b_int (by decide +kernel) (pa_cons (pe_op op_fdivN (pv 4) pe_int) pa_nil)) (pv 1))))))))), ?_⟩
    refine ⟨_, rfl, p, _, rfl, get_count hp, _, _, rfl, rfl, _, rfl, p, _, rfl, dput_count hp _, ?_⟩
    have hp1 : upd H p (pool b sd (c + 1)) p = some (pool b sd (c + 1)) := upd_same
    refine ⟨_, rfl, p, _, rfl, get_big hp1, _, _, rfl, rfl, _, rfl, ?_⟩
    by_cases e : (0 : Int) < b
    · refine if_true_of (decide_eq_true e) ?_
      refine ⟨_, rfl, p, _, rfl, get_big hp1, .inl ⟨b, rfl, _, rfl, _, _, rfl, rfl, (by show m ≠ 0; omega), ?_⟩⟩
      refine ⟨_, rfl, p, _, rfl, get_big hp1, _, rfl, _, _, rfl, rfl, ⟨(by omega), (by omega)⟩, _, rfl, p, _, rfl, dput_big hp1 _, _, rfl, ?_⟩
      rw [upd_upd]
      exact k _ _ _ (fmod_lt (by omega)).1 (fmod_lt (by omega)).2 (Int.fdiv_nonneg (by omega) (by omega))
    · refine if_false_of (decide_eq_false e) ?_
      refine ⟨_, rfl, p, _, rfl, get_seed hp1, _, _, rfl, rfl, .inr ⟨by decide, by decide⟩, _, rfl, p, _, rfl, get_count hp1, _, _, rfl, rfl, .inr ⟨by decide, by decide⟩, _, _, rfl, rfl, _, _, rfl, rfl, .inl ⟨_, rfl, _, _, rfl, rfl, (by show (2147483629 : Int) ≠ 0; decide), _, _, rfl, rfl, ?_⟩⟩
      refine ⟨_, rfl, _, rfl, _, _, rfl, rfl, ⟨by decide, by decide⟩, _, _, rfl, rfl, _, _, rfl, rfl, .inl lt64a, .inl ⟨_, rfl, _, _, rfl, rfl, (by show (2147483647 : Int) ≠ 0; decide), ?_⟩⟩
      refine ⟨_, rfl, _, rfl, _, _, rfl, rfl, ⟨by decide, by decide⟩, _, _, rfl, rfl, _, _, rfl, rfl, .inl lt64b, .inl ⟨_, rfl, _, _, rfl, rfl, (by show (2147483399 : Int) ≠ 0; decide), ?_⟩⟩
      refine ⟨_, rfl, _, _, rfl, rfl, ⟨by decide, by decide⟩, .inl ⟨_, rfl, _, rfl, _, _, rfl, rfl, (by show m ≠ 0; omega), ?_⟩⟩
      exact k _ _ _ (fmod_lt (by omega)).1 (fmod_lt (by omega)).2 hb
end
end K84
namespace K84
open PySem L2 PyProof.Rows PySem.XL
/-! ### the ten errors -/
abbrev i_InvalidProgram : Stmt := inClass (top 3) 0
theorem sh_InvalidProgram : ∃ (Ps : Ps2) (a1 a2 a3 : Pos), defArgs i_InvalidProgram = args2 a1 a2 a3 "part" "path" ∧ defBody i_InvalidProgram = body2 Ps "invalid program" "part" "path" ∧ defScope i_InvalidProgram = scope2 "part" "path" ∧ ∀ fI, EvOk "InvalidProgram.__init__" (scope2 "part" "path") fI Ps.toPs1 "invalid program" :=
  ⟨⟨⟨_, _, _, _, _, _, _, _, _, _, _⟩, _, _, _, _⟩, _, _, _, rfl, rfl, rfl, fun fI L cda cc => ⟨_, rfl, rfl, rfl⟩⟩
theorem xm_InvalidProgram {P : Program} {w : World} {K : PySem.W.Frag} {C fI : Addr} (T : XCls P K C) (Fn : XFn P K C fI "InvalidProgram.__init__" (defArgs i_InvalidProgram) (defBody i_InvalidProgram) (defScope i_InvalidProgram)) (nof : PySem.W.findIn K (.ref C) "part" = some none) (nof2 : PySem.W.findIn K (.ref C) "path" = some none) :
    XMk P w K C 2 [] (fun vs _ => [("path", vs.getD 1 .non), ("part", vs.getD 0 .non)]) ∧ XMk P w K C 0 ["path", "part"] (fun _ zs => [("path", zs.getD 0 .non), ("part", zs.getD 1 .non)]) := by
  obtain ⟨Ps, a1, a2, a3, e1, e2, e3, ev⟩ := sh_InvalidProgram
  rw [e1, e2, e3] at Fn
  exact ⟨xmk2 T Fn (by decide +kernel) (by decide +kernel) (by decide +kernel) nof nof2 (ev fI) fun s x v v2 kV doc pm an cdv ct cc => .of_eq rfl, xmk2k T Fn (by decide +kernel) (by decide +kernel) (by decide +kernel) nof nof2 (ev fI) fun s x v v2 kV doc pm an cdv ct cc => .of_eq rfl⟩
abbrev i_InvalidHistory : Stmt := inClass (top 4) 0
theorem sh_InvalidHistory : ∃ (Ps : Ps1) (a1 a2 : Pos), defArgs i_InvalidHistory = args1 a1 a2 "at" ∧ defBody i_InvalidHistory = body1 Ps "invalid history" "at" ∧ defScope i_InvalidHistory = scope1 "at" ∧ ∀ fI, EvOk "InvalidHistory.__init__" (scope1 "at") fI Ps "invalid history" :=
  ⟨⟨_, _, _, _, _, _, _, _, _, _, _⟩, _, _, rfl, rfl, rfl, fun fI L cda cc => ⟨_, rfl, rfl, rfl⟩⟩
theorem xm_InvalidHistory {P : Program} {w : World} {K : PySem.W.Frag} {C fI : Addr} (T : XCls P K C) (Fn : XFn P K C fI "InvalidHistory.__init__" (defArgs i_InvalidHistory) (defBody i_InvalidHistory) (defScope i_InvalidHistory)) (nof : PySem.W.findIn K (.ref C) "at" = some none) :
    XMk P w K C 1 [] (fun vs _ => [("at", vs.headD .non)]) ∧ XMk P w K C 0 ["at"] (fun _ zs => [("at", zs.headD .non)]) := by
  obtain ⟨Ps, a1, a2, e1, e2, e3, ev⟩ := sh_InvalidHistory
  rw [e1, e2, e3] at Fn
  exact ⟨xmk1 T Fn (by decide +kernel) nof (ev fI) fun s x v kV doc pm an cdv ct cc => .of_eq rfl, xmk1k T Fn (by decide +kernel) nof (ev fI) fun s x v kV doc pm an cdv ct cc => .of_eq rfl⟩
abbrev i_InvalidText : Stmt := inClass (top 5) 0
theorem sh_InvalidText : ∃ (Ps : Ps1) (a1 a2 : Pos), defArgs i_InvalidText = args1 a1 a2 "line" ∧ defBody i_InvalidText = body1 Ps "invalid text" "line" ∧ defScope i_InvalidText = scope1 "line" ∧ ∀ fI, EvOk "InvalidText.__init__" (scope1 "line") fI Ps "invalid text" :=
  ⟨⟨_, _, _, _, _, _, _, _, _, _, _⟩, _, _, rfl, rfl, rfl, fun fI L cda cc => ⟨_, rfl, rfl, rfl⟩⟩
theorem xm_InvalidText {P : Program} {w : World} {K : PySem.W.Frag} {C fI : Addr} (T : XCls P K C) (Fn : XFn P K C fI "InvalidText.__init__" (defArgs i_InvalidText) (defBody i_InvalidText) (defScope i_InvalidText)) (nof : PySem.W.findIn K (.ref C) "line" = some none) :
    XMk P w K C 1 [] (fun vs _ => [("line", vs.headD .non)]) ∧ XMk P w K C 0 ["line"] (fun _ zs => [("line", zs.headD .non)]) := by
  obtain ⟨Ps, a1, a2, e1, e2, e3, ev⟩ := sh_InvalidText
  rw [e1, e2, e3] at Fn
  exact ⟨xmk1 T Fn (by decide +kernel) nof (ev fI) fun s x v kV doc pm an cdv ct cc => .of_eq rfl, xmk1k T Fn (by decide +kernel) nof (ev fI) fun s x v kV doc pm an cdv ct cc => .of_eq rfl⟩
abbrev i_InvalidArgument : Stmt := inClass (top 6) 0
theorem sh_InvalidArgument : ∃ (Ps : Ps1) (a1 a2 : Pos), defArgs i_InvalidArgument = args1 a1 a2 "part" ∧ defBody i_InvalidArgument = body1 Ps "invalid argument" "part" ∧ defScope i_InvalidArgument = scope1 "part" ∧ ∀ fI, EvOk "InvalidArgument.__init__" (scope1 "part") fI Ps "invalid argument" :=
  ⟨⟨_, _, _, _, _, _, _, _, _, _, _⟩, _, _, rfl, rfl, rfl, fun fI L cda cc => ⟨_, rfl, rfl, rfl⟩⟩
theorem xm_InvalidArgument {P : Program} {w : World} {K : PySem.W.Frag} {C fI : Addr} (T : XCls P K C) (Fn : XFn P K C fI "InvalidArgument.__init__" (defArgs i_InvalidArgument) (defBody i_InvalidArgument) (defScope i_InvalidArgument)) (nof : PySem.W.findIn K (.ref C) "part" = some none) :
    XMk P w K C 1 [] (fun vs _ => [("part", vs.headD .non)]) ∧ XMk P w K C 0 ["part"] (fun _ zs => [("part", zs.headD .non)]) := by
  obtain ⟨Ps, a1, a2, e1, e2, e3, ev⟩ := sh_InvalidArgument
  rw [e1, e2, e3] at Fn
  exact ⟨xmk1 T Fn (by decide +kernel) nof (ev fI) fun s x v kV doc pm an cdv ct cc => .of_eq rfl, xmk1k T Fn (by decide +kernel) nof (ev fI) fun s x v kV doc pm an cdv ct cc => .of_eq rfl⟩
abbrev i_InvalidNote : Stmt := inClass (top 7) 0
theorem sh_InvalidNote : ∃ (Ps : Ps1) (a1 a2 : Pos), defArgs i_InvalidNote = args1 a1 a2 "at" ∧ defBody i_InvalidNote = body1 Ps "invalid note" "at" ∧ defScope i_InvalidNote = scope1 "at" ∧ ∀ fI, EvOk "InvalidNote.__init__" (scope1 "at") fI Ps "invalid note" :=
  ⟨⟨_, _, _, _, _, _, _, _, _, _, _⟩, _, _, rfl, rfl, rfl, fun fI L cda cc => ⟨_, rfl, rfl, rfl⟩⟩
theorem xm_InvalidNote {P : Program} {w : World} {K : PySem.W.Frag} {C fI : Addr} (T : XCls P K C) (Fn : XFn P K C fI "InvalidNote.__init__" (defArgs i_InvalidNote) (defBody i_InvalidNote) (defScope i_InvalidNote)) (nof : PySem.W.findIn K (.ref C) "at" = some none) :
    XMk P w K C 1 [] (fun vs _ => [("at", vs.headD .non)]) ∧ XMk P w K C 0 ["at"] (fun _ zs => [("at", zs.headD .non)]) := by
  obtain ⟨Ps, a1, a2, e1, e2, e3, ev⟩ := sh_InvalidNote
  rw [e1, e2, e3] at Fn
  exact ⟨xmk1 T Fn (by decide +kernel) nof (ev fI) fun s x v kV doc pm an cdv ct cc => .of_eq rfl, xmk1k T Fn (by decide +kernel) nof (ev fI) fun s x v kV doc pm an cdv ct cc => .of_eq rfl⟩
abbrev i_Falls : Stmt := inClass (top 9) 0
theorem sh_Falls : ∃ (Ps : Ps2) (a1 a2 a3 : Pos), defArgs i_Falls = args2 a1 a2 a3 "word" "path" ∧ defBody i_Falls = body2 Ps "the turn falls" "word" "path" ∧ defScope i_Falls = scope2 "word" "path" ∧ ∀ fI, EvOk "Falls.__init__" (scope2 "word" "path") fI Ps.toPs1 "the turn falls" :=
  ⟨⟨⟨_, _, _, _, _, _, _, _, _, _, _⟩, _, _, _, _⟩, _, _, _, rfl, rfl, rfl, fun fI L cda cc => ⟨_, rfl, rfl, rfl⟩⟩
theorem xm_Falls {P : Program} {w : World} {K : PySem.W.Frag} {C fI : Addr} (T : XCls P K C) (Fn : XFn P K C fI "Falls.__init__" (defArgs i_Falls) (defBody i_Falls) (defScope i_Falls)) (nof : PySem.W.findIn K (.ref C) "word" = some none) (nof2 : PySem.W.findIn K (.ref C) "path" = some none) :
    XMk P w K C 2 [] (fun vs _ => [("path", vs.getD 1 .non), ("word", vs.getD 0 .non)]) ∧ XMk P w K C 0 ["path", "word"] (fun _ zs => [("path", zs.getD 0 .non), ("word", zs.getD 1 .non)]) := by
  obtain ⟨Ps, a1, a2, a3, e1, e2, e3, ev⟩ := sh_Falls
  rw [e1, e2, e3] at Fn
  exact ⟨xmk2 T Fn (by decide +kernel) (by decide +kernel) (by decide +kernel) nof nof2 (ev fI) fun s x v v2 kV doc pm an cdv ct cc => .of_eq rfl, xmk2k T Fn (by decide +kernel) (by decide +kernel) (by decide +kernel) nof nof2 (ev fI) fun s x v v2 kV doc pm an cdv ct cc => .of_eq rfl⟩
abbrev i_Breaks : Stmt := inClass (top 10) 0
theorem sh_Breaks : ∃ (Ps : Ps2) (a1 a2 a3 : Pos), defArgs i_Breaks = args2 a1 a2 a3 "at" "word" ∧ defBody i_Breaks = body2 Ps "the reading breaks" "at" "word" ∧ defScope i_Breaks = scope2 "at" "word" ∧ ∀ fI, EvOk "Breaks.__init__" (scope2 "at" "word") fI Ps.toPs1 "the reading breaks" :=
  ⟨⟨⟨_, _, _, _, _, _, _, _, _, _, _⟩, _, _, _, _⟩, _, _, _, rfl, rfl, rfl, fun fI L cda cc => ⟨_, rfl, rfl, rfl⟩⟩
theorem xm_Breaks {P : Program} {w : World} {K : PySem.W.Frag} {C fI : Addr} (T : XCls P K C) (Fn : XFn P K C fI "Breaks.__init__" (defArgs i_Breaks) (defBody i_Breaks) (defScope i_Breaks)) (nof : PySem.W.findIn K (.ref C) "at" = some none) (nof2 : PySem.W.findIn K (.ref C) "word" = some none) :
    XMk P w K C 2 [] (fun vs _ => [("word", vs.getD 1 .non), ("at", vs.getD 0 .non)]) ∧ XMk P w K C 0 ["word", "at"] (fun _ zs => [("word", zs.getD 0 .non), ("at", zs.getD 1 .non)]) := by
  obtain ⟨Ps, a1, a2, a3, e1, e2, e3, ev⟩ := sh_Breaks
  rw [e1, e2, e3] at Fn
  exact ⟨xmk2 T Fn (by decide +kernel) (by decide +kernel) (by decide +kernel) nof nof2 (ev fI) fun s x v v2 kV doc pm an cdv ct cc => .of_eq rfl, xmk2k T Fn (by decide +kernel) (by decide +kernel) (by decide +kernel) nof nof2 (ev fI) fun s x v v2 kV doc pm an cdv ct cc => .of_eq rfl⟩
abbrev i_NoRun : Stmt := inClass (top 11) 0
theorem sh_NoRun : ∃ (Ps : Ps1) (a1 a2 : Pos), defArgs i_NoRun = args1 a1 a2 "name" ∧ defBody i_NoRun = body1 Ps "no such run" "name" ∧ defScope i_NoRun = scope1 "name" ∧ ∀ fI, EvOk "NoRun.__init__" (scope1 "name") fI Ps "no such run" :=
  ⟨⟨_, _, _, _, _, _, _, _, _, _, _⟩, _, _, rfl, rfl, rfl, fun fI L cda cc => ⟨_, rfl, rfl, rfl⟩⟩
theorem xm_NoRun {P : Program} {w : World} {K : PySem.W.Frag} {C fI : Addr} (T : XCls P K C) (Fn : XFn P K C fI "NoRun.__init__" (defArgs i_NoRun) (defBody i_NoRun) (defScope i_NoRun)) (nof : PySem.W.findIn K (.ref C) "name" = some none) :
    XMk P w K C 1 [] (fun vs _ => [("name", vs.headD .non)]) ∧ XMk P w K C 0 ["name"] (fun _ zs => [("name", zs.headD .non)]) := by
  obtain ⟨Ps, a1, a2, e1, e2, e3, ev⟩ := sh_NoRun
  rw [e1, e2, e3] at Fn
  exact ⟨xmk1 T Fn (by decide +kernel) nof (ev fI) fun s x v kV doc pm an cdv ct cc => .of_eq rfl, xmk1k T Fn (by decide +kernel) nof (ev fI) fun s x v kV doc pm an cdv ct cc => .of_eq rfl⟩
abbrev i_Taken : Stmt := inClass (top 12) 0
theorem sh_Taken : ∃ (Ps : Ps1) (a1 a2 : Pos), defArgs i_Taken = args1 a1 a2 "name" ∧ defBody i_Taken = body1 Ps "the name is taken" "name" ∧ defScope i_Taken = scope1 "name" ∧ ∀ fI, EvOk "Taken.__init__" (scope1 "name") fI Ps "the name is taken" :=
  ⟨⟨_, _, _, _, _, _, _, _, _, _, _⟩, _, _, rfl, rfl, rfl, fun fI L cda cc => ⟨_, rfl, rfl, rfl⟩⟩
theorem xm_Taken {P : Program} {w : World} {K : PySem.W.Frag} {C fI : Addr} (T : XCls P K C) (Fn : XFn P K C fI "Taken.__init__" (defArgs i_Taken) (defBody i_Taken) (defScope i_Taken)) (nof : PySem.W.findIn K (.ref C) "name" = some none) :
    XMk P w K C 1 [] (fun vs _ => [("name", vs.headD .non)]) ∧ XMk P w K C 0 ["name"] (fun _ zs => [("name", zs.headD .non)]) := by
  obtain ⟨Ps, a1, a2, e1, e2, e3, ev⟩ := sh_Taken
  rw [e1, e2, e3] at Fn
  exact ⟨xmk1 T Fn (by decide +kernel) nof (ev fI) fun s x v kV doc pm an cdv ct cc => .of_eq rfl, xmk1k T Fn (by decide +kernel) nof (ev fI) fun s x v kV doc pm an cdv ct cc => .of_eq rfl⟩
abbrev i_LimitExceeded : Stmt := inClass (top 13) 0
theorem sh_LimitExceeded : ∃ (Ps : Ps1) (a1 a2 : Pos), defArgs i_LimitExceeded = args1 a1 a2 "limit" ∧ defBody i_LimitExceeded = body1 Ps "the limit is exceeded" "limit" ∧ defScope i_LimitExceeded = scope1 "limit" ∧ ∀ fI, EvOk "LimitExceeded.__init__" (scope1 "limit") fI Ps "the limit is exceeded" :=
  ⟨⟨_, _, _, _, _, _, _, _, _, _, _⟩, _, _, rfl, rfl, rfl, fun fI L cda cc => ⟨_, rfl, rfl, rfl⟩⟩
theorem xm_LimitExceeded {P : Program} {w : World} {K : PySem.W.Frag} {C fI : Addr} (T : XCls P K C) (Fn : XFn P K C fI "LimitExceeded.__init__" (defArgs i_LimitExceeded) (defBody i_LimitExceeded) (defScope i_LimitExceeded)) (nof : PySem.W.findIn K (.ref C) "limit" = some none) :
    XMk P w K C 1 [] (fun vs _ => [("limit", vs.headD .non)]) ∧ XMk P w K C 0 ["limit"] (fun _ zs => [("limit", zs.headD .non)]) := by
  obtain ⟨Ps, a1, a2, e1, e2, e3, ev⟩ := sh_LimitExceeded
  rw [e1, e2, e3] at Fn
  exact ⟨xmk1 T Fn (by decide +kernel) nof (ev fI) fun s x v kV doc pm an cdv ct cc => .of_eq rfl, xmk1k T Fn (by decide +kernel) nof (ev fI) fun s x v kV doc pm an cdv ct cc => .of_eq rfl⟩
end K84
namespace K84
open PySem L2 PyProof.Rows PySem.XL
/-! ### errors as values -/
def ErrAt (cl : Nat → Addr) (H : Hp) (a : Addr) (n : Nat) (fs : List (Str × V)) : Prop := ∃ d, H a = some (exo a (cl n) (some d)) ∧ H d = some (exd d fs)
theorem ErrAt.mono {cl : Nat → Addr} {H H' : Hp} {a : Addr} {n : Nat} {fs : List (Str × V)} (h : ErrAt cl H a n fs) (s : Same H H') : ErrAt cl H' a n fs :=
  let ⟨d, h1, h2⟩ := h
  ⟨d, s _ _ h1, s _ _ h2⟩
theorem same_new {H : Hp} {p : Addr} {o : HO} (h : H p = none) : Same H (upd H p o) := fun b u e => by
  rw [upd_ne (ne_of_none e h)]
  exact e
theorem err_new {cl : Nat → Addr} {H : Hp} {a d : Addr} {n : Nat} {fs : List (Str × V)} (ha : H a = none) (hd : H d = none) (hne : d ≠ a) :
    ErrAt cl (upd (upd H d (exd d fs)) a (exo a (cl n) (some d))) a n fs ∧ Same H (upd (upd H d (exd d fs)) a (exo a (cl n) (some d))) :=
  ⟨⟨d, upd_same, by rw [upd_ne hne, upd_same]⟩, (same_new hd).trans (same_new (by rw [upd_ne (Ne.symm hne)]; exact ha))⟩
def dueL (n : Nat) : List V := [.bl (decide (n = 0)), .bl (decide (n = 1)), .bl (decide (n = 2)), .bl (decide (n = 3)), .bl (decide (n = 4)), .bl (decide (n = 5)), .bl (decide (n = 6)), .bl (decide (n = 7)), .bl (decide (n = 8)), .bl (decide (n = 9)), .bl (decide (n < 5)), .bl (decide (5 ≤ n ∧ n < 9))]
/-- what the written part says of the classes -/
structure Kit (K : PySem.W.Frag) (cl : Nat → Addr) (aOp aIn aRun : Addr) : Prop where
  ask : ∀ n, n < 10 → XAsk K (cl n)
  kit : ∀ n j, n < 10 → j < 10 → PySem.W.kitOne K (.ref (cl n)) (.ref (cl j)) = some (decide (n = j))
  kIn : ∀ n, n < 10 → PySem.W.kitOne K (.ref (cl n)) (.ref aIn) = some (decide (n < 5))
  kRun : ∀ n, n < 10 → PySem.W.kitOne K (.ref (cl n)) (.ref aRun) = some (decide (5 ≤ n ∧ n < 9))
  kOp : ∀ n, n < 10 → PySem.W.kitOne K (.ref (cl n)) (.ref aOp) = some true
  kLk : ∀ n, n < 10 → PySem.W.kitOne K (.ref (cl n)) (.type "LookupError") = some true
  kVE : ∀ n, n < 10 → PySem.W.kitOne K (.ref (cl n)) (.type "ValueError") = some false
  kKE : ∀ n, n < 10 → PySem.W.kitOne K (.ref (cl n)) (.type "KeyError") = some false
structure Glb (mg : Str → Option Value) (cl : Nat → Addr) (aOp aIn aRun : Addr) : Prop extends Blt mg where
  g_InvalidProgram : mg "InvalidProgram" = some (.ref (cl 0))
  g_InvalidHistory : mg "InvalidHistory" = some (.ref (cl 1))
  g_InvalidText : mg "InvalidText" = some (.ref (cl 2))
  g_InvalidArgument : mg "InvalidArgument" = some (.ref (cl 3))
  g_InvalidNote : mg "InvalidNote" = some (.ref (cl 4))
  g_Falls : mg "Falls" = some (.ref (cl 5))
  g_Breaks : mg "Breaks" = some (.ref (cl 6))
  g_NoRun : mg "NoRun" = some (.ref (cl 7))
  g_Taken : mg "Taken" = some (.ref (cl 8))
  g_LimitExceeded : mg "LimitExceeded" = some (.ref (cl 9))
  g_OpenError : mg "OpenError" = some (.ref aOp)
  g_InputError : mg "InputError" = some (.ref aIn)
  g_RunError : mg "RunError" = some (.ref aRun)
def spAbove (cl : Nat → Addr) : Sp := fun vs H Q _ => ∃ (a : Addr) (n : Nat) (fs : List (Str × V)), vs = [.ref a] ∧ n < 10 ∧ ErrAt cl H a n fs ∧ ∀ p, H p = none → Q (.ref p) (upd H p (.lst (dueL n)))
def spFits (cl : Nat → Addr) : Sp := fun vs H Q _ => ∃ (a : Addr) (n : Nat) (fs : List (Str × V)), vs = [.ref a, .int (n : Int)] ∧ n < 10 ∧ ErrAt cl H a n fs ∧ ∀ H', Same H H' → Q (.bl true) H'
section
variable {P : Program} {w : World} {K : PySem.W.Frag} {mg : Str → Option Value} {base : Heap} {cl : Nat → Addr} {aOp aIn aRun : Addr}
theorem sc__law_above : FnScope ["_law_error"] ["_law_error"] (defScope s__law_above) := ⟨rfl, rfl, rfl, by decide +kernel, rfl, by decide +kernel, by decide +kernel⟩
theorem ok_above {f : Addr} {fd : FuncData} (F : Fun K "_law_above" "_law_above" s__law_above f fd) (T : Glb mg cl aOp aIn aRun) (Z : Kit K cl aOp aIn aRun) : FnOk P w K mg base CX0 1 f fd ["_law_error"] (spAbove cl) := by
  refine F.ok sc__law_above (fun vs H Q E h => ?_) (fun cdv A outer s H vs Q E hr h => ?_)
  · obtain ⟨a, n, fs, rfl, _⟩ := h
    rfl
  · obtain ⟨a, n, fs, rfl, hn, ⟨d, ha, hd⟩, k⟩ := h
    refine ⟨_, (pss_one (ps_ret (pe_lst (pa_cons (pe_callB call_xis (by rfl) T.b_isinstance (by decide +kernel) (pa_cons (pv 0) (pa_cons (pe_gref rfl T.g_InvalidProgram) pa_nil))) (pa_cons (pe_callB call_xis (by rfl) T.b_isinstance (by decide +kernel) (pa_cons (pv 0) (pa_cons (pe_gref rfl T.g_InvalidHistory) pa_nil))) (pa_cons (pe_callB call_xis (by rfl) T.b_isinstance (by decide +kernel) (pa_cons (pv 0) (pa_cons (pe_gref rfl T.g_InvalidText) pa_nil))) (pa_cons (pe_callB call_xis (by rfl) T.b_isinstance (by decide +kernel) (pa_cons (pv 0) (pa_cons (pe_gref rfl T.g_InvalidArgument) pa_nil))) (pa_cons (pe_callB call_xis (by rfl) T.b_isinstance (by decide +kernel) (pa_cons (pv 0) (pa_cons (pe_gref rfl T.g_InvalidNote) pa_nil))) (pa_cons (pe_callB call_xis (by rfl) T.b_isinstance (by decide +kernel) (pa_cons (pv 0) (pa_cons (pe_gref rfl T.g_Falls) pa_nil))) (pa_cons (pe_callB call_xis (by rfl) T.b_isinstance (by decide +kernel) (pa_cons (pv 0) (pa_cons (pe_gref rfl T.g_Breaks) pa_nil))) (pa_cons (pe_callB call_xis (by rfl) T.b_isinstance (by decide +kernel) (pa_cons (pv 0) (pa_cons (pe_gref rfl T.g_NoRun) pa_nil))) (pa_cons (pe_callB call_xis (by rfl) T.b_isinstance (by decide +kernel) (pa_cons (pv 0) (pa_cons (pe_gref rfl T.g_Taken) pa_nil))) (pa_cons (pe_callB call_xis (by rfl) T.b_isinstance (by decide +kernel) (pa_cons (pv 0) (pa_cons (pe_gref rfl T.g_LimitExceeded) pa_nil))) (pa_cons (pe_callB call_xis (by rfl) T.b_isinstance (by decide +kernel) (pa_cons (pv 0) (pa_cons (pe_gref rfl T.g_InputError) pa_nil))) (pa_cons (pe_callB call_xis (by rfl) T.b_isinstance (by decide +kernel) (pa_cons (pv 0) (pa_cons (pe_gref rfl T.g_RunError) pa_nil))) pa_nil))))))))))))))), ?_⟩
    refine ⟨_, rfl, a, _, d, fs, _, _, _, rfl, .own _, ha, hd, Z.ask n hn, Z.kit n 0 hn (by decide), ?_⟩
    refine ⟨_, rfl, a, _, d, fs, _, _, _, rfl, .own _, ha, hd, Z.ask n hn, Z.kit n 1 hn (by decide), ?_⟩
    refine ⟨_, rfl, a, _, d, fs, _, _, _, rfl, .own _, ha, hd, Z.ask n hn, Z.kit n 2 hn (by decide), ?_⟩
    refine ⟨_, rfl, a, _, d, fs, _, _, _, rfl, .own _, ha, hd, Z.ask n hn, Z.kit n 3 hn (by decide), ?_⟩
    refine ⟨_, rfl, a, _, d, fs, _, _, _, rfl, .own _, ha, hd, Z.ask n hn, Z.kit n 4 hn (by decide), ?_⟩
    refine ⟨_, rfl, a, _, d, fs, _, _, _, rfl, .own _, ha, hd, Z.ask n hn, Z.kit n 5 hn (by decide), ?_⟩
    refine ⟨_, rfl, a, _, d, fs, _, _, _, rfl, .own _, ha, hd, Z.ask n hn, Z.kit n 6 hn (by decide), ?_⟩
    refine ⟨_, rfl, a, _, d, fs, _, _, _, rfl, .own _, ha, hd, Z.ask n hn, Z.kit n 7 hn (by decide), ?_⟩
    refine ⟨_, rfl, a, _, d, fs, _, _, _, rfl, .own _, ha, hd, Z.ask n hn, Z.kit n 8 hn (by decide), ?_⟩
    refine ⟨_, rfl, a, _, d, fs, _, _, _, rfl, .own _, ha, hd, Z.ask n hn, Z.kit n 9 hn (by decide), ?_⟩
    refine ⟨_, rfl, a, _, d, fs, _, _, _, rfl, .own _, ha, hd, Z.ask n hn, Z.kIn n hn, ?_⟩
    refine ⟨_, rfl, a, _, d, fs, _, _, _, rfl, .own _, ha, hd, Z.ask n hn, Z.kRun n hn, ?_⟩
    exact ⟨(by show 12 ≤ sizeLine; rw [sizeLine_eq]; decide), fun p hp => k p hp⟩
theorem sc__law_fits : FnScope ["_law_error", "_law_number", "_law_due", "_law_count"] ["_law_error", "_law_number"] (defScope s__law_fits) := ⟨rfl, rfl, rfl, by decide +kernel, rfl, by decide +kernel, by decide +kernel⟩
theorem eq10 {n : Nat} : ∀ i : Nat, (V.bl (decide (V.int (n : Int) = V.int (0 + (i : Int))))) = V.bl (decide (n = i)) := fun i => by
  congr 1
  simp
  omega
structure Fn1 (K : PySem.W.Frag) (mg : Str → Option Value) (f : Addr) (fd : FuncData) (nm : Str) (ps : List Str) : Prop where
  g : mg nm = some (.ref f)
  k : PySem.W.keepIn K (.ref f) = true
  b : Binds K fd ps []
theorem chain_le_lt {i : Nat} {lo hi n : Int} {σ : L2.St} {H : Hp} {Q : VK} (h : σ[i]? = some (some (.int n))) (q : Q (.bl (decide (lo ≤ n ∧ n < hi))) H) :
    tChain (rI0 fun i j => .bl (decide (i ≤ j))) (rI0 fun i j => .bl (decide (i < j))) (tC (.int lo)) (tVar i) (tC (.int hi)) σ H Q := by
  refine ⟨_, h, _, _, rfl, rfl, _, rfl, ?_⟩
  by_cases c : lo ≤ n
  · refine if_true_of (decide_eq_true c) ⟨_, _, rfl, rfl, ?_⟩
    have e : decide (n < hi) = decide (lo ≤ n ∧ n < hi) := by simp [c]
    show Q (.bl (decide (n < hi))) H
    rw [e]
    exact q
  · refine if_false_of (decide_eq_false c) ?_
    have e : false = decide (lo ≤ n ∧ n < hi) := by simp [c]
    rw [e]
    exact q
theorem due_eq (n : Nat) : ((List.range 10).map fun j => V.bl (decide (n = j))) ++ [V.bl (decide ((n : Int) < 5)), V.bl (decide (5 ≤ (n : Int) ∧ (n : Int) < 9))] = dueL n := by
  have e1 : decide ((n : Int) < 5) = decide (n < 5) := by congr 1; simp; omega
  have e2 : decide (5 ≤ (n : Int) ∧ (n : Int) < 9) = decide (5 ≤ n ∧ n < 9) := by congr 1; simp; omega
  rw [e1, e2]
  rfl
def dueB (n : Nat) : List Bool := [decide (n = 0), decide (n = 1), decide (n = 2), decide (n = 3), decide (n = 4), decide (n = 5), decide (n = 6), decide (n = 7), decide (n = 8), decide (n = 9), decide (n < 5), decide (5 ≤ n ∧ n < 9)]
theorem dueB_eq (n : Nat) : dueL n = (dueB n).map V.bl := rfl
theorem dp_bools (H : Hp) : ∀ bs : List Bool, DpAll K H (bs.map V.bl) (bs.map PyData.bool)
  | [] => .nil
  | b :: r => .cons (.bl b) (dp_bools H r)
theorem ok_fits {f fA : Addr} {fd fdA : FuncData} (F : Fun K "_law_fits" "_law_fits" s__law_fits f fd) (T : Glb mg cl aOp aIn aRun) (Z : Kit K cl aOp aIn aRun) (GA : FnOk P w K mg base CX0 1 fA fdA ["_law_error"] (spAbove cl)) (TA : Fn1 K mg fA fdA "_law_above" ["_law_error"]) :
    FnOk P w K mg base CX0 2 f fd ["_law_error", "_law_number"] (spFits cl) := by
  refine F.ok sc__law_fits (fun vs H Q E h => ?_) (fun cdv A outer s H vs Q E hr h => ?_)
  · obtain ⟨a, n, fs, rfl, _⟩ := h
    rfl
  · obtain ⟨a, n, fs, rfl, hn, hE, k⟩ := h
    refine ⟨_, (pss_cons (ps_set (i := 2) sc__law_fits.nd rfl (.inl rfl) (pe_op op_cat (pe_lc (own := [("_law_count", 3)]) (g := gName 3) (tt := tYes) rfl sc__law_fits.nd (pi_range1 (by rfl) T.b_range (pa_cons pe_int pa_nil)) (blkOk_by (own := [("_law_count", 3)]) (N := ["_law_error", "_law_number", "_law_due", "_law_count"]) (sc := defScope s__law_fits) (by decide +kernel)) (fun _ _ _ _ _ => (pg_name (i := 3) sc__law_fits.nd rfl (.inl rfl))) (fun _ _ _ _ _ => pts_nil) (fun _ _ _ _ _ => (pe_cmpR op_eq (pv 1) (pv 3) (nomark _)))) (pe_lst (pa_cons (pe_cmpR op_lt (pv 1) pe_int (nomark _)) (pa_cons (pe_chain op_le op_lt pe_int (pv 1) pe_int) pa_nil)))))
      (pss_cons (ps_if (PW.pt (pw_or (pt_cmpR (op_neD hr.units) (pe_call GA (hr.mono (by decide)) rfl TA.g TA.k TA.b .nil pass0 (pa_cons (pv 0) pa_nil)) (pv 2) (nomark _)) (pw_or (pt_not (pt_val (pe_callB call_xis (by rfl) T.b_isinstance (by decide +kernel) (pa_cons (pv 0) (pa_cons (pe_gref rfl T.g_OpenError) pa_nil))))) (pw_or1 (pt_not (pt_val (pe_callB call_xis (by rfl) T.b_isinstance (by decide +kernel) (pa_cons (pv 0) (pa_cons (pe_bltn (v := .ty "LookupError") (by rfl) T.b_LookupError (by decide +kernel) rfl) pa_nil))))))))) (pss_one (ps_ret pe_bl)) pss_nil)
      (pss_one (ps_ret (pe_and (pe_not (pe_callB call_xis (by rfl) T.b_isinstance (by decide +kernel) (pa_cons (pv 0) (pa_cons (pe_bltn (v := .ty "ValueError") (by rfl) T.b_ValueError (by decide +kernel) rfl) pa_nil)))) (pe_one (pe_not (pe_callB call_xis (by rfl) T.b_isinstance (by decide +kernel) (pa_cons (pv 0) (pa_cons (pe_bltn (v := .ty "KeyError") (by rfl) T.b_KeyError (by decide +kernel) rfl) pa_nil)))))))))), ?_⟩
    refine ⟨10, rfl, by decide, by decide, fun D hD => ?_⟩
    refine lc_range (lo := 0) (n := 10) (fun i H' => Same H H' ∧ H' D = some (.lst ((List.range i).map fun j => V.bl (decide (n = j))))) ⟨same_new hD, upd_same⟩ ?_ ?_
    · rintro i H' hi ⟨S, hL⟩
      refine ⟨rfl, ?_⟩
      refine ⟨_, rfl, _, rfl, rfl, _, hL, ?_, ?_, ?_⟩
      · rw [List.length_map, List.length_range, sizeLine_eq]; omega
      · exact fun b o e => by rw [upd_ne (ne_of_none e hD)]; exact S b o e
      · rw [upd_same, eq10, List.range_succ, List.map_append]
        rfl
    · rintro H1 ⟨S, hL⟩
      refine ⟨_, rfl, _, _, rfl, rfl, chain_le_lt rfl ⟨(by show 2 ≤ sizeLine; rw [sizeLine_eq]; decide), fun l hl => ?_⟩⟩
      have hL2 : upd H1 l (.lst [V.bl (decide ((n : Int) < 5)), V.bl (decide (5 ≤ (n : Int) ∧ (n : Int) < 9))]) D = some (HO.lst (List.map (fun j => V.bl (decide (n = j))) (List.range 10))) := by
        rw [upd_ne (ne_of_none hL hl)]; exact hL
      refine ⟨D, l, _, _, rfl, rfl, hL2, upd_same, (by show 12 ≤ sizeLine; rw [sizeLine_eq]; decide), fun p hp => ?_⟩
      rw [due_eq]
      have S2 := (S.trans (same_new (o := .lst [V.bl (decide ((n : Int) < 5)), V.bl (decide (5 ≤ (n : Int) ∧ (n : Int) < 9))]) hl)).trans (same_new (o := .lst (dueL n)) hp)
      generalize hH2 : upd (upd H1 l (.lst [V.bl (decide ((n : Int) < 5)), V.bl (decide (5 ≤ (n : Int) ∧ (n : Int) < 9))])) p (.lst (dueL n)) = H2 at S2
      have hp2 : H2 p = some (.lst (dueL n)) := by rw [← hH2]; exact upd_same
      refine ⟨_, rfl, a, n, fs, rfl, hn, hE.mono S2, fun q hq => ?_⟩
      have S3 := S2.trans (same_new (o := .lst (dueL n)) hq)
      have hp3 : upd H2 q (.lst (dueL n)) p = some (.lst (dueL n)) := by rw [upd_ne (ne_of_none hp2 hq)]; exact hp2
      obtain ⟨d, ha, hd⟩ := hE.mono S3
      have dp : ∀ (x : Addr), upd H2 q (.lst (dueL n)) x = some (.lst (dueL n)) → Dp K (upd H2 q (.lst (dueL n))) (.ref x) (.list ((dueB n).map PyData.bool)) := fun x hx => .lst (.inl (.inl hx)) (dueB_eq n ▸ dp_bools _ _)
      refine ⟨_, rfl, _, _, dp q upd_same, dp p hp3, rfl, rfl, _, rfl, ?_⟩
      refine if_false_of (by rw [SeqAt.eqv_refl _ rfl]; rfl) ?_
      refine ⟨_, rfl, a, _, d, fs, _, _, _, rfl, .own _, ha, hd, Z.ask n hn, Z.kOp n hn, true, rfl, ?_⟩
      refine if_false_of rfl ?_
      refine ⟨_, rfl, a, _, d, fs, _, _, _, rfl, .ty _, ha, hd, Z.ask n hn, Z.kLk n hn, true, rfl, ?_⟩
      refine if_false_of rfl ?_
      refine ⟨_, rfl, a, _, d, fs, _, _, _, rfl, .ty _, ha, hd, Z.ask n hn, Z.kVE n hn, false, rfl, true, rfl, ?_⟩
      refine if_true_of rfl ?_
      exact ⟨_, rfl, a, _, d, fs, _, _, _, rfl, .ty _, ha, hd, Z.ask n hn, Z.kKE n hn, false, rfl, k _ S3⟩
end
end K84
namespace K84
open PySem L2 PyProof.Rows PySem.XL
/-- the fields that no class has -/
structure Nof (K : PySem.W.Frag) (cl : Nat → Addr) : Prop where
  p0 : PySem.W.findIn K (.ref (cl 0)) "part" = some none
  q0 : PySem.W.findIn K (.ref (cl 0)) "path" = some none
  p1 : PySem.W.findIn K (.ref (cl 1)) "at" = some none
  p2 : PySem.W.findIn K (.ref (cl 2)) "line" = some none
  p3 : PySem.W.findIn K (.ref (cl 3)) "part" = some none
  p4 : PySem.W.findIn K (.ref (cl 4)) "at" = some none
  p5 : PySem.W.findIn K (.ref (cl 5)) "word" = some none
  q5 : PySem.W.findIn K (.ref (cl 5)) "path" = some none
  p6 : PySem.W.findIn K (.ref (cl 6)) "at" = some none
  q6 : PySem.W.findIn K (.ref (cl 6)) "word" = some none
  p7 : PySem.W.findIn K (.ref (cl 7)) "name" = some none
  p8 : PySem.W.findIn K (.ref (cl 8)) "name" = some none
  p9 : PySem.W.findIn K (.ref (cl 9)) "limit" = some none
/-- the classes can be made -/
structure Mks (P : Program) (w : World) (K : PySem.W.Frag) (mg : Str → Option Value) (cl : Nat → Addr) (aOp aIn aRun : Addr) : Prop extends Glb mg cl aOp aIn aRun where
  mk_InvalidProgram : XMk P w K (cl 0) 2 [] (fun vs _ => [("path", vs.getD 1 .non), ("part", vs.getD 0 .non)])
  mk_InvalidProgramk : XMk P w K (cl 0) 0 ["path", "part"] (fun _ zs => [("path", zs.getD 0 .non), ("part", zs.getD 1 .non)])
  k_InvalidProgram : PySem.W.keepIn K (.ref (cl 0)) = true
  mk_InvalidHistory : XMk P w K (cl 1) 1 [] (fun vs _ => [("at", vs.headD .non)])
  mk_InvalidHistoryk : XMk P w K (cl 1) 0 ["at"] (fun _ zs => [("at", zs.headD .non)])
  k_InvalidHistory : PySem.W.keepIn K (.ref (cl 1)) = true
  mk_InvalidText : XMk P w K (cl 2) 1 [] (fun vs _ => [("line", vs.headD .non)])
  mk_InvalidTextk : XMk P w K (cl 2) 0 ["line"] (fun _ zs => [("line", zs.headD .non)])
  k_InvalidText : PySem.W.keepIn K (.ref (cl 2)) = true
  mk_InvalidArgument : XMk P w K (cl 3) 1 [] (fun vs _ => [("part", vs.headD .non)])
  mk_InvalidArgumentk : XMk P w K (cl 3) 0 ["part"] (fun _ zs => [("part", zs.headD .non)])
  k_InvalidArgument : PySem.W.keepIn K (.ref (cl 3)) = true
  mk_InvalidNote : XMk P w K (cl 4) 1 [] (fun vs _ => [("at", vs.headD .non)])
  mk_InvalidNotek : XMk P w K (cl 4) 0 ["at"] (fun _ zs => [("at", zs.headD .non)])
  k_InvalidNote : PySem.W.keepIn K (.ref (cl 4)) = true
  mk_Falls : XMk P w K (cl 5) 2 [] (fun vs _ => [("path", vs.getD 1 .non), ("word", vs.getD 0 .non)])
  mk_Fallsk : XMk P w K (cl 5) 0 ["path", "word"] (fun _ zs => [("path", zs.getD 0 .non), ("word", zs.getD 1 .non)])
  k_Falls : PySem.W.keepIn K (.ref (cl 5)) = true
  mk_Breaks : XMk P w K (cl 6) 2 [] (fun vs _ => [("word", vs.getD 1 .non), ("at", vs.getD 0 .non)])
  mk_Breaksk : XMk P w K (cl 6) 0 ["word", "at"] (fun _ zs => [("word", zs.getD 0 .non), ("at", zs.getD 1 .non)])
  k_Breaks : PySem.W.keepIn K (.ref (cl 6)) = true
  mk_NoRun : XMk P w K (cl 7) 1 [] (fun vs _ => [("name", vs.headD .non)])
  mk_NoRunk : XMk P w K (cl 7) 0 ["name"] (fun _ zs => [("name", zs.headD .non)])
  k_NoRun : PySem.W.keepIn K (.ref (cl 7)) = true
  mk_Taken : XMk P w K (cl 8) 1 [] (fun vs _ => [("name", vs.headD .non)])
  mk_Takenk : XMk P w K (cl 8) 0 ["name"] (fun _ zs => [("name", zs.headD .non)])
  k_Taken : PySem.W.keepIn K (.ref (cl 8)) = true
  mk_LimitExceeded : XMk P w K (cl 9) 1 [] (fun vs _ => [("limit", vs.headD .non)])
  mk_LimitExceededk : XMk P w K (cl 9) 0 ["limit"] (fun _ zs => [("limit", zs.headD .non)])
  k_LimitExceeded : PySem.W.keepIn K (.ref (cl 9)) = true
section
variable {P : Program} {w : World} {K : PySem.W.Frag} {mg : Str → Option Value} {base : Heap} {cl : Nat → Addr} {aOp aIn aRun : Addr}
/-! ### one turn of a loop over two errors -/
def Fls (t : TT) (σ : L2.St) (H : Hp) : Prop := ∀ Q : Bool → Hp → Prop, Q false H → t σ H Q
theorem ne_scal {i j n : Nat} {σ : L2.St} {H : Hp} {a : Addr} {f : Str} {v : V} {fs : List (Str × V)} (Z : Kit K cl aOp aIn aRun) (hn : n < 10) (hi : σ[i]? = some (some (.ref a))) (hj : σ[j]? = some (some v)) (E : ErrAt cl H a n fs) (nof : PySem.W.findIn K (.ref (cl n)) f = some none) (hl : fs.lookup f = some v) (hs : scal v v = true) :
    Fls (tTest (tOp rNe (tXat K f (tVar i)) (tVar j))) σ H := fun Q q => by
  obtain ⟨d, ha, hd⟩ := E
  refine ⟨_, hi, a, _, d, fs, v, rfl, ha, hd, Z.ask n hn, nof, hl, _, hj, hs, _, rfl, ?_⟩
  rw [show (!decide (v = v)) = false from by simp]
  exact q
theorem dp_ints (H : Hp) : ∀ ns : List Int, DpAll K H (ns.map V.int) (ns.map PyData.int)
  | [] => .nil
  | b :: r => .cons (.int b) (dp_ints H r)
theorem can_ints : ∀ ns : List Int, PyData.canLayAll0 (ns.map PyData.int) = true
  | [] => rfl
  | b :: r => by
    show (PyData.canLay0 (.int b) && PyData.canLayAll0 (r.map PyData.int)) = true
    rw [can_ints r]
    rfl
theorem dep_ints : ∀ ns : List Int, PyData.depthAll (ns.map PyData.int) = 0
  | [] => rfl
  | b :: r => by
    show max (PyData.depth (.int b)) (PyData.depthAll (r.map PyData.int)) = 0
    rw [dep_ints r]
    rfl
theorem lay_ints (ns : List Int) : SeqAt.shaped (.tuple (ns.map PyData.int)) = true := by
  show (PyData.canLayAll0 (ns.map PyData.int) && decide (PyData.depthAll (ns.map PyData.int) + 1 ≤ 64)) = true
  rw [can_ints, dep_ints]
  rfl
theorem ne_tup {i j n : Nat} {σ : L2.St} {H : Hp} {a t : Addr} {f : Str} {ns : List Int} {fs : List (Str × V)} (Z : Kit K cl aOp aIn aRun) (hn : n < 10) (hi : σ[i]? = some (some (.ref a))) (hj : σ[j]? = some (some (.ref t))) (E : ErrAt cl H a n fs) (nof : PySem.W.findIn K (.ref (cl n)) f = some none) (hl : fs.lookup f = some (.ref t)) (ht : SqT K H t (ns.map V.int)) :
    Fls (tTest (tOp (rNeD K) (tXat K f (tVar i)) (tVar j))) σ H := fun Q q => by
  obtain ⟨d, ha, hd⟩ := E
  have dp : Dp K H (.ref t) (.tuple (ns.map PyData.int)) := .tup ht (dp_ints H ns)
  refine ⟨_, hi, a, _, d, fs, _, rfl, ha, hd, Z.ask n hn, nof, hl, _, hj, _, _, dp, dp, lay_ints ns, lay_ints ns, _, rfl, ?_⟩
  rw [SeqAt.eqv_refl _ (SeqAt.canLay_of_shaped (lay_ints ns))]
  exact q
theorem turn_fits {i n : Nat} {σ : L2.St} {H : Hp} {a : Addr} {fs : List (Str × V)} {E0 : XK} {Q : Bool → Hp → Prop} (hn : n < 10) (hi : σ[i]? = some (some (.ref a))) (E : ErrAt cl H a n fs) (k : ∀ H', Same H H' → Q false H') :
    tNot (tB (tCall (spFits cl) [] E0 (tCons (tVar i) (tCons (tC (.int (n : Int))) tNil)))) σ H Q := ⟨_, hi, a, n, fs, rfl, hn, E, fun H' S => ⟨true, rfl, k H' S⟩⟩
theorem turn1 {i n : Nat} {σ : L2.St} {H : Hp} {a : Addr} {fs : List (Str × V)} {E0 : XK} {D : Ends} {t1 : TT} {tr : TS} (hn : n < 10) (hi : σ[i]? = some (some (.ref a))) (E : ErrAt cl H a n fs) (h1 : ∀ H', Same H H' → Fls t1 σ H') (k : ∀ H', Same H H' → D.nx σ H') :
    tIfS (tOr (tNot (tB (tCall (spFits cl) [] E0 (tCons (tVar i) (tCons (tC (.int (n : Int))) tNil))))) t1) tr tNext D σ H :=
  by
  unfold tIfS tOr
  exact turn_fits hn hi E fun H' S => if_false_of rfl (h1 H' S _ (if_false_of rfl (k H' S)))
theorem turn2 {i n : Nat} {σ : L2.St} {H : Hp} {a : Addr} {fs : List (Str × V)} {E0 : XK} {D : Ends} {t1 t2 : TT} {tr : TS} (hn : n < 10) (hi : σ[i]? = some (some (.ref a))) (E : ErrAt cl H a n fs) (h1 : ∀ H', Same H H' → Fls t1 σ H') (h2 : ∀ H', Same H H' → Fls t2 σ H') (k : ∀ H', Same H H' → D.nx σ H') :
    tIfS (tOr (tNot (tB (tCall (spFits cl) [] E0 (tCons (tVar i) (tCons (tC (.int (n : Int))) tNil))))) (tOr t1 t2)) tr tNext D σ H :=
  by
  unfold tIfS tOr
  exact turn_fits hn hi E fun H' S => if_false_of rfl (h1 H' S _ (if_false_of rfl (h2 H' S _ (if_false_of rfl (k H' S)))))
/-- the loop over two errors -/
theorem loop2 {n j : Nat} {H : Hp} {a1 a2 l : Addr} {fs : List (Str × V)} {D : Ends} {σ0 : L2.St} {tb : TS} (hl : H l = some (.lst [.ref a1, .ref a2])) (E1 : ErrAt cl H a1 n fs) (E2 : ErrAt cl H a2 n fs)
    (turn : ∀ a H' (D' : Ends), Same H H' → ErrAt cl H' a n fs → (∀ H'', Same H H'' → D'.nx (σ0.set j (some (.ref a))) H'') → tb D' (σ0.set j (some (.ref a))) H')
    (hset : ∀ x y : Option V, (σ0.set j x).set j y = σ0.set j y := by intro x y; simp)
    (k : ∀ σ H', Same H H' → (∃ x, σ = σ0.set j x) → D.nx σ H') (h0 : ∃ x, σ0 = σ0.set j x) :
    ∃ W : Nat → Nat → L2.St → Hp → Prop, (∃ m, W 0 m σ0 H) ∧ ∀ i m σ H, W i m σ H →
      ((Itl K l).stop i H ∧ D.nx σ H) ∨ ((Itl K l).go i H ∧ ∃ N : L2.St → Hp → Prop, (∀ σ' H', N σ' H' → ∃ m', m' < m ∧ W (i + 1) m' σ' H') ∧ ∀ x H', (Itl K l).yld i H x H' → gName j x σ H' fun σ2 H2 => tb { D with nx := N, ct := N, bk := D.nx } σ2 H2) := by
  refine for_list (K := K) (a := l) (xs := [.ref a1, .ref a2]) (fun i σ H' => Same H H' ∧ ∃ x, σ = σ0.set j x) ⟨Same.refl _, h0⟩ (fun i σ H' _ ⟨S, _⟩ => .inl (.inl (S _ _ hl))) ?_ (fun σ H' ⟨S, e⟩ => k σ H' S e)
  rintro i x σ H' hx ⟨S, y, rfl⟩
  have hx' : ∃ a, x = .ref a ∧ ErrAt cl H' a n fs := by
    match i, hx with
    | 0, hx => exact ⟨a1, (Option.some.inj hx).symm, E1.mono S⟩
    | 1, hx => exact ⟨a2, (Option.some.inj hx).symm, E2.mono S⟩
    | i + 2, hx => simp at hx
  obtain ⟨a, rfl, Ea⟩ := hx'
  show tb _ ((σ0.set j y).set j (some (.ref a))) H'
  rw [hset]
  exact turn a H' _ S Ea fun H'' S'' => ⟨S'', _, rfl⟩
def spInputs (K : PySem.W.Frag) : Sp := fun vs H Q _ => ∃ (z : Str) (t : Addr) (ns : List Int) (i : Int), vs = [.str z, .ref t, .int i] ∧ SqT K H t (ns.map V.int) ∧ ∀ H', Same H H' → Q (.bl true) H'
theorem sc__law_inputs_fit : FnScope ["_law_text", "_law_steps", "_law_index", "_law_error"] ["_law_text", "_law_steps", "_law_index"] (defScope s__law_inputs_fit) := ⟨rfl, rfl, rfl, by decide +kernel, rfl, by decide +kernel, by decide +kernel⟩
theorem ok_inputs {f fF : Addr} {fd fdF : FuncData} (F : Fun K "_law_inputs_fit" "_law_inputs_fit" s__law_inputs_fit f fd) (T : Mks P w K mg cl aOp aIn aRun) (Z : Kit K cl aOp aIn aRun) (N : Nof K cl) (GF : FnOk P w K mg base CX0 2 fF fdF ["_law_error", "_law_number"] (spFits cl)) (TF : Fn1 K mg fF fdF "_law_fits" ["_law_error", "_law_number"]) :
    FnOk P w K mg base CX0 3 f fd ["_law_text", "_law_steps", "_law_index"] (spInputs K) := by
  refine F.ok sc__law_inputs_fit (fun vs H Q E h => ?_) (fun cdv A outer s H vs Q E hr h => ?_)
  · obtain ⟨z, t, ns, i, rfl, _⟩ := h
    rfl
  · obtain ⟨z, t, ns, i, rfl, hT, k⟩ := h
    refine ⟨_, (pss_cons (ps_for PassesOwn.never rfl (pi_list (pe_lst (pa_cons (pe_xv T.mk_InvalidProgram hr rfl T.g_InvalidProgram T.k_InvalidProgram (pa_cons (pv 0) (pa_cons (pv 1) pa_nil)) pk_nil) (pa_cons (pe_xv0 T.mk_InvalidProgramk hr rfl T.g_InvalidProgram T.k_InvalidProgram (pk_cons (pv 1) (pk_cons (pv 0) pk_nil))) pa_nil)))) (pg_name (i := 3) sc__law_inputs_fit.nd rfl (.inl rfl)) (pss_one (ps_if (PW.pt (pw_or (pt_not (pt_val (pe_call GF (hr.mono (by decide)) rfl TF.g TF.k TF.b .nil pass0 (pa_cons (pv 3) (pa_cons pe_int pa_nil))))) (pw_or (pt_cmpR op_ne (pe_xat (pv 3)) (pv 0) (nomark _)) (pw_or1 (pt_cmpR (op_neD hr.units) (pe_xat (pv 3)) (pv 1) (nomark _)))))) (pss_one (ps_ret pe_bl)) pss_nil)))
      (pss_cons (ps_for PassesOwn.never rfl (pi_list (pe_lst (pa_cons (pe_xv T.mk_InvalidHistory hr rfl T.g_InvalidHistory T.k_InvalidHistory (pa_cons (pv 2) pa_nil) pk_nil) (pa_cons (pe_xv0 T.mk_InvalidHistoryk hr rfl T.g_InvalidHistory T.k_InvalidHistory (pk_cons (pv 2) pk_nil)) pa_nil)))) (pg_name (i := 3) sc__law_inputs_fit.nd rfl (.inl rfl)) (pss_one (ps_if (PW.pt (pw_or (pt_not (pt_val (pe_call GF (hr.mono (by decide)) rfl TF.g TF.k TF.b .nil pass0 (pa_cons (pv 3) (pa_cons pe_int pa_nil))))) (pw_or1 (pt_cmpR op_ne (pe_xat (pv 3)) (pv 2) (nomark _))))) (pss_one (ps_ret pe_bl)) pss_nil)))
      (pss_cons (ps_for PassesOwn.never rfl (pi_list (pe_lst (pa_cons (pe_xv T.mk_InvalidText hr rfl T.g_InvalidText T.k_InvalidText (pa_cons (pv 2) pa_nil) pk_nil) (pa_cons (pe_xv0 T.mk_InvalidTextk hr rfl T.g_InvalidText T.k_InvalidText (pk_cons (pv 2) pk_nil)) pa_nil)))) (pg_name (i := 3) sc__law_inputs_fit.nd rfl (.inl rfl)) (pss_one (ps_if (PW.pt (pw_or (pt_not (pt_val (pe_call GF (hr.mono (by decide)) rfl TF.g TF.k TF.b .nil pass0 (pa_cons (pv 3) (pa_cons pe_int pa_nil))))) (pw_or1 (pt_cmpR op_ne (pe_xat (pv 3)) (pv 2) (nomark _))))) (pss_one (ps_ret pe_bl)) pss_nil)))
      (pss_cons (ps_for PassesOwn.never rfl (pi_list (pe_lst (pa_cons (pe_xv T.mk_InvalidArgument hr rfl T.g_InvalidArgument T.k_InvalidArgument (pa_cons (pv 0) pa_nil) pk_nil) (pa_cons (pe_xv0 T.mk_InvalidArgumentk hr rfl T.g_InvalidArgument T.k_InvalidArgument (pk_cons (pv 0) pk_nil)) pa_nil)))) (pg_name (i := 3) sc__law_inputs_fit.nd rfl (.inl rfl)) (pss_one (ps_if (PW.pt (pw_or (pt_not (pt_val (pe_call GF (hr.mono (by decide)) rfl TF.g TF.k TF.b .nil pass0 (pa_cons (pv 3) (pa_cons pe_int pa_nil))))) (pw_or1 (pt_cmpR op_ne (pe_xat (pv 3)) (pv 0) (nomark _))))) (pss_one (ps_ret pe_bl)) pss_nil)))
      (pss_cons (ps_for PassesOwn.never rfl (pi_list (pe_lst (pa_cons (pe_xv T.mk_InvalidNote hr rfl T.g_InvalidNote T.k_InvalidNote (pa_cons (pv 2) pa_nil) pk_nil) (pa_cons (pe_xv0 T.mk_InvalidNotek hr rfl T.g_InvalidNote T.k_InvalidNote (pk_cons (pv 2) pk_nil)) pa_nil)))) (pg_name (i := 3) sc__law_inputs_fit.nd rfl (.inl rfl)) (pss_one (ps_if (PW.pt (pw_or (pt_not (pt_val (pe_call GF (hr.mono (by decide)) rfl TF.g TF.k TF.b .nil pass0 (pa_cons (pv 3) (pa_cons pe_int pa_nil))))) (pw_or1 (pt_cmpR op_ne (pe_xat (pv 3)) (pv 2) (nomark _))))) (pss_one (ps_ret pe_bl)) pss_nil)))
      (pss_one (ps_ret pe_bl))))))), ?_⟩
    refine ⟨_, rfl, _, rfl, rfl, rfl, fun a1 d1 n1 m1 e1 => ⟨_, rfl, _, rfl, rfl, rfl, fun a2 d2 n2 m2 e2 => ⟨(by show 2 ≤ sizeLine; rw [sizeLine_eq]; decide), fun l hl => ?_⟩⟩⟩
    obtain ⟨E1, S1⟩ := err_new (cl := cl) (n := 0) (fs := [("path", .ref t), ("part", .str z)]) n1 m1 e1
    obtain ⟨E2, S2⟩ := err_new (cl := cl) (n := 0) (fs := [("path", .ref t), ("part", .str z)]) n2 m2 e2
    have S3 := same_new (o := .lst [.ref a1, .ref a2]) hl
    have T0 : Same H _ := ((S1.trans S2).trans S3)
    refine ⟨l, rfl, ⟨_, .inl (.inl upd_same)⟩, loop2 (n := 0) (j := 3) upd_same (E1.mono (S2.trans S3)) (E2.mono S3) (fun a H' D' S Ea kk => ?_) (k := ?_) (h0 := ⟨_, rfl⟩)⟩
    · exact turn2 (n := 0) (by decide) rfl Ea (fun H'' S'' => ne_scal Z (by decide) rfl rfl (Ea.mono S'') N.p0 rfl rfl) (fun H'' S'' => ne_tup (ns := ns) Z (by decide) rfl rfl (Ea.mono S'') N.q0 rfl (Evl.ex_t (T0.trans (S.trans S'')) hT)) fun H'' S'' => kk H'' (S.trans S'')
    · rintro _ H0 S0' ⟨x0, rfl⟩
      have R0 : Same H H0 := T0.trans S0'
      refine ⟨_, rfl, rfl, rfl, fun a1 d1 n1 m1 e1 => ⟨_, rfl, rfl, rfl, fun a2 d2 n2 m2 e2 => ⟨(by show 2 ≤ sizeLine; rw [sizeLine_eq]; decide), fun l hl => ?_⟩⟩⟩
      obtain ⟨E1, S1⟩ := err_new (cl := cl) (n := 1) (fs := [("at", .int i)]) n1 m1 e1
      obtain ⟨E2, S2⟩ := err_new (cl := cl) (n := 1) (fs := [("at", .int i)]) n2 m2 e2
      have S3 := same_new (o := .lst [.ref a1, .ref a2]) hl
      have T1 : Same H _ := R0.trans ((S1.trans S2).trans S3)
      refine ⟨l, rfl, ⟨_, .inl (.inl upd_same)⟩, loop2 (n := 1) (j := 3) upd_same (E1.mono (S2.trans S3)) (E2.mono S3) (fun a H' D' S Ea kk => ?_) (k := ?_) (h0 := ⟨_, rfl⟩)⟩
      · exact turn1 (n := 1) (by decide) rfl Ea (fun H'' S'' => ne_scal Z (by decide) rfl rfl (Ea.mono S'') N.p1 rfl rfl) fun H'' S'' => kk H'' (S.trans S'')
      · rintro _ H1 S1' ⟨x1, rfl⟩
        have R1 : Same H H1 := T1.trans S1'
        refine ⟨_, rfl, rfl, rfl, fun a1 d1 n1 m1 e1 => ⟨_, rfl, rfl, rfl, fun a2 d2 n2 m2 e2 => ⟨(by show 2 ≤ sizeLine; rw [sizeLine_eq]; decide), fun l hl => ?_⟩⟩⟩
        obtain ⟨E1, S1⟩ := err_new (cl := cl) (n := 2) (fs := [("line", .int i)]) n1 m1 e1
        obtain ⟨E2, S2⟩ := err_new (cl := cl) (n := 2) (fs := [("line", .int i)]) n2 m2 e2
        have S3 := same_new (o := .lst [.ref a1, .ref a2]) hl
        have T2 : Same H _ := R1.trans ((S1.trans S2).trans S3)
        refine ⟨l, rfl, ⟨_, .inl (.inl upd_same)⟩, loop2 (n := 2) (j := 3) upd_same (E1.mono (S2.trans S3)) (E2.mono S3) (fun a H' D' S Ea kk => ?_) (k := ?_) (h0 := ⟨_, rfl⟩)⟩
        · exact turn1 (n := 2) (by decide) rfl Ea (fun H'' S'' => ne_scal Z (by decide) rfl rfl (Ea.mono S'') N.p2 rfl rfl) fun H'' S'' => kk H'' (S.trans S'')
        · rintro _ H2 S2' ⟨x2, rfl⟩
          have R2 : Same H H2 := T2.trans S2'
          refine ⟨_, rfl, rfl, rfl, fun a1 d1 n1 m1 e1 => ⟨_, rfl, rfl, rfl, fun a2 d2 n2 m2 e2 => ⟨(by show 2 ≤ sizeLine; rw [sizeLine_eq]; decide), fun l hl => ?_⟩⟩⟩
          obtain ⟨E1, S1⟩ := err_new (cl := cl) (n := 3) (fs := [("part", .str z)]) n1 m1 e1
          obtain ⟨E2, S2⟩ := err_new (cl := cl) (n := 3) (fs := [("part", .str z)]) n2 m2 e2
          have S3 := same_new (o := .lst [.ref a1, .ref a2]) hl
          have T3 : Same H _ := R2.trans ((S1.trans S2).trans S3)
          refine ⟨l, rfl, ⟨_, .inl (.inl upd_same)⟩, loop2 (n := 3) (j := 3) upd_same (E1.mono (S2.trans S3)) (E2.mono S3) (fun a H' D' S Ea kk => ?_) (k := ?_) (h0 := ⟨_, rfl⟩)⟩
          · exact turn1 (n := 3) (by decide) rfl Ea (fun H'' S'' => ne_scal Z (by decide) rfl rfl (Ea.mono S'') N.p3 rfl rfl) fun H'' S'' => kk H'' (S.trans S'')
          · rintro _ H3 S3' ⟨x3, rfl⟩
            have R3 : Same H H3 := T3.trans S3'
            refine ⟨_, rfl, rfl, rfl, fun a1 d1 n1 m1 e1 => ⟨_, rfl, rfl, rfl, fun a2 d2 n2 m2 e2 => ⟨(by show 2 ≤ sizeLine; rw [sizeLine_eq]; decide), fun l hl => ?_⟩⟩⟩
            obtain ⟨E1, S1⟩ := err_new (cl := cl) (n := 4) (fs := [("at", .int i)]) n1 m1 e1
            obtain ⟨E2, S2⟩ := err_new (cl := cl) (n := 4) (fs := [("at", .int i)]) n2 m2 e2
            have S3 := same_new (o := .lst [.ref a1, .ref a2]) hl
            have T4 : Same H _ := R3.trans ((S1.trans S2).trans S3)
            refine ⟨l, rfl, ⟨_, .inl (.inl upd_same)⟩, loop2 (n := 4) (j := 3) upd_same (E1.mono (S2.trans S3)) (E2.mono S3) (fun a H' D' S Ea kk => ?_) (k := ?_) (h0 := ⟨_, rfl⟩)⟩
            · exact turn1 (n := 4) (by decide) rfl Ea (fun H'' S'' => ne_scal Z (by decide) rfl rfl (Ea.mono S'') N.p4 rfl rfl) fun H'' S'' => kk H'' (S.trans S'')
            · rintro _ H4 S4' ⟨x4, rfl⟩
              have R4 : Same H H4 := T4.trans S4'
              exact k _ R4
end
end K84
namespace K84
open PySem L2 PyProof.Rows PySem.XL
section
variable {P : Program} {w : World} {K : PySem.W.Frag} {mg : Str → Option Value} {base : Heap} {cl : Nat → Addr} {aOp aIn aRun : Addr}
def spLaw (K : PySem.W.Frag) : Sp := fun vs H Q _ => ∃ (a : Addr) (ns : List Int), vs = [.ref a] ∧ SqL K H a (ns.map V.int) ∧ ns.length ≤ 63 ∧ ∀ H', Q (.bl true) H'
theorem texts_at {r : Int} (h0 : 0 ≤ r) (h1 : r < 6) : ∃ z : Str, atI [V.str "rows", .str "asks", .str "free", .str "long", .str "other", .str "zz"] r = some (.str z) := by
  obtain ⟨j, rfl⟩ := Int.eq_ofNat_of_zero_le h0
  have hj : j < 6 := by omega
  match j, hj with
  | 0, _ => exact ⟨_, atI_nat (j := 0) rfl⟩
  | 1, _ => exact ⟨_, atI_nat (j := 1) rfl⟩
  | 2, _ => exact ⟨_, atI_nat (j := 2) rfl⟩
  | 3, _ => exact ⟨_, atI_nat (j := 3) rfl⟩
  | 4, _ => exact ⟨_, atI_nat (j := 4) rfl⟩
  | 5, _ => exact ⟨_, atI_nat (j := 5) rfl⟩
theorem sc_law : FnScope ["_law_script", "_law_pool_here", "_law_text", "_law_steps", "_law_index", "_law_error", "_law_count"] ["_law_script"] (defScope s_law) := ⟨rfl, rfl, rfl, by decide +kernel, rfl, by decide +kernel, by decide +kernel⟩
theorem ok_law {f fP fD fF fI : Addr} {fd fdP fdD fdF fdI : FuncData} (F : Fun K "law" "law" s_law f fd) (T : Mks P w K mg cl aOp aIn aRun) (Z : Kit K cl aOp aIn aRun) (N : Nof K cl)
    (GP : FnOk P w K mg base CX0 1 fP fdP ["_law_script", "_law_number"] (spPool K)) (TP : Fn1 K mg fP fdP "_law_pool" ["_law_script", "_law_number"])
    (GD : FnOk P w K mg base CX0 1 fD fdD ["_law_pool_here", "_law_many"] spDraw) (TD : Fn1 K mg fD fdD "_law_draw" ["_law_pool_here", "_law_many"])
    (GF : FnOk P w K mg base CX0 2 fF fdF ["_law_error", "_law_number"] (spFits cl)) (TF : Fn1 K mg fF fdF "_law_fits" ["_law_error", "_law_number"])
    (GI : FnOk P w K mg base CX0 3 fI fdI ["_law_text", "_law_steps", "_law_index"] (spInputs K)) (TI : Fn1 K mg fI fdI "_law_inputs_fit" ["_law_text", "_law_steps", "_law_index"]) :
    FnOk P w K mg base CX0 4 f fd ["_law_script"] (spLaw K) := by
  refine F.ok sc_law (fun vs H Q E h => ?_) (fun cdv A outer s H vs Q E hr h => ?_)
  · obtain ⟨a, ns, rfl, _⟩ := h
    rfl
  · obtain ⟨a, ns0, rfl, hS, hlen, k⟩ := h
    refine ⟨_, (pss_cons (ps_set (i := 1) sc_law.nd rfl (.inr rfl) (pe_call GP (hr.mono (by decide)) rfl TP.g TP.k TP.b .nil pass0 (pa_cons (pv 0) (pa_cons pe_int pa_nil))))
      (pss_cons (ps_set (i := 2) sc_law.nd rfl (.inl rfl) (pe_ix ix_list (pe_lst (pa_cons pe_str (pa_cons pe_str (pa_cons pe_str (pa_cons pe_str (pa_cons pe_str (pa_cons pe_str pa_nil))))))) (pe_call GD (hr.mono (by decide)) rfl TD.g TD.k TD.b .nil pass0 (pa_cons (pv 1) (pa_cons pe_int pa_nil))) (fun _ _ => rfl)))
      (pss_cons (ps_set (i := 3) sc_law.nd rfl (.inl rfl) (pe_callTy call_tuple_of (by rfl) T.b_tuple (by decide +kernel) (pa_cons (pe_lc (own := [("_law_count", 6)]) (g := gName 6) (tt := tYes) rfl sc_law.nd (pi_range1 (by rfl) T.b_range (pa_cons (pe_op op_add pe_int (pe_op op_mul pe_int (pe_call GD (hr.mono (by decide)) rfl TD.g TD.k TD.b .nil pass0 (pa_cons (pv 1) (pa_cons pe_int pa_nil))))) pa_nil)) (blkOk_by (own := [("_law_count", 6)]) (N := ["_law_script", "_law_pool_here", "_law_text", "_law_steps", "_law_index", "_law_error", "_law_count"]) (sc := defScope s_law) (by decide +kernel)) (fun _ _ _ _ _ => (pg_name (i := 6) sc_law.nd rfl (.inl rfl))) (fun _ _ _ _ _ => pts_nil) (fun _ _ _ _ _ => (pe_call GD (hr.mono (by decide)) rfl TD.g TD.k TD.b .nil pass0 (pa_cons (pv 1) (pa_cons pe_int pa_nil))))) pa_nil)))
      (pss_cons (ps_set (i := 4) sc_law.nd rfl (.inl rfl) (pe_op op_sub (pe_call GD (hr.mono (by decide)) rfl TD.g TD.k TD.b .nil pass0 (pa_cons (pv 1) (pa_cons pe_int pa_nil))) pe_int))
      (pss_cons (ps_if (pt_not (pt_val (pe_call GI (hr.mono (by decide)) rfl TI.g TI.k TI.b .nil pass0 (pa_cons (pv 2) (pa_cons (pv 3) (pa_cons (pv 4) pa_nil)))))) (pss_one (ps_ret pe_bl)) pss_nil)
      (pss_cons (ps_for PassesOwn.never rfl (pi_list (pe_lst (pa_cons (pe_xv T.mk_Falls hr rfl T.g_Falls T.k_Falls (pa_cons (pv 2) (pa_cons (pv 3) pa_nil)) pk_nil) (pa_cons (pe_xv0 T.mk_Fallsk hr rfl T.g_Falls T.k_Falls (pk_cons (pv 3) (pk_cons (pv 2) pk_nil))) pa_nil)))) (pg_name (i := 5) sc_law.nd rfl (.inl rfl)) (pss_one (ps_if (PW.pt (pw_or (pt_not (pt_val (pe_call GF (hr.mono (by decide)) rfl TF.g TF.k TF.b .nil pass0 (pa_cons (pv 5) (pa_cons pe_int pa_nil))))) (pw_or (pt_cmpR op_ne (pe_xat (pv 5)) (pv 2) (nomark _)) (pw_or1 (pt_cmpR (op_neD hr.units) (pe_xat (pv 5)) (pv 3) (nomark _)))))) (pss_one (ps_ret pe_bl)) pss_nil)))
      (pss_cons (ps_for PassesOwn.never rfl (pi_list (pe_lst (pa_cons (pe_xv T.mk_Breaks hr rfl T.g_Breaks T.k_Breaks (pa_cons (pv 4) (pa_cons (pv 2) pa_nil)) pk_nil) (pa_cons (pe_xv0 T.mk_Breaksk hr rfl T.g_Breaks T.k_Breaks (pk_cons (pv 2) (pk_cons (pv 4) pk_nil))) pa_nil)))) (pg_name (i := 5) sc_law.nd rfl (.inl rfl)) (pss_one (ps_if (PW.pt (pw_or (pt_not (pt_val (pe_call GF (hr.mono (by decide)) rfl TF.g TF.k TF.b .nil pass0 (pa_cons (pv 5) (pa_cons pe_int pa_nil))))) (pw_or (pt_cmpR op_ne (pe_xat (pv 5)) (pv 2) (nomark _)) (pw_or1 (pt_cmpR op_ne (pe_xat (pv 5)) (pv 4) (nomark _)))))) (pss_one (ps_ret pe_bl)) pss_nil)))
      (pss_cons (ps_for PassesOwn.never rfl (pi_list (pe_lst (pa_cons (pe_xv T.mk_NoRun hr rfl T.g_NoRun T.k_NoRun (pa_cons (pv 2) pa_nil) pk_nil) (pa_cons (pe_xv0 T.mk_NoRunk hr rfl T.g_NoRun T.k_NoRun (pk_cons (pv 2) pk_nil)) pa_nil)))) (pg_name (i := 5) sc_law.nd rfl (.inl rfl)) (pss_one (ps_if (PW.pt (pw_or (pt_not (pt_val (pe_call GF (hr.mono (by decide)) rfl TF.g TF.k TF.b .nil pass0 (pa_cons (pv 5) (pa_cons pe_int pa_nil))))) (pw_or1 (pt_cmpR op_ne (pe_xat (pv 5)) (pv 2) (nomark _))))) (pss_one (ps_ret pe_bl)) pss_nil)))
      (pss_cons (ps_for PassesOwn.never rfl (pi_list (pe_lst (pa_cons (pe_xv T.mk_Taken hr rfl T.g_Taken T.k_Taken (pa_cons (pv 2) pa_nil) pk_nil) (pa_cons (pe_xv0 T.mk_Takenk hr rfl T.g_Taken T.k_Taken (pk_cons (pv 2) pk_nil)) pa_nil)))) (pg_name (i := 5) sc_law.nd rfl (.inl rfl)) (pss_one (ps_if (PW.pt (pw_or (pt_not (pt_val (pe_call GF (hr.mono (by decide)) rfl TF.g TF.k TF.b .nil pass0 (pa_cons (pv 5) (pa_cons pe_int pa_nil))))) (pw_or1 (pt_cmpR op_ne (pe_xat (pv 5)) (pv 2) (nomark _))))) (pss_one (ps_ret pe_bl)) pss_nil)))
      (pss_cons (ps_set (i := 5) sc_law.nd rfl (.inl rfl) (pe_xv0 T.mk_LimitExceededk hr rfl T.g_LimitExceeded T.k_LimitExceeded (pk_cons (pv 4) pk_nil)))
      (pss_one (ps_ret (pe_and (pe_call GF (hr.mono (by decide)) rfl TF.g TF.k TF.b .nil pass0 (pa_cons (pv 5) (pa_cons pe_int pa_nil))) (pe_and (pe_cmpR op_eq (pe_xat (pv 5)) (pv 4) (nomark _)) (pe_one (pe_cmpR op_eq (pe_xat (pe_xv T.mk_LimitExceeded hr rfl T.g_LimitExceeded T.k_LimitExceeded (pa_cons (pe_op op_add (pv 4) pe_int) pa_nil) pk_nil)) (pe_op op_add (pv 4) pe_int) (nomark _))))))))))))))))), ?_⟩
    refine ⟨_, rfl, a, ns0, rfl, hS, hlen, fun p b sd c hp hb => ?_⟩
    refine ⟨(by show 6 ≤ sizeLine; rw [sizeLine_eq]; decide), fun l0 hl0 => ?_⟩
    have hp1 : upd (upd H p (pool b sd c)) l0 (.lst [V.str "rows", .str "asks", .str "free", .str "long", .str "other", .str "zz"]) p = some (pool b sd c) := by rw [upd_ne (ne_of_none upd_same hl0), upd_same]
    refine ⟨_, rfl, p, 6, b, sd, c, rfl, hp1, hb, by decide, by decide, fun r b1 c1 r0 r1 hb1 => ?_⟩
    obtain ⟨z, hz⟩ := texts_at r0 r1
    refine ⟨l0, _, _, _, rfl, rfl, .inl (.inl (by rw [upd_ne (ne_of_none upd_same hl0).symm, upd_same])), hz, ?_⟩
    refine ⟨_, rfl, p, 5, b1, sd, c1, rfl, upd_same, hb1, by decide, by decide, fun r2 b2 c2 r20 r21 hb2 => ?_⟩
    refine ⟨_, _, rfl, rfl, .inl ⟨by decide, by decide⟩, _, _, rfl, rfl, 1 + 2 * r2, rfl, by omega, by omega, fun D hD => ?_⟩
    refine lc_range (lo := 0) (n := (1 + 2 * r2).toNat) (fun i H' => ∃ (ns : List Int) (b c : Int), ns.length = i ∧ i ≤ 9 ∧ H' D = some (.lst (ns.map V.int)) ∧ H' p = some (pool b sd c) ∧ 0 ≤ b) ⟨[], b2, c2, rfl, by decide, upd_same, by rw [upd_ne (ne_of_none upd_same hD), upd_same], hb2⟩ ?_ ?_
    · rintro j H' hj ⟨ns, b3, c3, hl, hj9, hL, hP, hb3⟩
      have hpD : p ≠ D := ne_of hP hL (by intro z; cases z)
      refine ⟨rfl, ?_⟩
      refine ⟨_, rfl, p, 60, b3, sd, c3, rfl, hP, hb3, by decide, by decide, fun r4 b4 c4 r40 r41 hb4 => ?_⟩
      refine ⟨ns.map V.int, by rw [upd_ne hpD.symm]; exact hL, by rw [List.length_map, sizeLine_eq]; omega, ns ++ [r4], b4, c4, by simp [hl], by omega, by rw [upd_same, List.map_append]; rfl, by rw [upd_ne hpD, upd_same], hb4⟩
    · rintro H1 ⟨ns, b3, c3, hl, hj9, hL, hP, hb3⟩
      refine ⟨D, _, rfl, .inl ⟨.inl (.inl hL), fun t ht => ?_⟩⟩
      have hP2 : upd H1 t (.tup (ns.map V.int)) p = some (pool b3 sd c3) := by rw [upd_ne (ne_of_none hP ht)]; exact hP
      refine ⟨_, rfl, p, 20000, b3, sd, c3, rfl, hP2, hb3, by decide, by decide, fun r5 b5 c5 r50 r51 hb5 => ?_⟩
      refine ⟨_, _, rfl, rfl, ?_⟩
      have htp : t ≠ p := (ne_of_none hP ht).symm
      have hT0 : SqT K (upd (upd H1 t (.tup (ns.map V.int))) p (pool b5 sd c5)) t (ns.map V.int) := .inl (.inl (by rw [upd_ne htp, upd_same]))
      generalize upd (upd H1 t (.tup (ns.map V.int))) p (pool b5 sd c5) = H3 at hT0
      refine ⟨_, rfl, _, rfl, _, rfl, z, t, ns, r5 - 1, rfl, hT0, fun H0 S0 => ⟨true, rfl, if_false_of rfl ?_⟩⟩
      have hT := Evl.ex_t S0 hT0
      refine ⟨_, rfl, _, rfl, rfl, rfl, fun a1 d1 n1 m1 e1 => ⟨_, rfl, _, rfl, rfl, rfl, fun a2 d2 n2 m2 e2 => ⟨(by show 2 ≤ sizeLine; rw [sizeLine_eq]; decide), fun l hl => ?_⟩⟩⟩
      obtain ⟨E1, S1⟩ := err_new (cl := cl) (n := 5) (fs := [("path", .ref t), ("word", .str z)]) n1 m1 e1
      obtain ⟨E2, S2⟩ := err_new (cl := cl) (n := 5) (fs := [("path", .ref t), ("word", .str z)]) n2 m2 e2
      have S3 := same_new (o := .lst [.ref a1, .ref a2]) hl
      have T5 : Same H0 _ := ((S1.trans S2).trans S3)
      refine ⟨l, rfl, ⟨_, .inl (.inl upd_same)⟩, loop2 (n := 5) (j := 5) upd_same (E1.mono (S2.trans S3)) (E2.mono S3) (fun a H' D' S Ea kk => ?_) (k := ?_) (h0 := ⟨_, rfl⟩)⟩
      · exact turn2 (n := 5) (by decide) rfl Ea (fun H'' S'' => ne_scal Z (by decide) rfl rfl (Ea.mono S'') N.p5 rfl rfl) (fun H'' S'' => ne_tup (ns := ns) Z (by decide) rfl rfl (Ea.mono S'') N.q5 rfl (Evl.ex_t (T5.trans (S.trans S'')) hT)) fun H'' S'' => kk H'' (S.trans S'')
      · rintro _ H5 S5' ⟨x5, rfl⟩
        have R5 : Same H0 H5 := T5.trans S5'
        refine ⟨_, rfl, _, rfl, rfl, rfl, fun a1 d1 n1 m1 e1 => ⟨_, rfl, _, rfl, rfl, rfl, fun a2 d2 n2 m2 e2 => ⟨(by show 2 ≤ sizeLine; rw [sizeLine_eq]; decide), fun l hl => ?_⟩⟩⟩
        obtain ⟨E1, S1⟩ := err_new (cl := cl) (n := 6) (fs := [("word", .str z), ("at", .int (r5 - 1))]) n1 m1 e1
        obtain ⟨E2, S2⟩ := err_new (cl := cl) (n := 6) (fs := [("word", .str z), ("at", .int (r5 - 1))]) n2 m2 e2
        have S3 := same_new (o := .lst [.ref a1, .ref a2]) hl
        have T6 : Same H0 _ := R5.trans ((S1.trans S2).trans S3)
        refine ⟨l, rfl, ⟨_, .inl (.inl upd_same)⟩, loop2 (n := 6) (j := 5) upd_same (E1.mono (S2.trans S3)) (E2.mono S3) (fun a H' D' S Ea kk => ?_) (k := ?_) (h0 := ⟨_, rfl⟩)⟩
        · exact turn2 (n := 6) (by decide) rfl Ea (fun H'' S'' => ne_scal Z (by decide) rfl rfl (Ea.mono S'') N.q6 rfl rfl) (fun H'' S'' => ne_scal Z (by decide) rfl rfl (Ea.mono S'') N.p6 rfl rfl) fun H'' S'' => kk H'' (S.trans S'')
        · rintro _ H6 S6' ⟨x6, rfl⟩
          have R6 : Same H0 H6 := T6.trans S6'
          refine ⟨_, rfl, rfl, rfl, fun a1 d1 n1 m1 e1 => ⟨_, rfl, rfl, rfl, fun a2 d2 n2 m2 e2 => ⟨(by show 2 ≤ sizeLine; rw [sizeLine_eq]; decide), fun l hl => ?_⟩⟩⟩
          obtain ⟨E1, S1⟩ := err_new (cl := cl) (n := 7) (fs := [("name", .str z)]) n1 m1 e1
          obtain ⟨E2, S2⟩ := err_new (cl := cl) (n := 7) (fs := [("name", .str z)]) n2 m2 e2
          have S3 := same_new (o := .lst [.ref a1, .ref a2]) hl
          have T7 : Same H0 _ := R6.trans ((S1.trans S2).trans S3)
          refine ⟨l, rfl, ⟨_, .inl (.inl upd_same)⟩, loop2 (n := 7) (j := 5) upd_same (E1.mono (S2.trans S3)) (E2.mono S3) (fun a H' D' S Ea kk => ?_) (k := ?_) (h0 := ⟨_, rfl⟩)⟩
          · exact turn1 (n := 7) (by decide) rfl Ea (fun H'' S'' => ne_scal Z (by decide) rfl rfl (Ea.mono S'') N.p7 rfl rfl) fun H'' S'' => kk H'' (S.trans S'')
          · rintro _ H7 S7' ⟨x7, rfl⟩
            have R7 : Same H0 H7 := T7.trans S7'
            refine ⟨_, rfl, rfl, rfl, fun a1 d1 n1 m1 e1 => ⟨_, rfl, rfl, rfl, fun a2 d2 n2 m2 e2 => ⟨(by show 2 ≤ sizeLine; rw [sizeLine_eq]; decide), fun l hl => ?_⟩⟩⟩
            obtain ⟨E1, S1⟩ := err_new (cl := cl) (n := 8) (fs := [("name", .str z)]) n1 m1 e1
            obtain ⟨E2, S2⟩ := err_new (cl := cl) (n := 8) (fs := [("name", .str z)]) n2 m2 e2
            have S3 := same_new (o := .lst [.ref a1, .ref a2]) hl
            have T8 : Same H0 _ := R7.trans ((S1.trans S2).trans S3)
            refine ⟨l, rfl, ⟨_, .inl (.inl upd_same)⟩, loop2 (n := 8) (j := 5) upd_same (E1.mono (S2.trans S3)) (E2.mono S3) (fun a H' D' S Ea kk => ?_) (k := ?_) (h0 := ⟨_, rfl⟩)⟩
            · exact turn1 (n := 8) (by decide) rfl Ea (fun H'' S'' => ne_scal Z (by decide) rfl rfl (Ea.mono S'') N.p8 rfl rfl) fun H'' S'' => kk H'' (S.trans S'')
            · rintro _ H8 S8' ⟨x8, rfl⟩
              have R8 : Same H0 H8 := T8.trans S8'
              refine ⟨_, rfl, rfl, rfl, fun a1 d1 n1 m1 e1 => ?_⟩
              obtain ⟨E1, S1⟩ := err_new (cl := cl) (n := 9) (fs := [("limit", .int (r5 - 1))]) n1 m1 e1
              refine ⟨_, rfl, a1, 9, _, rfl, by decide, E1, fun H9 S9 => ⟨true, rfl, if_true_of rfl ?_⟩⟩
              obtain ⟨d, ha, hd⟩ := E1.mono S9
              refine ⟨_, rfl, a1, _, d, _, _, rfl, ha, hd, Z.ask 9 (by decide), N.p9, rfl, _, rfl, rfl, true, by simp, if_true_of rfl ?_⟩
              refine ⟨_, rfl, _, _, rfl, rfl, rfl, rfl, fun a2 d2 n2 m2 e2 => ?_⟩
              refine ⟨a2, _, d2, _, _, rfl, upd_same, by rw [upd_ne e2, upd_same], Z.ask 9 (by decide), N.p9, rfl, _, rfl, _, _, rfl, rfl, rfl, ?_⟩
              show Q (.bl (decide (V.int (r5 - 1 + 1) = V.int (r5 - 1 + 1)))) _
              rw [decide_eq_true rfl]
              exact k _

end
end K84
namespace K84
open PySem L2 PyProof.Rows PySem.XL
theorem kit_ref {K : PySem.W.Frag} {C D : Addr} {b : Bool} (hself : PySem.W.subIn K (.ref C) (.ref C) = some true) (ht : PySem.W.typeIn K (.ref D) = some (.type "type")) (hi : PySem.W.isClsIn K D = true) (hs : PySem.W.subIn K (.ref C) (.ref D) = some b) : PySem.W.kitOne K (.ref C) (.ref D) = some b := by
  unfold PySem.W.kitOne
  by_cases e : (Value.ref C == Value.ref D) = true
  · rw [if_pos e]
    have e' : C = D := Value.ref.inj (beq_iff_eq.mp e)
    subst e'
    exact hself.symm.trans hs
  · rw [if_neg e]
    have hi' : (PySem.W.clsIn K D).isSome = true := hi
    show (if ((PySem.W.clsIn K D).isSome && PySem.W.typeIn K (.ref D) == some (.type "type")) = true then PySem.W.subIn K (.ref C) (.ref D) else none) = some b
    rw [hi', ht, if_pos (by simp)]
    exact hs
theorem kit_type {K : PySem.W.Frag} {C : Addr} {T : String} {b : Bool} (hm : PySem.W.kitMeta T = true) (hs : PySem.W.subIn K (.ref C) (.type T) = some b) : PySem.W.kitOne K (.ref C) (.type T) = some b := by
  unfold PySem.W.kitOne
  rw [if_neg (by simp)]
  show (if PySem.W.kitMeta T = true then PySem.W.subIn K (.ref C) (.type T) else none) = some b
  rw [if_pos hm]
  exact hs
abbrev PP : Program := PySem.Challenge.pw_openruns_k84_errors_made_by_name
theorem all_mk {w : World} {K : PySem.W.Frag} {h : Heap} {mg : Str → Option Value} {fa aOp aIn aRun C0 C1 C2 C3 C4 C5 C6 C7 C8 C9 f0 f1 f2 f3 f4 f5 f6 f7 f8 f9 g0 g1 g2 g3 g4 g5 : Addr} (X : K.In h) (G : h.Ns mainGlobals mg) (hfa : mg "law" = some (.ref fa))
    {nm0 q0 : Str} {N0 : Addr} {bs0 : List Value} {sn0 : List Str} {sub0 : List Value} {ab0 : Bool} {col0 : Option Bool} {dd0 : Option Addr} {ka0 kb0 kc0 kd0 ke0 : Option Value}
    {oc0 kV0 dc0 pm0 ct0 ccl0 cll0 : Value} {od0 an0 cdd0 cld0 : Option Addr} {cd0 cc0 : Addr} {sl0 ccs0 csl0 : Array (Option Value)} {vs0 : Array Value} {fl0 : Str} {tf0 : Tok}
    {nm1 q1 : Str} {N1 : Addr} {bs1 : List Value} {sn1 : List Str} {sub1 : List Value} {ab1 : Bool} {col1 : Option Bool} {dd1 : Option Addr} {ka1 kb1 kc1 kd1 ke1 : Option Value}
    {oc1 kV1 dc1 pm1 ct1 ccl1 cll1 : Value} {od1 an1 cdd1 cld1 : Option Addr} {cd1 cc1 : Addr} {sl1 ccs1 csl1 : Array (Option Value)} {vs1 : Array Value} {fl1 : Str} {tf1 : Tok}
    {nm2 q2 : Str} {N2 : Addr} {bs2 : List Value} {sn2 : List Str} {sub2 : List Value} {ab2 : Bool} {col2 : Option Bool} {dd2 : Option Addr} {ka2 kb2 kc2 kd2 ke2 : Option Value}
    {oc2 kV2 dc2 pm2 ct2 ccl2 cll2 : Value} {od2 an2 cdd2 cld2 : Option Addr} {cd2 cc2 : Addr} {sl2 ccs2 csl2 : Array (Option Value)} {vs2 : Array Value} {fl2 : Str} {tf2 : Tok}
    {nm3 q3 : Str} {N3 : Addr} {bs3 : List Value} {sn3 : List Str} {sub3 : List Value} {ab3 : Bool} {col3 : Option Bool} {dd3 : Option Addr} {ka3 kb3 kc3 kd3 ke3 : Option Value}
    {oc3 kV3 dc3 pm3 ct3 ccl3 cll3 : Value} {od3 an3 cdd3 cld3 : Option Addr} {cd3 cc3 : Addr} {sl3 ccs3 csl3 : Array (Option Value)} {vs3 : Array Value} {fl3 : Str} {tf3 : Tok}
    {nm4 q4 : Str} {N4 : Addr} {bs4 : List Value} {sn4 : List Str} {sub4 : List Value} {ab4 : Bool} {col4 : Option Bool} {dd4 : Option Addr} {ka4 kb4 kc4 kd4 ke4 : Option Value}
    {oc4 kV4 dc4 pm4 ct4 ccl4 cll4 : Value} {od4 an4 cdd4 cld4 : Option Addr} {cd4 cc4 : Addr} {sl4 ccs4 csl4 : Array (Option Value)} {vs4 : Array Value} {fl4 : Str} {tf4 : Tok}
    {nm5 q5 : Str} {N5 : Addr} {bs5 : List Value} {sn5 : List Str} {sub5 : List Value} {ab5 : Bool} {col5 : Option Bool} {dd5 : Option Addr} {ka5 kb5 kc5 kd5 ke5 : Option Value}
    {oc5 kV5 dc5 pm5 ct5 ccl5 cll5 : Value} {od5 an5 cdd5 cld5 : Option Addr} {cd5 cc5 : Addr} {sl5 ccs5 csl5 : Array (Option Value)} {vs5 : Array Value} {fl5 : Str} {tf5 : Tok}
    {nm6 q6 : Str} {N6 : Addr} {bs6 : List Value} {sn6 : List Str} {sub6 : List Value} {ab6 : Bool} {col6 : Option Bool} {dd6 : Option Addr} {ka6 kb6 kc6 kd6 ke6 : Option Value}
    {oc6 kV6 dc6 pm6 ct6 ccl6 cll6 : Value} {od6 an6 cdd6 cld6 : Option Addr} {cd6 cc6 : Addr} {sl6 ccs6 csl6 : Array (Option Value)} {vs6 : Array Value} {fl6 : Str} {tf6 : Tok}
    {nm7 q7 : Str} {N7 : Addr} {bs7 : List Value} {sn7 : List Str} {sub7 : List Value} {ab7 : Bool} {col7 : Option Bool} {dd7 : Option Addr} {ka7 kb7 kc7 kd7 ke7 : Option Value}
    {oc7 kV7 dc7 pm7 ct7 ccl7 cll7 : Value} {od7 an7 cdd7 cld7 : Option Addr} {cd7 cc7 : Addr} {sl7 ccs7 csl7 : Array (Option Value)} {vs7 : Array Value} {fl7 : Str} {tf7 : Tok}
    {nm8 q8 : Str} {N8 : Addr} {bs8 : List Value} {sn8 : List Str} {sub8 : List Value} {ab8 : Bool} {col8 : Option Bool} {dd8 : Option Addr} {ka8 kb8 kc8 kd8 ke8 : Option Value}
    {oc8 kV8 dc8 pm8 ct8 ccl8 cll8 : Value} {od8 an8 cdd8 cld8 : Option Addr} {cd8 cc8 : Addr} {sl8 ccs8 csl8 : Array (Option Value)} {vs8 : Array Value} {fl8 : Str} {tf8 : Tok}
    {nm9 q9 : Str} {N9 : Addr} {bs9 : List Value} {sn9 : List Str} {sub9 : List Value} {ab9 : Bool} {col9 : Option Bool} {dd9 : Option Addr} {ka9 kb9 kc9 kd9 ke9 : Option Value}
    {oc9 kV9 dc9 pm9 ct9 ccl9 cll9 : Value} {od9 an9 cdd9 cld9 : Option Addr} {cd9 cc9 : Addr} {sl9 ccs9 csl9 : Array (Option Value)} {vs9 : Array Value} {fl9 : Str} {tf9 : Tok}
    {xo0 xk0 xc0 xp0 xe0 xt0 : Value} {xd0 xa0 : Option Addr} {xs0 : Array (Option Value)}
    {xo1 xk1 xc1 xp1 xe1 xt1 : Value} {xd1 xa1 : Option Addr} {xs1 : Array (Option Value)}
    {xo2 xk2 xc2 xp2 xe2 xt2 : Value} {xd2 xa2 : Option Addr} {xs2 : Array (Option Value)}
    {xo3 xk3 xc3 xp3 xe3 xt3 : Value} {xd3 xa3 : Option Addr} {xs3 : Array (Option Value)}
    {xo4 xk4 xc4 xp4 xe4 xt4 : Value} {xd4 xa4 : Option Addr} {xs4 : Array (Option Value)}
    {xo5 xk5 xc5 xp5 xe5 xt5 : Value} {xd5 xa5 : Option Addr} {xs5 : Array (Option Value)}
    (aO : PySem.W.nsIn K mainGlobals "OpenError" = some (some (.ref aOp)))
    (aI : PySem.W.nsIn K mainGlobals "InputError" = some (some (.ref aIn)))
    (aR : PySem.W.nsIn K mainGlobals "RunError" = some (some (.ref aRun)))
    (tOp : PySem.W.typeIn K (.ref aOp) = some (.type "type"))
    (iOp : PySem.W.isClsIn K aOp = true)
    (tIn : PySem.W.typeIn K (.ref aIn) = some (.type "type"))
    (iIn : PySem.W.isClsIn K aIn = true)
    (tRun : PySem.W.typeIn K (.ref aRun) = some (.type "type"))
    (iRun : PySem.W.isClsIn K aRun = true)
    (opq : PySem.W.nsIn K cStatics "thirdparty.any" = some none)
    (sg : PySem.W.nsIn K mainGlobals "super" = some none)
    (hn : PySem.W.specialIn K (.builtin "object.__class__") "__get__" = some (some (.builtin "getset_descriptor.__get__")))
    (ht : PySem.W.takesIn K (.builtin "object.__class__") = some true)
    (z_len : PySem.W.nsIn K mainGlobals "len" = some none)
    (z_int : PySem.W.nsIn K mainGlobals "int" = some none)
    (z_range : PySem.W.nsIn K mainGlobals "range" = some none)
    (z_tuple : PySem.W.nsIn K mainGlobals "tuple" = some none)
    (z_isinstance : PySem.W.nsIn K mainGlobals "isinstance" = some none)
    (z_LookupError : PySem.W.nsIn K mainGlobals "LookupError" = some none)
    (z_ValueError : PySem.W.nsIn K mainGlobals "ValueError" = some none)
    (z_KeyError : PySem.W.nsIn K mainGlobals "KeyError" = some none)
    (a0 : PySem.W.nsIn K mainGlobals "InvalidProgram" = some (some (.ref C0)))
    (l0 : K.lookup C0 = some (excClassObj nm0 q0 C0 N0 bs0 [.ref aIn, .ref aOp, .type "LookupError", .type "Exception", .type "BaseException", .type "object"] true sn0 sub0 ab0 col0 dd0 ka0 kb0 kc0 kd0 ke0 "LookupError.__new__"))
    (sa0 : PySem.W.findIn K (.ref C0) "__setattr__" = some (some (.builtin "object.__setattr__")))
    (su0 : PySem.W.ks_superIn K C0 C0 "__init__" = some (some (.builtin "LookupError.__init__")))
    (ii0 : PySem.W.findIn K (.ref C0) "__init__" = some (some (.ref f0)))
    (ti0 : PySem.W.typeIn K (.ref f0) = some (.type "function"))
    (lf0 : K.lookup f0 = some ⟨oc0, od0, .func (PySem.W.ksFn "__init__" "InvalidProgram.__init__" (defArgs i_InvalidProgram) (defBody i_InvalidProgram) (defScope i_InvalidProgram) .none kV0 dc0 pm0 an0 (.ref cd0) ct0 cc0), sl0⟩)
    (cf0 : PySem.W.codeIn K (.ref cd0) "InvalidProgram.__init__" = true)
    (lc0 : K.lookup cc0 = some ⟨cll0, cld0, .cell (some (.ref C0)), csl0⟩)
    (ld0 : K.lookup cd0 = some ⟨ccl0, cdd0, .fields vs0, ccs0⟩)
    (v20 : vs0[2]? = some (.str fl0 tf0))
    (fe0 : ((PySem.Challenge.pw_openruns_k84_errors_made_by_name.main.file : Str) == fl0) = true)
    (kp0 : PySem.W.keepIn K (.ref C0) = true)
    (hg0 : PySem.W.findIn K (.ref C0) "__getattribute__" = some (some (.builtin "BaseException.__getattribute__")))
    (hk0 : PySem.W.findIn K (.ref C0) "__getattr__" = some none)
    (hs0 : PySem.W.subIn K (.ref C0) (.type "BaseException") = some true)
    (hd0 : PySem.W.hasDictIn K C0 = true)
    (ha0 : PySem.W.findIn K (.ref C0) "__class__" = some (some (.builtin "object.__class__")))
    (hm0 : PySem.W.mroIn K C0 (.type "object") = some true)
    (ty0 : PySem.W.typeIn K (.ref C0) = some (.type "type"))
    (ic0 : PySem.W.isClsIn K C0 = true)
    (no_p0 : PySem.W.findIn K (.ref C0) "part" = some none)
    (no_q0 : PySem.W.findIn K (.ref C0) "path" = some none)
    (vE0 : PySem.W.subIn K (.ref C0) (.type "ValueError") = some false)
    (kE0 : PySem.W.subIn K (.ref C0) (.type "KeyError") = some false)
    (lE0 : PySem.W.subIn K (.ref C0) (.type "LookupError") = some true)
    (sO0 : PySem.W.subIn K (.ref C0) (.ref aOp) = some true)
    (sI0 : PySem.W.subIn K (.ref C0) (.ref aIn) = some true)
    (sR0 : PySem.W.subIn K (.ref C0) (.ref aRun) = some false)
    (a1 : PySem.W.nsIn K mainGlobals "InvalidHistory" = some (some (.ref C1)))
    (l1 : K.lookup C1 = some (excClassObj nm1 q1 C1 N1 bs1 [.ref aIn, .ref aOp, .type "LookupError", .type "Exception", .type "BaseException", .type "object"] true sn1 sub1 ab1 col1 dd1 ka1 kb1 kc1 kd1 ke1 "LookupError.__new__"))
    (sa1 : PySem.W.findIn K (.ref C1) "__setattr__" = some (some (.builtin "object.__setattr__")))
    (su1 : PySem.W.ks_superIn K C1 C1 "__init__" = some (some (.builtin "LookupError.__init__")))
    (ii1 : PySem.W.findIn K (.ref C1) "__init__" = some (some (.ref f1)))
    (ti1 : PySem.W.typeIn K (.ref f1) = some (.type "function"))
    (lf1 : K.lookup f1 = some ⟨oc1, od1, .func (PySem.W.ksFn "__init__" "InvalidHistory.__init__" (defArgs i_InvalidHistory) (defBody i_InvalidHistory) (defScope i_InvalidHistory) .none kV1 dc1 pm1 an1 (.ref cd1) ct1 cc1), sl1⟩)
    (cf1 : PySem.W.codeIn K (.ref cd1) "InvalidHistory.__init__" = true)
    (lc1 : K.lookup cc1 = some ⟨cll1, cld1, .cell (some (.ref C1)), csl1⟩)
    (ld1 : K.lookup cd1 = some ⟨ccl1, cdd1, .fields vs1, ccs1⟩)
    (v21 : vs1[2]? = some (.str fl1 tf1))
    (fe1 : ((PySem.Challenge.pw_openruns_k84_errors_made_by_name.main.file : Str) == fl1) = true)
    (kp1 : PySem.W.keepIn K (.ref C1) = true)
    (hg1 : PySem.W.findIn K (.ref C1) "__getattribute__" = some (some (.builtin "BaseException.__getattribute__")))
    (hk1 : PySem.W.findIn K (.ref C1) "__getattr__" = some none)
    (hs1 : PySem.W.subIn K (.ref C1) (.type "BaseException") = some true)
    (hd1 : PySem.W.hasDictIn K C1 = true)
    (ha1 : PySem.W.findIn K (.ref C1) "__class__" = some (some (.builtin "object.__class__")))
    (hm1 : PySem.W.mroIn K C1 (.type "object") = some true)
    (ty1 : PySem.W.typeIn K (.ref C1) = some (.type "type"))
    (ic1 : PySem.W.isClsIn K C1 = true)
    (no_p1 : PySem.W.findIn K (.ref C1) "at" = some none)
    (vE1 : PySem.W.subIn K (.ref C1) (.type "ValueError") = some false)
    (kE1 : PySem.W.subIn K (.ref C1) (.type "KeyError") = some false)
    (lE1 : PySem.W.subIn K (.ref C1) (.type "LookupError") = some true)
    (sO1 : PySem.W.subIn K (.ref C1) (.ref aOp) = some true)
    (sI1 : PySem.W.subIn K (.ref C1) (.ref aIn) = some true)
    (sR1 : PySem.W.subIn K (.ref C1) (.ref aRun) = some false)
    (a2 : PySem.W.nsIn K mainGlobals "InvalidText" = some (some (.ref C2)))
    (l2 : K.lookup C2 = some (excClassObj nm2 q2 C2 N2 bs2 [.ref aIn, .ref aOp, .type "LookupError", .type "Exception", .type "BaseException", .type "object"] true sn2 sub2 ab2 col2 dd2 ka2 kb2 kc2 kd2 ke2 "LookupError.__new__"))
    (sa2 : PySem.W.findIn K (.ref C2) "__setattr__" = some (some (.builtin "object.__setattr__")))
    (su2 : PySem.W.ks_superIn K C2 C2 "__init__" = some (some (.builtin "LookupError.__init__")))
    (ii2 : PySem.W.findIn K (.ref C2) "__init__" = some (some (.ref f2)))
    (ti2 : PySem.W.typeIn K (.ref f2) = some (.type "function"))
    (lf2 : K.lookup f2 = some ⟨oc2, od2, .func (PySem.W.ksFn "__init__" "InvalidText.__init__" (defArgs i_InvalidText) (defBody i_InvalidText) (defScope i_InvalidText) .none kV2 dc2 pm2 an2 (.ref cd2) ct2 cc2), sl2⟩)
    (cf2 : PySem.W.codeIn K (.ref cd2) "InvalidText.__init__" = true)
    (lc2 : K.lookup cc2 = some ⟨cll2, cld2, .cell (some (.ref C2)), csl2⟩)
    (ld2 : K.lookup cd2 = some ⟨ccl2, cdd2, .fields vs2, ccs2⟩)
    (v22 : vs2[2]? = some (.str fl2 tf2))
    (fe2 : ((PySem.Challenge.pw_openruns_k84_errors_made_by_name.main.file : Str) == fl2) = true)
    (kp2 : PySem.W.keepIn K (.ref C2) = true)
    (hg2 : PySem.W.findIn K (.ref C2) "__getattribute__" = some (some (.builtin "BaseException.__getattribute__")))
    (hk2 : PySem.W.findIn K (.ref C2) "__getattr__" = some none)
    (hs2 : PySem.W.subIn K (.ref C2) (.type "BaseException") = some true)
    (hd2 : PySem.W.hasDictIn K C2 = true)
    (ha2 : PySem.W.findIn K (.ref C2) "__class__" = some (some (.builtin "object.__class__")))
    (hm2 : PySem.W.mroIn K C2 (.type "object") = some true)
    (ty2 : PySem.W.typeIn K (.ref C2) = some (.type "type"))
    (ic2 : PySem.W.isClsIn K C2 = true)
    (no_p2 : PySem.W.findIn K (.ref C2) "line" = some none)
    (vE2 : PySem.W.subIn K (.ref C2) (.type "ValueError") = some false)
    (kE2 : PySem.W.subIn K (.ref C2) (.type "KeyError") = some false)
    (lE2 : PySem.W.subIn K (.ref C2) (.type "LookupError") = some true)
    (sO2 : PySem.W.subIn K (.ref C2) (.ref aOp) = some true)
    (sI2 : PySem.W.subIn K (.ref C2) (.ref aIn) = some true)
    (sR2 : PySem.W.subIn K (.ref C2) (.ref aRun) = some false)
    (a3 : PySem.W.nsIn K mainGlobals "InvalidArgument" = some (some (.ref C3)))
    (l3 : K.lookup C3 = some (excClassObj nm3 q3 C3 N3 bs3 [.ref aIn, .ref aOp, .type "LookupError", .type "Exception", .type "BaseException", .type "object"] true sn3 sub3 ab3 col3 dd3 ka3 kb3 kc3 kd3 ke3 "LookupError.__new__"))
    (sa3 : PySem.W.findIn K (.ref C3) "__setattr__" = some (some (.builtin "object.__setattr__")))
    (su3 : PySem.W.ks_superIn K C3 C3 "__init__" = some (some (.builtin "LookupError.__init__")))
    (ii3 : PySem.W.findIn K (.ref C3) "__init__" = some (some (.ref f3)))
    (ti3 : PySem.W.typeIn K (.ref f3) = some (.type "function"))
    (lf3 : K.lookup f3 = some ⟨oc3, od3, .func (PySem.W.ksFn "__init__" "InvalidArgument.__init__" (defArgs i_InvalidArgument) (defBody i_InvalidArgument) (defScope i_InvalidArgument) .none kV3 dc3 pm3 an3 (.ref cd3) ct3 cc3), sl3⟩)
    (cf3 : PySem.W.codeIn K (.ref cd3) "InvalidArgument.__init__" = true)
    (lc3 : K.lookup cc3 = some ⟨cll3, cld3, .cell (some (.ref C3)), csl3⟩)
    (ld3 : K.lookup cd3 = some ⟨ccl3, cdd3, .fields vs3, ccs3⟩)
    (v23 : vs3[2]? = some (.str fl3 tf3))
    (fe3 : ((PySem.Challenge.pw_openruns_k84_errors_made_by_name.main.file : Str) == fl3) = true)
    (kp3 : PySem.W.keepIn K (.ref C3) = true)
    (hg3 : PySem.W.findIn K (.ref C3) "__getattribute__" = some (some (.builtin "BaseException.__getattribute__")))
    (hk3 : PySem.W.findIn K (.ref C3) "__getattr__" = some none)
    (hs3 : PySem.W.subIn K (.ref C3) (.type "BaseException") = some true)
    (hd3 : PySem.W.hasDictIn K C3 = true)
    (ha3 : PySem.W.findIn K (.ref C3) "__class__" = some (some (.builtin "object.__class__")))
    (hm3 : PySem.W.mroIn K C3 (.type "object") = some true)
    (ty3 : PySem.W.typeIn K (.ref C3) = some (.type "type"))
    (ic3 : PySem.W.isClsIn K C3 = true)
    (no_p3 : PySem.W.findIn K (.ref C3) "part" = some none)
    (vE3 : PySem.W.subIn K (.ref C3) (.type "ValueError") = some false)
    (kE3 : PySem.W.subIn K (.ref C3) (.type "KeyError") = some false)
    (lE3 : PySem.W.subIn K (.ref C3) (.type "LookupError") = some true)
    (sO3 : PySem.W.subIn K (.ref C3) (.ref aOp) = some true)
    (sI3 : PySem.W.subIn K (.ref C3) (.ref aIn) = some true)
    (sR3 : PySem.W.subIn K (.ref C3) (.ref aRun) = some false)
    (a4 : PySem.W.nsIn K mainGlobals "InvalidNote" = some (some (.ref C4)))
    (l4 : K.lookup C4 = some (excClassObj nm4 q4 C4 N4 bs4 [.ref aIn, .ref aOp, .type "LookupError", .type "Exception", .type "BaseException", .type "object"] true sn4 sub4 ab4 col4 dd4 ka4 kb4 kc4 kd4 ke4 "LookupError.__new__"))
    (sa4 : PySem.W.findIn K (.ref C4) "__setattr__" = some (some (.builtin "object.__setattr__")))
    (su4 : PySem.W.ks_superIn K C4 C4 "__init__" = some (some (.builtin "LookupError.__init__")))
    (ii4 : PySem.W.findIn K (.ref C4) "__init__" = some (some (.ref f4)))
    (ti4 : PySem.W.typeIn K (.ref f4) = some (.type "function"))
    (lf4 : K.lookup f4 = some ⟨oc4, od4, .func (PySem.W.ksFn "__init__" "InvalidNote.__init__" (defArgs i_InvalidNote) (defBody i_InvalidNote) (defScope i_InvalidNote) .none kV4 dc4 pm4 an4 (.ref cd4) ct4 cc4), sl4⟩)
    (cf4 : PySem.W.codeIn K (.ref cd4) "InvalidNote.__init__" = true)
    (lc4 : K.lookup cc4 = some ⟨cll4, cld4, .cell (some (.ref C4)), csl4⟩)
    (ld4 : K.lookup cd4 = some ⟨ccl4, cdd4, .fields vs4, ccs4⟩)
    (v24 : vs4[2]? = some (.str fl4 tf4))
    (fe4 : ((PySem.Challenge.pw_openruns_k84_errors_made_by_name.main.file : Str) == fl4) = true)
    (kp4 : PySem.W.keepIn K (.ref C4) = true)
    (hg4 : PySem.W.findIn K (.ref C4) "__getattribute__" = some (some (.builtin "BaseException.__getattribute__")))
    (hk4 : PySem.W.findIn K (.ref C4) "__getattr__" = some none)
    (hs4 : PySem.W.subIn K (.ref C4) (.type "BaseException") = some true)
    (hd4 : PySem.W.hasDictIn K C4 = true)
    (ha4 : PySem.W.findIn K (.ref C4) "__class__" = some (some (.builtin "object.__class__")))
    (hm4 : PySem.W.mroIn K C4 (.type "object") = some true)
    (ty4 : PySem.W.typeIn K (.ref C4) = some (.type "type"))
    (ic4 : PySem.W.isClsIn K C4 = true)
    (no_p4 : PySem.W.findIn K (.ref C4) "at" = some none)
    (vE4 : PySem.W.subIn K (.ref C4) (.type "ValueError") = some false)
    (kE4 : PySem.W.subIn K (.ref C4) (.type "KeyError") = some false)
    (lE4 : PySem.W.subIn K (.ref C4) (.type "LookupError") = some true)
    (sO4 : PySem.W.subIn K (.ref C4) (.ref aOp) = some true)
    (sI4 : PySem.W.subIn K (.ref C4) (.ref aIn) = some true)
    (sR4 : PySem.W.subIn K (.ref C4) (.ref aRun) = some false)
    (a5 : PySem.W.nsIn K mainGlobals "Falls" = some (some (.ref C5)))
    (l5 : K.lookup C5 = some (excClassObj nm5 q5 C5 N5 bs5 [.ref aRun, .ref aOp, .type "LookupError", .type "Exception", .type "BaseException", .type "object"] true sn5 sub5 ab5 col5 dd5 ka5 kb5 kc5 kd5 ke5 "LookupError.__new__"))
    (sa5 : PySem.W.findIn K (.ref C5) "__setattr__" = some (some (.builtin "object.__setattr__")))
    (su5 : PySem.W.ks_superIn K C5 C5 "__init__" = some (some (.builtin "LookupError.__init__")))
    (ii5 : PySem.W.findIn K (.ref C5) "__init__" = some (some (.ref f5)))
    (ti5 : PySem.W.typeIn K (.ref f5) = some (.type "function"))
    (lf5 : K.lookup f5 = some ⟨oc5, od5, .func (PySem.W.ksFn "__init__" "Falls.__init__" (defArgs i_Falls) (defBody i_Falls) (defScope i_Falls) .none kV5 dc5 pm5 an5 (.ref cd5) ct5 cc5), sl5⟩)
    (cf5 : PySem.W.codeIn K (.ref cd5) "Falls.__init__" = true)
    (lc5 : K.lookup cc5 = some ⟨cll5, cld5, .cell (some (.ref C5)), csl5⟩)
    (ld5 : K.lookup cd5 = some ⟨ccl5, cdd5, .fields vs5, ccs5⟩)
    (v25 : vs5[2]? = some (.str fl5 tf5))
    (fe5 : ((PySem.Challenge.pw_openruns_k84_errors_made_by_name.main.file : Str) == fl5) = true)
    (kp5 : PySem.W.keepIn K (.ref C5) = true)
    (hg5 : PySem.W.findIn K (.ref C5) "__getattribute__" = some (some (.builtin "BaseException.__getattribute__")))
    (hk5 : PySem.W.findIn K (.ref C5) "__getattr__" = some none)
    (hs5 : PySem.W.subIn K (.ref C5) (.type "BaseException") = some true)
    (hd5 : PySem.W.hasDictIn K C5 = true)
    (ha5 : PySem.W.findIn K (.ref C5) "__class__" = some (some (.builtin "object.__class__")))
    (hm5 : PySem.W.mroIn K C5 (.type "object") = some true)
    (ty5 : PySem.W.typeIn K (.ref C5) = some (.type "type"))
    (ic5 : PySem.W.isClsIn K C5 = true)
    (no_p5 : PySem.W.findIn K (.ref C5) "word" = some none)
    (no_q5 : PySem.W.findIn K (.ref C5) "path" = some none)
    (vE5 : PySem.W.subIn K (.ref C5) (.type "ValueError") = some false)
    (kE5 : PySem.W.subIn K (.ref C5) (.type "KeyError") = some false)
    (lE5 : PySem.W.subIn K (.ref C5) (.type "LookupError") = some true)
    (sO5 : PySem.W.subIn K (.ref C5) (.ref aOp) = some true)
    (sI5 : PySem.W.subIn K (.ref C5) (.ref aIn) = some false)
    (sR5 : PySem.W.subIn K (.ref C5) (.ref aRun) = some true)
    (a6 : PySem.W.nsIn K mainGlobals "Breaks" = some (some (.ref C6)))
    (l6 : K.lookup C6 = some (excClassObj nm6 q6 C6 N6 bs6 [.ref aRun, .ref aOp, .type "LookupError", .type "Exception", .type "BaseException", .type "object"] true sn6 sub6 ab6 col6 dd6 ka6 kb6 kc6 kd6 ke6 "LookupError.__new__"))
    (sa6 : PySem.W.findIn K (.ref C6) "__setattr__" = some (some (.builtin "object.__setattr__")))
    (su6 : PySem.W.ks_superIn K C6 C6 "__init__" = some (some (.builtin "LookupError.__init__")))
    (ii6 : PySem.W.findIn K (.ref C6) "__init__" = some (some (.ref f6)))
    (ti6 : PySem.W.typeIn K (.ref f6) = some (.type "function"))
    (lf6 : K.lookup f6 = some ⟨oc6, od6, .func (PySem.W.ksFn "__init__" "Breaks.__init__" (defArgs i_Breaks) (defBody i_Breaks) (defScope i_Breaks) .none kV6 dc6 pm6 an6 (.ref cd6) ct6 cc6), sl6⟩)
    (cf6 : PySem.W.codeIn K (.ref cd6) "Breaks.__init__" = true)
    (lc6 : K.lookup cc6 = some ⟨cll6, cld6, .cell (some (.ref C6)), csl6⟩)
    (ld6 : K.lookup cd6 = some ⟨ccl6, cdd6, .fields vs6, ccs6⟩)
    (v26 : vs6[2]? = some (.str fl6 tf6))
    (fe6 : ((PySem.Challenge.pw_openruns_k84_errors_made_by_name.main.file : Str) == fl6) = true)
    (kp6 : PySem.W.keepIn K (.ref C6) = true)
    (hg6 : PySem.W.findIn K (.ref C6) "__getattribute__" = some (some (.builtin "BaseException.__getattribute__")))
    (hk6 : PySem.W.findIn K (.ref C6) "__getattr__" = some none)
    (hs6 : PySem.W.subIn K (.ref C6) (.type "BaseException") = some true)
    (hd6 : PySem.W.hasDictIn K C6 = true)
    (ha6 : PySem.W.findIn K (.ref C6) "__class__" = some (some (.builtin "object.__class__")))
    (hm6 : PySem.W.mroIn K C6 (.type "object") = some true)
    (ty6 : PySem.W.typeIn K (.ref C6) = some (.type "type"))
    (ic6 : PySem.W.isClsIn K C6 = true)
    (no_p6 : PySem.W.findIn K (.ref C6) "at" = some none)
    (no_q6 : PySem.W.findIn K (.ref C6) "word" = some none)
    (vE6 : PySem.W.subIn K (.ref C6) (.type "ValueError") = some false)
    (kE6 : PySem.W.subIn K (.ref C6) (.type "KeyError") = some false)
    (lE6 : PySem.W.subIn K (.ref C6) (.type "LookupError") = some true)
    (sO6 : PySem.W.subIn K (.ref C6) (.ref aOp) = some true)
    (sI6 : PySem.W.subIn K (.ref C6) (.ref aIn) = some false)
    (sR6 : PySem.W.subIn K (.ref C6) (.ref aRun) = some true)
    (a7 : PySem.W.nsIn K mainGlobals "NoRun" = some (some (.ref C7)))
    (l7 : K.lookup C7 = some (excClassObj nm7 q7 C7 N7 bs7 [.ref aRun, .ref aOp, .type "LookupError", .type "Exception", .type "BaseException", .type "object"] true sn7 sub7 ab7 col7 dd7 ka7 kb7 kc7 kd7 ke7 "LookupError.__new__"))
    (sa7 : PySem.W.findIn K (.ref C7) "__setattr__" = some (some (.builtin "object.__setattr__")))
    (su7 : PySem.W.ks_superIn K C7 C7 "__init__" = some (some (.builtin "LookupError.__init__")))
    (ii7 : PySem.W.findIn K (.ref C7) "__init__" = some (some (.ref f7)))
    (ti7 : PySem.W.typeIn K (.ref f7) = some (.type "function"))
    (lf7 : K.lookup f7 = some ⟨oc7, od7, .func (PySem.W.ksFn "__init__" "NoRun.__init__" (defArgs i_NoRun) (defBody i_NoRun) (defScope i_NoRun) .none kV7 dc7 pm7 an7 (.ref cd7) ct7 cc7), sl7⟩)
    (cf7 : PySem.W.codeIn K (.ref cd7) "NoRun.__init__" = true)
    (lc7 : K.lookup cc7 = some ⟨cll7, cld7, .cell (some (.ref C7)), csl7⟩)
    (ld7 : K.lookup cd7 = some ⟨ccl7, cdd7, .fields vs7, ccs7⟩)
    (v27 : vs7[2]? = some (.str fl7 tf7))
    (fe7 : ((PySem.Challenge.pw_openruns_k84_errors_made_by_name.main.file : Str) == fl7) = true)
    (kp7 : PySem.W.keepIn K (.ref C7) = true)
    (hg7 : PySem.W.findIn K (.ref C7) "__getattribute__" = some (some (.builtin "BaseException.__getattribute__")))
    (hk7 : PySem.W.findIn K (.ref C7) "__getattr__" = some none)
    (hs7 : PySem.W.subIn K (.ref C7) (.type "BaseException") = some true)
    (hd7 : PySem.W.hasDictIn K C7 = true)
    (ha7 : PySem.W.findIn K (.ref C7) "__class__" = some (some (.builtin "object.__class__")))
    (hm7 : PySem.W.mroIn K C7 (.type "object") = some true)
    (ty7 : PySem.W.typeIn K (.ref C7) = some (.type "type"))
    (ic7 : PySem.W.isClsIn K C7 = true)
    (no_p7 : PySem.W.findIn K (.ref C7) "name" = some none)
    (vE7 : PySem.W.subIn K (.ref C7) (.type "ValueError") = some false)
    (kE7 : PySem.W.subIn K (.ref C7) (.type "KeyError") = some false)
    (lE7 : PySem.W.subIn K (.ref C7) (.type "LookupError") = some true)
    (sO7 : PySem.W.subIn K (.ref C7) (.ref aOp) = some true)
    (sI7 : PySem.W.subIn K (.ref C7) (.ref aIn) = some false)
    (sR7 : PySem.W.subIn K (.ref C7) (.ref aRun) = some true)
    (a8 : PySem.W.nsIn K mainGlobals "Taken" = some (some (.ref C8)))
    (l8 : K.lookup C8 = some (excClassObj nm8 q8 C8 N8 bs8 [.ref aRun, .ref aOp, .type "LookupError", .type "Exception", .type "BaseException", .type "object"] true sn8 sub8 ab8 col8 dd8 ka8 kb8 kc8 kd8 ke8 "LookupError.__new__"))
    (sa8 : PySem.W.findIn K (.ref C8) "__setattr__" = some (some (.builtin "object.__setattr__")))
    (su8 : PySem.W.ks_superIn K C8 C8 "__init__" = some (some (.builtin "LookupError.__init__")))
    (ii8 : PySem.W.findIn K (.ref C8) "__init__" = some (some (.ref f8)))
    (ti8 : PySem.W.typeIn K (.ref f8) = some (.type "function"))
    (lf8 : K.lookup f8 = some ⟨oc8, od8, .func (PySem.W.ksFn "__init__" "Taken.__init__" (defArgs i_Taken) (defBody i_Taken) (defScope i_Taken) .none kV8 dc8 pm8 an8 (.ref cd8) ct8 cc8), sl8⟩)
    (cf8 : PySem.W.codeIn K (.ref cd8) "Taken.__init__" = true)
    (lc8 : K.lookup cc8 = some ⟨cll8, cld8, .cell (some (.ref C8)), csl8⟩)
    (ld8 : K.lookup cd8 = some ⟨ccl8, cdd8, .fields vs8, ccs8⟩)
    (v28 : vs8[2]? = some (.str fl8 tf8))
    (fe8 : ((PySem.Challenge.pw_openruns_k84_errors_made_by_name.main.file : Str) == fl8) = true)
    (kp8 : PySem.W.keepIn K (.ref C8) = true)
    (hg8 : PySem.W.findIn K (.ref C8) "__getattribute__" = some (some (.builtin "BaseException.__getattribute__")))
    (hk8 : PySem.W.findIn K (.ref C8) "__getattr__" = some none)
    (hs8 : PySem.W.subIn K (.ref C8) (.type "BaseException") = some true)
    (hd8 : PySem.W.hasDictIn K C8 = true)
    (ha8 : PySem.W.findIn K (.ref C8) "__class__" = some (some (.builtin "object.__class__")))
    (hm8 : PySem.W.mroIn K C8 (.type "object") = some true)
    (ty8 : PySem.W.typeIn K (.ref C8) = some (.type "type"))
    (ic8 : PySem.W.isClsIn K C8 = true)
    (no_p8 : PySem.W.findIn K (.ref C8) "name" = some none)
    (vE8 : PySem.W.subIn K (.ref C8) (.type "ValueError") = some false)
    (kE8 : PySem.W.subIn K (.ref C8) (.type "KeyError") = some false)
    (lE8 : PySem.W.subIn K (.ref C8) (.type "LookupError") = some true)
    (sO8 : PySem.W.subIn K (.ref C8) (.ref aOp) = some true)
    (sI8 : PySem.W.subIn K (.ref C8) (.ref aIn) = some false)
    (sR8 : PySem.W.subIn K (.ref C8) (.ref aRun) = some true)
    (a9 : PySem.W.nsIn K mainGlobals "LimitExceeded" = some (some (.ref C9)))
    (l9 : K.lookup C9 = some (excClassObj nm9 q9 C9 N9 bs9 [.ref aOp, .type "LookupError", .type "Exception", .type "BaseException", .type "object"] true sn9 sub9 ab9 col9 dd9 ka9 kb9 kc9 kd9 ke9 "LookupError.__new__"))
    (sa9 : PySem.W.findIn K (.ref C9) "__setattr__" = some (some (.builtin "object.__setattr__")))
    (su9 : PySem.W.ks_superIn K C9 C9 "__init__" = some (some (.builtin "LookupError.__init__")))
    (ii9 : PySem.W.findIn K (.ref C9) "__init__" = some (some (.ref f9)))
    (ti9 : PySem.W.typeIn K (.ref f9) = some (.type "function"))
    (lf9 : K.lookup f9 = some ⟨oc9, od9, .func (PySem.W.ksFn "__init__" "LimitExceeded.__init__" (defArgs i_LimitExceeded) (defBody i_LimitExceeded) (defScope i_LimitExceeded) .none kV9 dc9 pm9 an9 (.ref cd9) ct9 cc9), sl9⟩)
    (cf9 : PySem.W.codeIn K (.ref cd9) "LimitExceeded.__init__" = true)
    (lc9 : K.lookup cc9 = some ⟨cll9, cld9, .cell (some (.ref C9)), csl9⟩)
    (ld9 : K.lookup cd9 = some ⟨ccl9, cdd9, .fields vs9, ccs9⟩)
    (v29 : vs9[2]? = some (.str fl9 tf9))
    (fe9 : ((PySem.Challenge.pw_openruns_k84_errors_made_by_name.main.file : Str) == fl9) = true)
    (kp9 : PySem.W.keepIn K (.ref C9) = true)
    (hg9 : PySem.W.findIn K (.ref C9) "__getattribute__" = some (some (.builtin "BaseException.__getattribute__")))
    (hk9 : PySem.W.findIn K (.ref C9) "__getattr__" = some none)
    (hs9 : PySem.W.subIn K (.ref C9) (.type "BaseException") = some true)
    (hd9 : PySem.W.hasDictIn K C9 = true)
    (ha9 : PySem.W.findIn K (.ref C9) "__class__" = some (some (.builtin "object.__class__")))
    (hm9 : PySem.W.mroIn K C9 (.type "object") = some true)
    (ty9 : PySem.W.typeIn K (.ref C9) = some (.type "type"))
    (ic9 : PySem.W.isClsIn K C9 = true)
    (no_p9 : PySem.W.findIn K (.ref C9) "limit" = some none)
    (vE9 : PySem.W.subIn K (.ref C9) (.type "ValueError") = some false)
    (kE9 : PySem.W.subIn K (.ref C9) (.type "KeyError") = some false)
    (lE9 : PySem.W.subIn K (.ref C9) (.type "LookupError") = some true)
    (sO9 : PySem.W.subIn K (.ref C9) (.ref aOp) = some true)
    (sI9 : PySem.W.subIn K (.ref C9) (.ref aIn) = some false)
    (sR9 : PySem.W.subIn K (.ref C9) (.ref aRun) = some false)
    (s0_0 : PySem.W.subIn K (.ref C0) (.ref C0) = some true)
    (s0_1 : PySem.W.subIn K (.ref C0) (.ref C1) = some false)
    (s0_2 : PySem.W.subIn K (.ref C0) (.ref C2) = some false)
    (s0_3 : PySem.W.subIn K (.ref C0) (.ref C3) = some false)
    (s0_4 : PySem.W.subIn K (.ref C0) (.ref C4) = some false)
    (s0_5 : PySem.W.subIn K (.ref C0) (.ref C5) = some false)
    (s0_6 : PySem.W.subIn K (.ref C0) (.ref C6) = some false)
    (s0_7 : PySem.W.subIn K (.ref C0) (.ref C7) = some false)
    (s0_8 : PySem.W.subIn K (.ref C0) (.ref C8) = some false)
    (s0_9 : PySem.W.subIn K (.ref C0) (.ref C9) = some false)
    (s1_0 : PySem.W.subIn K (.ref C1) (.ref C0) = some false)
    (s1_1 : PySem.W.subIn K (.ref C1) (.ref C1) = some true)
    (s1_2 : PySem.W.subIn K (.ref C1) (.ref C2) = some false)
    (s1_3 : PySem.W.subIn K (.ref C1) (.ref C3) = some false)
    (s1_4 : PySem.W.subIn K (.ref C1) (.ref C4) = some false)
    (s1_5 : PySem.W.subIn K (.ref C1) (.ref C5) = some false)
    (s1_6 : PySem.W.subIn K (.ref C1) (.ref C6) = some false)
    (s1_7 : PySem.W.subIn K (.ref C1) (.ref C7) = some false)
    (s1_8 : PySem.W.subIn K (.ref C1) (.ref C8) = some false)
    (s1_9 : PySem.W.subIn K (.ref C1) (.ref C9) = some false)
    (s2_0 : PySem.W.subIn K (.ref C2) (.ref C0) = some false)
    (s2_1 : PySem.W.subIn K (.ref C2) (.ref C1) = some false)
    (s2_2 : PySem.W.subIn K (.ref C2) (.ref C2) = some true)
    (s2_3 : PySem.W.subIn K (.ref C2) (.ref C3) = some false)
    (s2_4 : PySem.W.subIn K (.ref C2) (.ref C4) = some false)
    (s2_5 : PySem.W.subIn K (.ref C2) (.ref C5) = some false)
    (s2_6 : PySem.W.subIn K (.ref C2) (.ref C6) = some false)
    (s2_7 : PySem.W.subIn K (.ref C2) (.ref C7) = some false)
    (s2_8 : PySem.W.subIn K (.ref C2) (.ref C8) = some false)
    (s2_9 : PySem.W.subIn K (.ref C2) (.ref C9) = some false)
    (s3_0 : PySem.W.subIn K (.ref C3) (.ref C0) = some false)
    (s3_1 : PySem.W.subIn K (.ref C3) (.ref C1) = some false)
    (s3_2 : PySem.W.subIn K (.ref C3) (.ref C2) = some false)
    (s3_3 : PySem.W.subIn K (.ref C3) (.ref C3) = some true)
    (s3_4 : PySem.W.subIn K (.ref C3) (.ref C4) = some false)
    (s3_5 : PySem.W.subIn K (.ref C3) (.ref C5) = some false)
    (s3_6 : PySem.W.subIn K (.ref C3) (.ref C6) = some false)
    (s3_7 : PySem.W.subIn K (.ref C3) (.ref C7) = some false)
    (s3_8 : PySem.W.subIn K (.ref C3) (.ref C8) = some false)
    (s3_9 : PySem.W.subIn K (.ref C3) (.ref C9) = some false)
    (s4_0 : PySem.W.subIn K (.ref C4) (.ref C0) = some false)
    (s4_1 : PySem.W.subIn K (.ref C4) (.ref C1) = some false)
    (s4_2 : PySem.W.subIn K (.ref C4) (.ref C2) = some false)
    (s4_3 : PySem.W.subIn K (.ref C4) (.ref C3) = some false)
    (s4_4 : PySem.W.subIn K (.ref C4) (.ref C4) = some true)
    (s4_5 : PySem.W.subIn K (.ref C4) (.ref C5) = some false)
    (s4_6 : PySem.W.subIn K (.ref C4) (.ref C6) = some false)
    (s4_7 : PySem.W.subIn K (.ref C4) (.ref C7) = some false)
    (s4_8 : PySem.W.subIn K (.ref C4) (.ref C8) = some false)
    (s4_9 : PySem.W.subIn K (.ref C4) (.ref C9) = some false)
    (s5_0 : PySem.W.subIn K (.ref C5) (.ref C0) = some false)
    (s5_1 : PySem.W.subIn K (.ref C5) (.ref C1) = some false)
    (s5_2 : PySem.W.subIn K (.ref C5) (.ref C2) = some false)
    (s5_3 : PySem.W.subIn K (.ref C5) (.ref C3) = some false)
    (s5_4 : PySem.W.subIn K (.ref C5) (.ref C4) = some false)
    (s5_5 : PySem.W.subIn K (.ref C5) (.ref C5) = some true)
    (s5_6 : PySem.W.subIn K (.ref C5) (.ref C6) = some false)
    (s5_7 : PySem.W.subIn K (.ref C5) (.ref C7) = some false)
    (s5_8 : PySem.W.subIn K (.ref C5) (.ref C8) = some false)
    (s5_9 : PySem.W.subIn K (.ref C5) (.ref C9) = some false)
    (s6_0 : PySem.W.subIn K (.ref C6) (.ref C0) = some false)
    (s6_1 : PySem.W.subIn K (.ref C6) (.ref C1) = some false)
    (s6_2 : PySem.W.subIn K (.ref C6) (.ref C2) = some false)
    (s6_3 : PySem.W.subIn K (.ref C6) (.ref C3) = some false)
    (s6_4 : PySem.W.subIn K (.ref C6) (.ref C4) = some false)
    (s6_5 : PySem.W.subIn K (.ref C6) (.ref C5) = some false)
    (s6_6 : PySem.W.subIn K (.ref C6) (.ref C6) = some true)
    (s6_7 : PySem.W.subIn K (.ref C6) (.ref C7) = some false)
    (s6_8 : PySem.W.subIn K (.ref C6) (.ref C8) = some false)
    (s6_9 : PySem.W.subIn K (.ref C6) (.ref C9) = some false)
    (s7_0 : PySem.W.subIn K (.ref C7) (.ref C0) = some false)
    (s7_1 : PySem.W.subIn K (.ref C7) (.ref C1) = some false)
    (s7_2 : PySem.W.subIn K (.ref C7) (.ref C2) = some false)
    (s7_3 : PySem.W.subIn K (.ref C7) (.ref C3) = some false)
    (s7_4 : PySem.W.subIn K (.ref C7) (.ref C4) = some false)
    (s7_5 : PySem.W.subIn K (.ref C7) (.ref C5) = some false)
    (s7_6 : PySem.W.subIn K (.ref C7) (.ref C6) = some false)
    (s7_7 : PySem.W.subIn K (.ref C7) (.ref C7) = some true)
    (s7_8 : PySem.W.subIn K (.ref C7) (.ref C8) = some false)
    (s7_9 : PySem.W.subIn K (.ref C7) (.ref C9) = some false)
    (s8_0 : PySem.W.subIn K (.ref C8) (.ref C0) = some false)
    (s8_1 : PySem.W.subIn K (.ref C8) (.ref C1) = some false)
    (s8_2 : PySem.W.subIn K (.ref C8) (.ref C2) = some false)
    (s8_3 : PySem.W.subIn K (.ref C8) (.ref C3) = some false)
    (s8_4 : PySem.W.subIn K (.ref C8) (.ref C4) = some false)
    (s8_5 : PySem.W.subIn K (.ref C8) (.ref C5) = some false)
    (s8_6 : PySem.W.subIn K (.ref C8) (.ref C6) = some false)
    (s8_7 : PySem.W.subIn K (.ref C8) (.ref C7) = some false)
    (s8_8 : PySem.W.subIn K (.ref C8) (.ref C8) = some true)
    (s8_9 : PySem.W.subIn K (.ref C8) (.ref C9) = some false)
    (s9_0 : PySem.W.subIn K (.ref C9) (.ref C0) = some false)
    (s9_1 : PySem.W.subIn K (.ref C9) (.ref C1) = some false)
    (s9_2 : PySem.W.subIn K (.ref C9) (.ref C2) = some false)
    (s9_3 : PySem.W.subIn K (.ref C9) (.ref C3) = some false)
    (s9_4 : PySem.W.subIn K (.ref C9) (.ref C4) = some false)
    (s9_5 : PySem.W.subIn K (.ref C9) (.ref C5) = some false)
    (s9_6 : PySem.W.subIn K (.ref C9) (.ref C6) = some false)
    (s9_7 : PySem.W.subIn K (.ref C9) (.ref C7) = some false)
    (s9_8 : PySem.W.subIn K (.ref C9) (.ref C8) = some false)
    (s9_9 : PySem.W.subIn K (.ref C9) (.ref C9) = some true)
    (A0 : PySem.W.nsIn K mainGlobals "_law_pool" = some (some (.ref g0)))
    (L0 : K.lookup g0 = some ⟨xo0, xd0, .func (PySem.W.fnOf "_law_pool" "_law_pool" (defArgs s__law_pool) (defBody s__law_pool) (defScope s__law_pool) .none xk0 xc0 xp0 xa0 xe0 xt0), xs0⟩)
    (D0 : PySem.W.codeIn K xe0 "_law_pool" = true)
    (P0 : PySem.W.keepIn K (.ref g0) = true)
    (A1 : PySem.W.nsIn K mainGlobals "_law_draw" = some (some (.ref g1)))
    (L1 : K.lookup g1 = some ⟨xo1, xd1, .func (PySem.W.fnOf "_law_draw" "_law_draw" (defArgs s__law_draw) (defBody s__law_draw) (defScope s__law_draw) .none xk1 xc1 xp1 xa1 xe1 xt1), xs1⟩)
    (D1 : PySem.W.codeIn K xe1 "_law_draw" = true)
    (P1 : PySem.W.keepIn K (.ref g1) = true)
    (A2 : PySem.W.nsIn K mainGlobals "_law_above" = some (some (.ref g2)))
    (L2 : K.lookup g2 = some ⟨xo2, xd2, .func (PySem.W.fnOf "_law_above" "_law_above" (defArgs s__law_above) (defBody s__law_above) (defScope s__law_above) .none xk2 xc2 xp2 xa2 xe2 xt2), xs2⟩)
    (D2 : PySem.W.codeIn K xe2 "_law_above" = true)
    (P2 : PySem.W.keepIn K (.ref g2) = true)
    (A3 : PySem.W.nsIn K mainGlobals "_law_fits" = some (some (.ref g3)))
    (L3 : K.lookup g3 = some ⟨xo3, xd3, .func (PySem.W.fnOf "_law_fits" "_law_fits" (defArgs s__law_fits) (defBody s__law_fits) (defScope s__law_fits) .none xk3 xc3 xp3 xa3 xe3 xt3), xs3⟩)
    (D3 : PySem.W.codeIn K xe3 "_law_fits" = true)
    (P3 : PySem.W.keepIn K (.ref g3) = true)
    (A4 : PySem.W.nsIn K mainGlobals "_law_inputs_fit" = some (some (.ref g4)))
    (L4 : K.lookup g4 = some ⟨xo4, xd4, .func (PySem.W.fnOf "_law_inputs_fit" "_law_inputs_fit" (defArgs s__law_inputs_fit) (defBody s__law_inputs_fit) (defScope s__law_inputs_fit) .none xk4 xc4 xp4 xa4 xe4 xt4), xs4⟩)
    (D4 : PySem.W.codeIn K xe4 "_law_inputs_fit" = true)
    (P4 : PySem.W.keepIn K (.ref g4) = true)
    (A5 : PySem.W.nsIn K mainGlobals "law" = some (some (.ref g5)))
    (L5 : K.lookup g5 = some ⟨xo5, xd5, .func (PySem.W.fnOf "law" "law" (defArgs s_law) (defBody s_law) (defScope s_law) .none xk5 xc5 xp5 xa5 xe5 xt5), xs5⟩)
    (D5 : PySem.W.codeIn K xe5 "law" = true)
    (P5 : PySem.W.keepIn K (.ref g5) = true)
    : ∃ fd : FuncData, (∀ (s : Shared) (v : Value), BindsTo s fd ⟨[v], []⟩ [("_law_script", v)]) ∧ ∀ base : Heap, K.In base → base.Ns mainGlobals mg → FnOk PP w K mg base CX0 4 fa fd ["_law_script"] (spLaw K) := by
  have e := hfa.symm.trans (PySem.W.mg_of X G A5)
  cases e
  have X0 : XCls PP K C0 := ⟨⟨_, _, _, _, _, _, _, _, _, _, _, _, _, _, _, l0, rfl⟩, sa0, su0, opq, sg, by decide +kernel⟩
  have Y0 : XFn PP K C0 f0 "InvalidProgram.__init__" (defArgs i_InvalidProgram) (defBody i_InvalidProgram) (defScope i_InvalidProgram) := ⟨⟨_, _, _, _, _, _, _, _, _, _, _, _, _, _, _, _, _, _, _, lf0, cf0, lc0, ld0, v20, fe0⟩, ii0, ti0⟩
  have M0 := xm_InvalidProgram (w := w) X0 Y0 no_p0 no_q0
  have X1 : XCls PP K C1 := ⟨⟨_, _, _, _, _, _, _, _, _, _, _, _, _, _, _, l1, rfl⟩, sa1, su1, opq, sg, by decide +kernel⟩
  have Y1 : XFn PP K C1 f1 "InvalidHistory.__init__" (defArgs i_InvalidHistory) (defBody i_InvalidHistory) (defScope i_InvalidHistory) := ⟨⟨_, _, _, _, _, _, _, _, _, _, _, _, _, _, _, _, _, _, _, lf1, cf1, lc1, ld1, v21, fe1⟩, ii1, ti1⟩
  have M1 := xm_InvalidHistory (w := w) X1 Y1 no_p1
  have X2 : XCls PP K C2 := ⟨⟨_, _, _, _, _, _, _, _, _, _, _, _, _, _, _, l2, rfl⟩, sa2, su2, opq, sg, by decide +kernel⟩
  have Y2 : XFn PP K C2 f2 "InvalidText.__init__" (defArgs i_InvalidText) (defBody i_InvalidText) (defScope i_InvalidText) := ⟨⟨_, _, _, _, _, _, _, _, _, _, _, _, _, _, _, _, _, _, _, lf2, cf2, lc2, ld2, v22, fe2⟩, ii2, ti2⟩
  have M2 := xm_InvalidText (w := w) X2 Y2 no_p2
  have X3 : XCls PP K C3 := ⟨⟨_, _, _, _, _, _, _, _, _, _, _, _, _, _, _, l3, rfl⟩, sa3, su3, opq, sg, by decide +kernel⟩
  have Y3 : XFn PP K C3 f3 "InvalidArgument.__init__" (defArgs i_InvalidArgument) (defBody i_InvalidArgument) (defScope i_InvalidArgument) := ⟨⟨_, _, _, _, _, _, _, _, _, _, _, _, _, _, _, _, _, _, _, lf3, cf3, lc3, ld3, v23, fe3⟩, ii3, ti3⟩
  have M3 := xm_InvalidArgument (w := w) X3 Y3 no_p3
  have X4 : XCls PP K C4 := ⟨⟨_, _, _, _, _, _, _, _, _, _, _, _, _, _, _, l4, rfl⟩, sa4, su4, opq, sg, by decide +kernel⟩
  have Y4 : XFn PP K C4 f4 "InvalidNote.__init__" (defArgs i_InvalidNote) (defBody i_InvalidNote) (defScope i_InvalidNote) := ⟨⟨_, _, _, _, _, _, _, _, _, _, _, _, _, _, _, _, _, _, _, lf4, cf4, lc4, ld4, v24, fe4⟩, ii4, ti4⟩
  have M4 := xm_InvalidNote (w := w) X4 Y4 no_p4
  have X5 : XCls PP K C5 := ⟨⟨_, _, _, _, _, _, _, _, _, _, _, _, _, _, _, l5, rfl⟩, sa5, su5, opq, sg, by decide +kernel⟩
  have Y5 : XFn PP K C5 f5 "Falls.__init__" (defArgs i_Falls) (defBody i_Falls) (defScope i_Falls) := ⟨⟨_, _, _, _, _, _, _, _, _, _, _, _, _, _, _, _, _, _, _, lf5, cf5, lc5, ld5, v25, fe5⟩, ii5, ti5⟩
  have M5 := xm_Falls (w := w) X5 Y5 no_p5 no_q5
  have X6 : XCls PP K C6 := ⟨⟨_, _, _, _, _, _, _, _, _, _, _, _, _, _, _, l6, rfl⟩, sa6, su6, opq, sg, by decide +kernel⟩
  have Y6 : XFn PP K C6 f6 "Breaks.__init__" (defArgs i_Breaks) (defBody i_Breaks) (defScope i_Breaks) := ⟨⟨_, _, _, _, _, _, _, _, _, _, _, _, _, _, _, _, _, _, _, lf6, cf6, lc6, ld6, v26, fe6⟩, ii6, ti6⟩
  have M6 := xm_Breaks (w := w) X6 Y6 no_p6 no_q6
  have X7 : XCls PP K C7 := ⟨⟨_, _, _, _, _, _, _, _, _, _, _, _, _, _, _, l7, rfl⟩, sa7, su7, opq, sg, by decide +kernel⟩
  have Y7 : XFn PP K C7 f7 "NoRun.__init__" (defArgs i_NoRun) (defBody i_NoRun) (defScope i_NoRun) := ⟨⟨_, _, _, _, _, _, _, _, _, _, _, _, _, _, _, _, _, _, _, lf7, cf7, lc7, ld7, v27, fe7⟩, ii7, ti7⟩
  have M7 := xm_NoRun (w := w) X7 Y7 no_p7
  have X8 : XCls PP K C8 := ⟨⟨_, _, _, _, _, _, _, _, _, _, _, _, _, _, _, l8, rfl⟩, sa8, su8, opq, sg, by decide +kernel⟩
  have Y8 : XFn PP K C8 f8 "Taken.__init__" (defArgs i_Taken) (defBody i_Taken) (defScope i_Taken) := ⟨⟨_, _, _, _, _, _, _, _, _, _, _, _, _, _, _, _, _, _, _, lf8, cf8, lc8, ld8, v28, fe8⟩, ii8, ti8⟩
  have M8 := xm_Taken (w := w) X8 Y8 no_p8
  have X9 : XCls PP K C9 := ⟨⟨_, _, _, _, _, _, _, _, _, _, _, _, _, _, _, l9, rfl⟩, sa9, su9, opq, sg, by decide +kernel⟩
  have Y9 : XFn PP K C9 f9 "LimitExceeded.__init__" (defArgs i_LimitExceeded) (defBody i_LimitExceeded) (defScope i_LimitExceeded) := ⟨⟨_, _, _, _, _, _, _, _, _, _, _, _, _, _, _, _, _, _, _, lf9, cf9, lc9, ld9, v29, fe9⟩, ii9, ti9⟩
  have M9 := xm_LimitExceeded (w := w) X9 Y9 no_p9
  let cl : Nat → Addr := fun n => [C0, C1, C2, C3, C4, C5, C6, C7, C8, C9].getD n 0
  have Bl : Blt mg := ⟨PySem.W.mg_none_of X G z_len, PySem.W.mg_none_of X G z_int, PySem.W.mg_none_of X G z_range, PySem.W.mg_none_of X G z_tuple, PySem.W.mg_none_of X G z_isinstance, PySem.W.mg_none_of X G z_LookupError, PySem.W.mg_none_of X G z_ValueError, PySem.W.mg_none_of X G z_KeyError⟩
  have Gb : Glb mg cl aOp aIn aRun := ⟨Bl, PySem.W.mg_of X G a0, PySem.W.mg_of X G a1, PySem.W.mg_of X G a2, PySem.W.mg_of X G a3, PySem.W.mg_of X G a4, PySem.W.mg_of X G a5, PySem.W.mg_of X G a6, PySem.W.mg_of X G a7, PySem.W.mg_of X G a8, PySem.W.mg_of X G a9, PySem.W.mg_of X G aO, PySem.W.mg_of X G aI, PySem.W.mg_of X G aR⟩
  have Mk : Mks PP w K mg cl aOp aIn aRun := ⟨Gb, M0.1, M0.2, kp0, M1.1, M1.2, kp1, M2.1, M2.2, kp2, M3.1, M3.2, kp3, M4.1, M4.2, kp4, M5.1, M5.2, kp5, M6.1, M6.2, kp6, M7.1, M7.2, kp7, M8.1, M8.2, kp8, M9.1, M9.2, kp9⟩
  have N : Nof K cl := ⟨no_p0, no_q0, no_p1, no_p2, no_p3, no_p4, no_p5, no_q5, no_p6, no_q6, no_p7, no_p8, no_p9⟩
  have Z : Kit K cl aOp aIn aRun := {
    ask := fun n h => match n, h with
      | 0, _ => ⟨hg0, hk0, hs0, hd0, ha0, hn, ht, hm0⟩
      | 1, _ => ⟨hg1, hk1, hs1, hd1, ha1, hn, ht, hm1⟩
      | 2, _ => ⟨hg2, hk2, hs2, hd2, ha2, hn, ht, hm2⟩
      | 3, _ => ⟨hg3, hk3, hs3, hd3, ha3, hn, ht, hm3⟩
      | 4, _ => ⟨hg4, hk4, hs4, hd4, ha4, hn, ht, hm4⟩
      | 5, _ => ⟨hg5, hk5, hs5, hd5, ha5, hn, ht, hm5⟩
      | 6, _ => ⟨hg6, hk6, hs6, hd6, ha6, hn, ht, hm6⟩
      | 7, _ => ⟨hg7, hk7, hs7, hd7, ha7, hn, ht, hm7⟩
      | 8, _ => ⟨hg8, hk8, hs8, hd8, ha8, hn, ht, hm8⟩
      | 9, _ => ⟨hg9, hk9, hs9, hd9, ha9, hn, ht, hm9⟩
      | n + 10, h => absurd h (by omega)
    kit := fun n j hn hj => match n, j, hn, hj with
      | 0, 0, _, _ => kit_ref s0_0 ty0 ic0 s0_0
      | 0, 1, _, _ => kit_ref s0_0 ty1 ic1 s0_1
      | 0, 2, _, _ => kit_ref s0_0 ty2 ic2 s0_2
      | 0, 3, _, _ => kit_ref s0_0 ty3 ic3 s0_3
      | 0, 4, _, _ => kit_ref s0_0 ty4 ic4 s0_4
      | 0, 5, _, _ => kit_ref s0_0 ty5 ic5 s0_5
      | 0, 6, _, _ => kit_ref s0_0 ty6 ic6 s0_6
      | 0, 7, _, _ => kit_ref s0_0 ty7 ic7 s0_7
      | 0, 8, _, _ => kit_ref s0_0 ty8 ic8 s0_8
      | 0, 9, _, _ => kit_ref s0_0 ty9 ic9 s0_9
      | 0, j + 10, _, hj => absurd hj (by omega)
      | 1, 0, _, _ => kit_ref s1_1 ty0 ic0 s1_0
      | 1, 1, _, _ => kit_ref s1_1 ty1 ic1 s1_1
      | 1, 2, _, _ => kit_ref s1_1 ty2 ic2 s1_2
      | 1, 3, _, _ => kit_ref s1_1 ty3 ic3 s1_3
      | 1, 4, _, _ => kit_ref s1_1 ty4 ic4 s1_4
      | 1, 5, _, _ => kit_ref s1_1 ty5 ic5 s1_5
      | 1, 6, _, _ => kit_ref s1_1 ty6 ic6 s1_6
      | 1, 7, _, _ => kit_ref s1_1 ty7 ic7 s1_7
      | 1, 8, _, _ => kit_ref s1_1 ty8 ic8 s1_8
      | 1, 9, _, _ => kit_ref s1_1 ty9 ic9 s1_9
      | 1, j + 10, _, hj => absurd hj (by omega)
      | 2, 0, _, _ => kit_ref s2_2 ty0 ic0 s2_0
      | 2, 1, _, _ => kit_ref s2_2 ty1 ic1 s2_1
      | 2, 2, _, _ => kit_ref s2_2 ty2 ic2 s2_2
      | 2, 3, _, _ => kit_ref s2_2 ty3 ic3 s2_3
      | 2, 4, _, _ => kit_ref s2_2 ty4 ic4 s2_4
      | 2, 5, _, _ => kit_ref s2_2 ty5 ic5 s2_5
      | 2, 6, _, _ => kit_ref s2_2 ty6 ic6 s2_6
      | 2, 7, _, _ => kit_ref s2_2 ty7 ic7 s2_7
      | 2, 8, _, _ => kit_ref s2_2 ty8 ic8 s2_8
      | 2, 9, _, _ => kit_ref s2_2 ty9 ic9 s2_9
      | 2, j + 10, _, hj => absurd hj (by omega)
      | 3, 0, _, _ => kit_ref s3_3 ty0 ic0 s3_0
      | 3, 1, _, _ => kit_ref s3_3 ty1 ic1 s3_1
      | 3, 2, _, _ => kit_ref s3_3 ty2 ic2 s3_2
      | 3, 3, _, _ => kit_ref s3_3 ty3 ic3 s3_3
      | 3, 4, _, _ => kit_ref s3_3 ty4 ic4 s3_4
      | 3, 5, _, _ => kit_ref s3_3 ty5 ic5 s3_5
      | 3, 6, _, _ => kit_ref s3_3 ty6 ic6 s3_6
      | 3, 7, _, _ => kit_ref s3_3 ty7 ic7 s3_7
      | 3, 8, _, _ => kit_ref s3_3 ty8 ic8 s3_8
      | 3, 9, _, _ => kit_ref s3_3 ty9 ic9 s3_9
      | 3, j + 10, _, hj => absurd hj (by omega)
      | 4, 0, _, _ => kit_ref s4_4 ty0 ic0 s4_0
      | 4, 1, _, _ => kit_ref s4_4 ty1 ic1 s4_1
      | 4, 2, _, _ => kit_ref s4_4 ty2 ic2 s4_2
      | 4, 3, _, _ => kit_ref s4_4 ty3 ic3 s4_3
      | 4, 4, _, _ => kit_ref s4_4 ty4 ic4 s4_4
      | 4, 5, _, _ => kit_ref s4_4 ty5 ic5 s4_5
      | 4, 6, _, _ => kit_ref s4_4 ty6 ic6 s4_6
      | 4, 7, _, _ => kit_ref s4_4 ty7 ic7 s4_7
      | 4, 8, _, _ => kit_ref s4_4 ty8 ic8 s4_8
      | 4, 9, _, _ => kit_ref s4_4 ty9 ic9 s4_9
      | 4, j + 10, _, hj => absurd hj (by omega)
      | 5, 0, _, _ => kit_ref s5_5 ty0 ic0 s5_0
      | 5, 1, _, _ => kit_ref s5_5 ty1 ic1 s5_1
      | 5, 2, _, _ => kit_ref s5_5 ty2 ic2 s5_2
      | 5, 3, _, _ => kit_ref s5_5 ty3 ic3 s5_3
      | 5, 4, _, _ => kit_ref s5_5 ty4 ic4 s5_4
      | 5, 5, _, _ => kit_ref s5_5 ty5 ic5 s5_5
      | 5, 6, _, _ => kit_ref s5_5 ty6 ic6 s5_6
      | 5, 7, _, _ => kit_ref s5_5 ty7 ic7 s5_7
      | 5, 8, _, _ => kit_ref s5_5 ty8 ic8 s5_8
      | 5, 9, _, _ => kit_ref s5_5 ty9 ic9 s5_9
      | 5, j + 10, _, hj => absurd hj (by omega)
      | 6, 0, _, _ => kit_ref s6_6 ty0 ic0 s6_0
      | 6, 1, _, _ => kit_ref s6_6 ty1 ic1 s6_1
      | 6, 2, _, _ => kit_ref s6_6 ty2 ic2 s6_2
      | 6, 3, _, _ => kit_ref s6_6 ty3 ic3 s6_3
      | 6, 4, _, _ => kit_ref s6_6 ty4 ic4 s6_4
      | 6, 5, _, _ => kit_ref s6_6 ty5 ic5 s6_5
      | 6, 6, _, _ => kit_ref s6_6 ty6 ic6 s6_6
      | 6, 7, _, _ => kit_ref s6_6 ty7 ic7 s6_7
      | 6, 8, _, _ => kit_ref s6_6 ty8 ic8 s6_8
      | 6, 9, _, _ => kit_ref s6_6 ty9 ic9 s6_9
      | 6, j + 10, _, hj => absurd hj (by omega)
      | 7, 0, _, _ => kit_ref s7_7 ty0 ic0 s7_0
      | 7, 1, _, _ => kit_ref s7_7 ty1 ic1 s7_1
      | 7, 2, _, _ => kit_ref s7_7 ty2 ic2 s7_2
      | 7, 3, _, _ => kit_ref s7_7 ty3 ic3 s7_3
      | 7, 4, _, _ => kit_ref s7_7 ty4 ic4 s7_4
      | 7, 5, _, _ => kit_ref s7_7 ty5 ic5 s7_5
      | 7, 6, _, _ => kit_ref s7_7 ty6 ic6 s7_6
      | 7, 7, _, _ => kit_ref s7_7 ty7 ic7 s7_7
      | 7, 8, _, _ => kit_ref s7_7 ty8 ic8 s7_8
      | 7, 9, _, _ => kit_ref s7_7 ty9 ic9 s7_9
      | 7, j + 10, _, hj => absurd hj (by omega)
      | 8, 0, _, _ => kit_ref s8_8 ty0 ic0 s8_0
      | 8, 1, _, _ => kit_ref s8_8 ty1 ic1 s8_1
      | 8, 2, _, _ => kit_ref s8_8 ty2 ic2 s8_2
      | 8, 3, _, _ => kit_ref s8_8 ty3 ic3 s8_3
      | 8, 4, _, _ => kit_ref s8_8 ty4 ic4 s8_4
      | 8, 5, _, _ => kit_ref s8_8 ty5 ic5 s8_5
      | 8, 6, _, _ => kit_ref s8_8 ty6 ic6 s8_6
      | 8, 7, _, _ => kit_ref s8_8 ty7 ic7 s8_7
      | 8, 8, _, _ => kit_ref s8_8 ty8 ic8 s8_8
      | 8, 9, _, _ => kit_ref s8_8 ty9 ic9 s8_9
      | 8, j + 10, _, hj => absurd hj (by omega)
      | 9, 0, _, _ => kit_ref s9_9 ty0 ic0 s9_0
      | 9, 1, _, _ => kit_ref s9_9 ty1 ic1 s9_1
      | 9, 2, _, _ => kit_ref s9_9 ty2 ic2 s9_2
      | 9, 3, _, _ => kit_ref s9_9 ty3 ic3 s9_3
      | 9, 4, _, _ => kit_ref s9_9 ty4 ic4 s9_4
      | 9, 5, _, _ => kit_ref s9_9 ty5 ic5 s9_5
      | 9, 6, _, _ => kit_ref s9_9 ty6 ic6 s9_6
      | 9, 7, _, _ => kit_ref s9_9 ty7 ic7 s9_7
      | 9, 8, _, _ => kit_ref s9_9 ty8 ic8 s9_8
      | 9, 9, _, _ => kit_ref s9_9 ty9 ic9 s9_9
      | 9, j + 10, _, hj => absurd hj (by omega)
      | n + 10, j, hn, _ => absurd hn (by omega)
    kIn := fun n hn => match n, hn with
      | 0, _ => kit_ref s0_0 tIn iIn sI0
      | 1, _ => kit_ref s1_1 tIn iIn sI1
      | 2, _ => kit_ref s2_2 tIn iIn sI2
      | 3, _ => kit_ref s3_3 tIn iIn sI3
      | 4, _ => kit_ref s4_4 tIn iIn sI4
      | 5, _ => kit_ref s5_5 tIn iIn sI5
      | 6, _ => kit_ref s6_6 tIn iIn sI6
      | 7, _ => kit_ref s7_7 tIn iIn sI7
      | 8, _ => kit_ref s8_8 tIn iIn sI8
      | 9, _ => kit_ref s9_9 tIn iIn sI9
      | n + 10, hn => absurd hn (by omega)
    kRun := fun n hn => match n, hn with
      | 0, _ => kit_ref s0_0 tRun iRun sR0
      | 1, _ => kit_ref s1_1 tRun iRun sR1
      | 2, _ => kit_ref s2_2 tRun iRun sR2
      | 3, _ => kit_ref s3_3 tRun iRun sR3
      | 4, _ => kit_ref s4_4 tRun iRun sR4
      | 5, _ => kit_ref s5_5 tRun iRun sR5
      | 6, _ => kit_ref s6_6 tRun iRun sR6
      | 7, _ => kit_ref s7_7 tRun iRun sR7
      | 8, _ => kit_ref s8_8 tRun iRun sR8
      | 9, _ => kit_ref s9_9 tRun iRun sR9
      | n + 10, hn => absurd hn (by omega)
    kOp := fun n hn => match n, hn with
      | 0, _ => kit_ref s0_0 tOp iOp sO0
      | 1, _ => kit_ref s1_1 tOp iOp sO1
      | 2, _ => kit_ref s2_2 tOp iOp sO2
      | 3, _ => kit_ref s3_3 tOp iOp sO3
      | 4, _ => kit_ref s4_4 tOp iOp sO4
      | 5, _ => kit_ref s5_5 tOp iOp sO5
      | 6, _ => kit_ref s6_6 tOp iOp sO6
      | 7, _ => kit_ref s7_7 tOp iOp sO7
      | 8, _ => kit_ref s8_8 tOp iOp sO8
      | 9, _ => kit_ref s9_9 tOp iOp sO9
      | n + 10, hn => absurd hn (by omega)
    kLk := fun n hn => match n, hn with
      | 0, _ => kit_type (by decide +kernel) lE0
      | 1, _ => kit_type (by decide +kernel) lE1
      | 2, _ => kit_type (by decide +kernel) lE2
      | 3, _ => kit_type (by decide +kernel) lE3
      | 4, _ => kit_type (by decide +kernel) lE4
      | 5, _ => kit_type (by decide +kernel) lE5
      | 6, _ => kit_type (by decide +kernel) lE6
      | 7, _ => kit_type (by decide +kernel) lE7
      | 8, _ => kit_type (by decide +kernel) lE8
      | 9, _ => kit_type (by decide +kernel) lE9
      | n + 10, hn => absurd hn (by omega)
    kVE := fun n hn => match n, hn with
      | 0, _ => kit_type (by decide +kernel) vE0
      | 1, _ => kit_type (by decide +kernel) vE1
      | 2, _ => kit_type (by decide +kernel) vE2
      | 3, _ => kit_type (by decide +kernel) vE3
      | 4, _ => kit_type (by decide +kernel) vE4
      | 5, _ => kit_type (by decide +kernel) vE5
      | 6, _ => kit_type (by decide +kernel) vE6
      | 7, _ => kit_type (by decide +kernel) vE7
      | 8, _ => kit_type (by decide +kernel) vE8
      | 9, _ => kit_type (by decide +kernel) vE9
      | n + 10, hn => absurd hn (by omega)
    kKE := fun n hn => match n, hn with
      | 0, _ => kit_type (by decide +kernel) kE0
      | 1, _ => kit_type (by decide +kernel) kE1
      | 2, _ => kit_type (by decide +kernel) kE2
      | 3, _ => kit_type (by decide +kernel) kE3
      | 4, _ => kit_type (by decide +kernel) kE4
      | 5, _ => kit_type (by decide +kernel) kE5
      | 6, _ => kit_type (by decide +kernel) kE6
      | 7, _ => kit_type (by decide +kernel) kE7
      | 8, _ => kit_type (by decide +kernel) kE8
      | 9, _ => kit_type (by decide +kernel) kE9
      | n + 10, hn => absurd hn (by omega) }
  have F0 := fun_mk (st := s__law_pool) L0 D0 P0
  have B0 := F0.binds (ps := ["_law_script", "_law_number"]) fun _ _ _ _ _ _ us hl => match us, hl with | [_, _], _ => rfl
  have F1 := fun_mk (st := s__law_draw) L1 D1 P1
  have B1 := F1.binds (ps := ["_law_pool_here", "_law_many"]) fun _ _ _ _ _ _ us hl => match us, hl with | [_, _], _ => rfl
  have F2 := fun_mk (st := s__law_above) L2 D2 P2
  have B2 := F2.binds (ps := ["_law_error"]) fun _ _ _ _ _ _ us hl => match us, hl with | [_], _ => rfl
  have F3 := fun_mk (st := s__law_fits) L3 D3 P3
  have B3 := F3.binds (ps := ["_law_error", "_law_number"]) fun _ _ _ _ _ _ us hl => match us, hl with | [_, _], _ => rfl
  have F4 := fun_mk (st := s__law_inputs_fit) L4 D4 P4
  have B4 := F4.binds (ps := ["_law_text", "_law_steps", "_law_index"]) fun _ _ _ _ _ _ us hl => match us, hl with | [_, _, _], _ => rfl
  have F5 := fun_mk (st := s_law) L5 D5 P5
  refine ⟨PySem.W.fnOf "law" "law" (defArgs s_law) (defBody s_law) (defScope s_law) .none xk5 xc5 xp5 xa5 xe5 xt5, fun s v => .of_eq rfl, fun base _ _ => ?_⟩
  have G0 : FnOk PP w K mg base CX0 1 g0 _ ["_law_script", "_law_number"] (spPool K) := ok_pool F0 Bl
  have G1 : FnOk PP w K mg base CX0 1 g1 _ ["_law_pool_here", "_law_many"] spDraw := ok_draw F1 Bl
  have G2 : FnOk PP w K mg base CX0 1 g2 _ ["_law_error"] (spAbove cl) := ok_above F2 Gb Z
  have G3 : FnOk PP w K mg base CX0 2 g3 _ ["_law_error", "_law_number"] (spFits cl) := ok_fits F3 Gb Z G2 ⟨PySem.W.mg_of X G A2, P2, B2⟩
  have G4 : FnOk PP w K mg base CX0 3 g4 _ ["_law_text", "_law_steps", "_law_index"] (spInputs K) := ok_inputs F4 Mk Z N G3 ⟨PySem.W.mg_of X G A3, P3, B3⟩
  exact ok_law F5 Mk Z N G0 ⟨PySem.W.mg_of X G A0, P0, B0⟩ G1 ⟨PySem.W.mg_of X G A1, P1, B1⟩ G3 ⟨PySem.W.mg_of X G A3, P3, B3⟩ G4 ⟨PySem.W.mg_of X G A4, P4, B4⟩
theorem walk {q : Program} {loose : List Str} {XP : (Str → Option Value) → Heap → Prop} {YP : World → Heap → Prop} {d : DefRec} {K : Params → PySem.W.Frag} (hdf : d.params.defaults = [])
    (hY : ∀ (w : World) (h : Heap), YP w h → (K w.params).In h)
    (F : ∀ (w : World) (mg : Str → Option Value) (fa : Addr) (h : Heap), (K w.params).In h → h.Ns mainGlobals mg → mg d.name = some (.ref fa) →
      ∃ fd : FuncData, (∀ (s : Shared) (u : Value), BindsTo s fd ⟨[u], []⟩ [("_law_script", u)]) ∧ ∀ base : Heap, (K w.params).In base → base.Ns mainGlobals mg → FnOk PP w (K w.params) mg base CX0 4 fa fd ["_law_script"] (spLaw (K w.params))) :
    PySem.W.WalkO q loose XP YP PySem.Challenge.rw_openruns_k84_errors_made_by_name.row.toRowW d [] (fun f vs => PySem.call f vs) :=
  L2.walk_of (l := PySem.Challenge.rw_openruns_k84_errors_made_by_name) (n := 63) (k := 4) (x := "_law_script") (CX := fun _ => CX0) (sp := fun w => spLaw (K w.params)) rfl (by decide) hdf ⟨rfl, by decide, by decide⟩ hY F (fun _ _ a ns hl _ hS => ⟨a, ns, rfl, hS, hl, fun _ => rfl⟩) fun _ _ _ _ _ z => z
end K84
open PySem PySem.W PyProof.Rows
set_option maxRecDepth 100000 in
set_option maxHeartbeats 0 in
theorem PySem.Challenge.cw_openruns_k84_errors_made_by_name_holds : PySem.Challenge.rw_openruns_k84_errors_made_by_name.Holds := by
  w_on; o_law; k_head; (case hw => w_witness2)
  k_fill
  refine K84.walk rfl (fun w h Y => PySem.W.kIn_of Y) ?F
  case F =>
    intro w mg fa h KX G hmg
    refine' K84.all_mk KX G hmg ?aO ?aI ?aR ?tOp ?iOp ?tIn ?iIn ?tRun ?iRun ?opq ?sg ?hn ?ht ?z_len ?z_int ?z_range ?z_tuple ?z_isinstance ?z_LookupError ?z_ValueError ?z_KeyError ?a0 ?l0 ?sa0 ?su0 ?ii0 ?ti0 ?lf0 ?cf0 ?lc0 ?ld0 ?v20 ?fe0 ?kp0 ?hg0 ?hk0 ?hs0 ?hd0 ?ha0 ?hm0 ?ty0 ?ic0 ?no_p0 ?no_q0 ?vE0 ?kE0 ?lE0 ?sO0 ?sI0 ?sR0 ?a1 ?l1 ?sa1 ?su1 ?ii1 ?ti1 ?lf1 ?cf1 ?lc1 ?ld1 ?v21 ?fe1 ?kp1 ?hg1 ?hk1 ?hs1 ?hd1 ?ha1 ?hm1 ?ty1 ?ic1 ?no_p1 ?vE1 ?kE1 ?lE1 ?sO1 ?sI1 ?sR1 ?a2 ?l2 ?sa2 ?su2 ?ii2 ?ti2 ?lf2 ?cf2 ?lc2 ?ld2 ?v22 ?fe2 ?kp2 ?hg2 ?hk2 ?hs2 ?hd2 ?ha2 ?hm2 ?ty2 ?ic2 ?no_p2 ?vE2 ?kE2 ?lE2 ?sO2 ?sI2 ?sR2 ?a3 ?l3 ?sa3 ?su3 ?ii3 ?ti3 ?lf3 ?cf3 ?lc3 ?ld3 ?v23 ?fe3 ?kp3 ?hg3 ?hk3 ?hs3 ?hd3 ?ha3 ?hm3 ?ty3 ?ic3 ?no_p3 ?vE3 ?kE3 ?lE3 ?sO3 ?sI3 ?sR3 ?a4 ?l4 ?sa4 ?su4 ?ii4 ?ti4 ?lf4 ?cf4 ?lc4 ?ld4 ?v24 ?fe4 ?kp4 ?hg4 ?hk4 ?hs4 ?hd4 ?ha4 ?hm4 ?ty4 ?ic4 ?no_p4 ?vE4 ?kE4 ?lE4 ?sO4 ?sI4 ?sR4 ?a5 ?l5 ?sa5 ?su5 ?ii5 ?ti5 ?lf5 ?cf5 ?lc5 ?ld5 ?v25 ?fe5 ?kp5 ?hg5 ?hk5 ?hs5 ?hd5 ?ha5 ?hm5 ?ty5 ?ic5 ?no_p5 ?no_q5 ?vE5 ?kE5 ?lE5 ?sO5 ?sI5 ?sR5 ?a6 ?l6 ?sa6 ?su6 ?ii6 ?ti6 ?lf6 ?cf6 ?lc6 ?ld6 ?v26 ?fe6 ?kp6 ?hg6 ?hk6 ?hs6 ?hd6 ?ha6 ?hm6 ?ty6 ?ic6 ?no_p6 ?no_q6 ?vE6 ?kE6 ?lE6 ?sO6 ?sI6 ?sR6 ?a7 ?l7 ?sa7 ?su7 ?ii7 ?ti7 ?lf7 ?cf7 ?lc7 ?ld7 ?v27 ?fe7 ?kp7 ?hg7 ?hk7 ?hs7 ?hd7 ?ha7 ?hm7 ?ty7 ?ic7 ?no_p7 ?vE7 ?kE7 ?lE7 ?sO7 ?sI7 ?sR7 ?a8 ?l8 ?sa8 ?su8 ?ii8 ?ti8 ?lf8 ?cf8 ?lc8 ?ld8 ?v28 ?fe8 ?kp8 ?hg8 ?hk8 ?hs8 ?hd8 ?ha8 ?hm8 ?ty8 ?ic8 ?no_p8 ?vE8 ?kE8 ?lE8 ?sO8 ?sI8 ?sR8 ?a9 ?l9 ?sa9 ?su9 ?ii9 ?ti9 ?lf9 ?cf9 ?lc9 ?ld9 ?v29 ?fe9 ?kp9 ?hg9 ?hk9 ?hs9 ?hd9 ?ha9 ?hm9 ?ty9 ?ic9 ?no_p9 ?vE9 ?kE9 ?lE9 ?sO9 ?sI9 ?sR9 ?s0_0 ?s0_1 ?s0_2 ?s0_3 ?s0_4 ?s0_5 ?s0_6 ?s0_7 ?s0_8 ?s0_9 ?s1_0 ?s1_1 ?s1_2 ?s1_3 ?s1_4 ?s1_5 ?s1_6 ?s1_7 ?s1_8 ?s1_9 ?s2_0 ?s2_1 ?s2_2 ?s2_3 ?s2_4 ?s2_5 ?s2_6 ?s2_7 ?s2_8 ?s2_9 ?s3_0 ?s3_1 ?s3_2 ?s3_3 ?s3_4 ?s3_5 ?s3_6 ?s3_7 ?s3_8 ?s3_9 ?s4_0 ?s4_1 ?s4_2 ?s4_3 ?s4_4 ?s4_5 ?s4_6 ?s4_7 ?s4_8 ?s4_9 ?s5_0 ?s5_1 ?s5_2 ?s5_3 ?s5_4 ?s5_5 ?s5_6 ?s5_7 ?s5_8 ?s5_9 ?s6_0 ?s6_1 ?s6_2 ?s6_3 ?s6_4 ?s6_5 ?s6_6 ?s6_7 ?s6_8 ?s6_9 ?s7_0 ?s7_1 ?s7_2 ?s7_3 ?s7_4 ?s7_5 ?s7_6 ?s7_7 ?s7_8 ?s7_9 ?s8_0 ?s8_1 ?s8_2 ?s8_3 ?s8_4 ?s8_5 ?s8_6 ?s8_7 ?s8_8 ?s8_9 ?s9_0 ?s9_1 ?s9_2 ?s9_3 ?s9_4 ?s9_5 ?s9_6 ?s9_7 ?s9_8 ?s9_9 ?A0 ?L0 ?D0 ?P0 ?A1 ?L1 ?D1 ?P1 ?A2 ?L2 ?D2 ?P2 ?A3 ?L3 ?D3 ?P3 ?A4 ?L4 ?D4 ?P4 ?A5 ?L5 ?D5 ?P5
    (case aO => k_is)
    (case aI => k_is)
    (case aR => k_is)
    (case tOp => k_is)
    (case iOp => k_is)
    (case tIn => k_is)
    (case iIn => k_is)
    (case tRun => k_is)
    (case iRun => k_is)
    (case opq => k_is)
    (case sg => k_is)
    (case hn => k_is)
    (case ht => k_is)
    (case z_len => k_is)
    (case z_int => k_is)
    (case z_range => k_is)
    (case z_tuple => k_is)
    (case z_isinstance => k_is)
    (case z_LookupError => k_is)
    (case z_ValueError => k_is)
    (case z_KeyError => k_is)
    (case a0 => k_is)
    (case l0 => k_is)
    (case sa0 => k_is)
    (case su0 => rfl)
    (case ii0 => k_is)
    (case ti0 => k_is)
    (case lf0 => k_is)
    (case cf0 => k_is)
    (case lc0 => k_is)
    (case ld0 => k_is)
    (case v20 => rfl)
    (case fe0 => decide +kernel)
    (case kp0 => k_is)
    (case hg0 => k_is)
    (case hk0 => k_is)
    (case hs0 => k_is)
    (case hd0 => k_is)
    (case ha0 => k_is)
    (case hm0 => k_is)
    (case ty0 => k_is)
    (case ic0 => k_is)
    (case no_p0 => k_is)
    (case no_q0 => k_is)
    (case vE0 => k_is)
    (case kE0 => k_is)
    (case lE0 => k_is)
    (case sO0 => k_is)
    (case sI0 => k_is)
    (case sR0 => k_is)
    (case a1 => k_is)
    (case l1 => k_is)
    (case sa1 => k_is)
    (case su1 => rfl)
    (case ii1 => k_is)
    (case ti1 => k_is)
    (case lf1 => k_is)
    (case cf1 => k_is)
    (case lc1 => k_is)
    (case ld1 => k_is)
    (case v21 => rfl)
    (case fe1 => decide +kernel)
    (case kp1 => k_is)
    (case hg1 => k_is)
    (case hk1 => k_is)
    (case hs1 => k_is)
    (case hd1 => k_is)
    (case ha1 => k_is)
    (case hm1 => k_is)
    (case ty1 => k_is)
    (case ic1 => k_is)
    (case no_p1 => k_is)
    (case vE1 => k_is)
    (case kE1 => k_is)
    (case lE1 => k_is)
    (case sO1 => k_is)
    (case sI1 => k_is)
    (case sR1 => k_is)
    (case a2 => k_is)
    (case l2 => k_is)
    (case sa2 => k_is)
    (case su2 => rfl)
    (case ii2 => k_is)
    (case ti2 => k_is)
    (case lf2 => k_is)
    (case cf2 => k_is)
    (case lc2 => k_is)
    (case ld2 => k_is)
    (case v22 => rfl)
    (case fe2 => decide +kernel)
    (case kp2 => k_is)
    (case hg2 => k_is)
    (case hk2 => k_is)
    (case hs2 => k_is)
    (case hd2 => k_is)
    (case ha2 => k_is)
    (case hm2 => k_is)
    (case ty2 => k_is)
    (case ic2 => k_is)
    (case no_p2 => k_is)
    (case vE2 => k_is)
    (case kE2 => k_is)
    (case lE2 => k_is)
    (case sO2 => k_is)
    (case sI2 => k_is)
    (case sR2 => k_is)
    (case a3 => k_is)
    (case l3 => k_is)
    (case sa3 => k_is)
    (case su3 => rfl)
    (case ii3 => k_is)
    (case ti3 => k_is)
    (case lf3 => k_is)
    (case cf3 => k_is)
    (case lc3 => k_is)
    (case ld3 => k_is)
    (case v23 => rfl)
    (case fe3 => decide +kernel)
    (case kp3 => k_is)
    (case hg3 => k_is)
    (case hk3 => k_is)
    (case hs3 => k_is)
    (case hd3 => k_is)
    (case ha3 => k_is)
    (case hm3 => k_is)
    (case ty3 => k_is)
    (case ic3 => k_is)
    (case no_p3 => k_is)
    (case vE3 => k_is)
    (case kE3 => k_is)
    (case lE3 => k_is)
    (case sO3 => k_is)
    (case sI3 => k_is)
    (case sR3 => k_is)
    (case a4 => k_is)
    (case l4 => k_is)
    (case sa4 => k_is)
    (case su4 => rfl)
    (case ii4 => k_is)
    (case ti4 => k_is)
    (case lf4 => k_is)
    (case cf4 => k_is)
    (case lc4 => k_is)
    (case ld4 => k_is)
    (case v24 => rfl)
    (case fe4 => decide +kernel)
    (case kp4 => k_is)
    (case hg4 => k_is)
    (case hk4 => k_is)
    (case hs4 => k_is)
    (case hd4 => k_is)
    (case ha4 => k_is)
    (case hm4 => k_is)
    (case ty4 => k_is)
    (case ic4 => k_is)
    (case no_p4 => k_is)
    (case vE4 => k_is)
    (case kE4 => k_is)
    (case lE4 => k_is)
    (case sO4 => k_is)
    (case sI4 => k_is)
    (case sR4 => k_is)
    (case a5 => k_is)
    (case l5 => k_is)
    (case sa5 => k_is)
    (case su5 => rfl)
    (case ii5 => k_is)
    (case ti5 => k_is)
    (case lf5 => k_is)
    (case cf5 => k_is)
    (case lc5 => k_is)
    (case ld5 => k_is)
    (case v25 => rfl)
    (case fe5 => decide +kernel)
    (case kp5 => k_is)
    (case hg5 => k_is)
    (case hk5 => k_is)
    (case hs5 => k_is)
    (case hd5 => k_is)
    (case ha5 => k_is)
    (case hm5 => k_is)
    (case ty5 => k_is)
    (case ic5 => k_is)
    (case no_p5 => k_is)
    (case no_q5 => k_is)
    (case vE5 => k_is)
    (case kE5 => k_is)
    (case lE5 => k_is)
    (case sO5 => k_is)
    (case sI5 => k_is)
    (case sR5 => k_is)
    (case a6 => k_is)
    (case l6 => k_is)
    (case sa6 => k_is)
    (case su6 => rfl)
    (case ii6 => k_is)
    (case ti6 => k_is)
    (case lf6 => k_is)
    (case cf6 => k_is)
    (case lc6 => k_is)
    (case ld6 => k_is)
    (case v26 => rfl)
    (case fe6 => decide +kernel)
    (case kp6 => k_is)
    (case hg6 => k_is)
    (case hk6 => k_is)
    (case hs6 => k_is)
    (case hd6 => k_is)
    (case ha6 => k_is)
    (case hm6 => k_is)
    (case ty6 => k_is)
    (case ic6 => k_is)
    (case no_p6 => k_is)
    (case no_q6 => k_is)
    (case vE6 => k_is)
    (case kE6 => k_is)
    (case lE6 => k_is)
    (case sO6 => k_is)
    (case sI6 => k_is)
    (case sR6 => k_is)
    (case a7 => k_is)
    (case l7 => k_is)
    (case sa7 => k_is)
    (case su7 => rfl)
    (case ii7 => k_is)
    (case ti7 => k_is)
    (case lf7 => k_is)
    (case cf7 => k_is)
    (case lc7 => k_is)
    (case ld7 => k_is)
    (case v27 => rfl)
    (case fe7 => decide +kernel)
    (case kp7 => k_is)
    (case hg7 => k_is)
    (case hk7 => k_is)
    (case hs7 => k_is)
    (case hd7 => k_is)
    (case ha7 => k_is)
    (case hm7 => k_is)
    (case ty7 => k_is)
    (case ic7 => k_is)
    (case no_p7 => k_is)
    (case vE7 => k_is)
    (case kE7 => k_is)
    (case lE7 => k_is)
    (case sO7 => k_is)
    (case sI7 => k_is)
    (case sR7 => k_is)
    (case a8 => k_is)
    (case l8 => k_is)
    (case sa8 => k_is)
    (case su8 => rfl)
    (case ii8 => k_is)
    (case ti8 => k_is)
    (case lf8 => k_is)
    (case cf8 => k_is)
    (case lc8 => k_is)
    (case ld8 => k_is)
    (case v28 => rfl)
    (case fe8 => decide +kernel)
    (case kp8 => k_is)
    (case hg8 => k_is)
    (case hk8 => k_is)
    (case hs8 => k_is)
    (case hd8 => k_is)
    (case ha8 => k_is)
    (case hm8 => k_is)
    (case ty8 => k_is)
    (case ic8 => k_is)
    (case no_p8 => k_is)
    (case vE8 => k_is)
    (case kE8 => k_is)
    (case lE8 => k_is)
    (case sO8 => k_is)
    (case sI8 => k_is)
    (case sR8 => k_is)
    (case a9 => k_is)
    (case l9 => k_is)
    (case sa9 => k_is)
    (case su9 => rfl)
    (case ii9 => k_is)
    (case ti9 => k_is)
    (case lf9 => k_is)
    (case cf9 => k_is)
    (case lc9 => k_is)
    (case ld9 => k_is)
    (case v29 => rfl)
    (case fe9 => decide +kernel)
    (case kp9 => k_is)
    (case hg9 => k_is)
    (case hk9 => k_is)
    (case hs9 => k_is)
    (case hd9 => k_is)
    (case ha9 => k_is)
    (case hm9 => k_is)
    (case ty9 => k_is)
    (case ic9 => k_is)
    (case no_p9 => k_is)
    (case vE9 => k_is)
    (case kE9 => k_is)
    (case lE9 => k_is)
    (case sO9 => k_is)
    (case sI9 => k_is)
    (case sR9 => k_is)
    (case s0_0 => k_is)
    (case s0_1 => k_is)
    (case s0_2 => k_is)
    (case s0_3 => k_is)
    (case s0_4 => k_is)
    (case s0_5 => k_is)
    (case s0_6 => k_is)
    (case s0_7 => k_is)
    (case s0_8 => k_is)
    (case s0_9 => k_is)
    (case s1_0 => k_is)
    (case s1_1 => k_is)
    (case s1_2 => k_is)
    (case s1_3 => k_is)
    (case s1_4 => k_is)
    (case s1_5 => k_is)
    (case s1_6 => k_is)
    (case s1_7 => k_is)
    (case s1_8 => k_is)
    (case s1_9 => k_is)
    (case s2_0 => k_is)
    (case s2_1 => k_is)
    (case s2_2 => k_is)
    (case s2_3 => k_is)
    (case s2_4 => k_is)
    (case s2_5 => k_is)
    (case s2_6 => k_is)
    (case s2_7 => k_is)
    (case s2_8 => k_is)
    (case s2_9 => k_is)
    (case s3_0 => k_is)
    (case s3_1 => k_is)
    (case s3_2 => k_is)
    (case s3_3 => k_is)
    (case s3_4 => k_is)
    (case s3_5 => k_is)
    (case s3_6 => k_is)
    (case s3_7 => k_is)
    (case s3_8 => k_is)
    (case s3_9 => k_is)
    (case s4_0 => k_is)
    (case s4_1 => k_is)
    (case s4_2 => k_is)
    (case s4_3 => k_is)
    (case s4_4 => k_is)
    (case s4_5 => k_is)
    (case s4_6 => k_is)
    (case s4_7 => k_is)
    (case s4_8 => k_is)
    (case s4_9 => k_is)
    (case s5_0 => k_is)
    (case s5_1 => k_is)
    (case s5_2 => k_is)
    (case s5_3 => k_is)
    (case s5_4 => k_is)
    (case s5_5 => k_is)
    (case s5_6 => k_is)
    (case s5_7 => k_is)
    (case s5_8 => k_is)
    (case s5_9 => k_is)
    (case s6_0 => k_is)
    (case s6_1 => k_is)
    (case s6_2 => k_is)
    (case s6_3 => k_is)
    (case s6_4 => k_is)
    (case s6_5 => k_is)
    (case s6_6 => k_is)
    (case s6_7 => k_is)
    (case s6_8 => k_is)
    (case s6_9 => k_is)
    (case s7_0 => k_is)
    (case s7_1 => k_is)
    (case s7_2 => k_is)
    (case s7_3 => k_is)
    (case s7_4 => k_is)
    (case s7_5 => k_is)
    (case s7_6 => k_is)
    (case s7_7 => k_is)
    (case s7_8 => k_is)
    (case s7_9 => k_is)
    (case s8_0 => k_is)
    (case s8_1 => k_is)
    (case s8_2 => k_is)
    (case s8_3 => k_is)
    (case s8_4 => k_is)
    (case s8_5 => k_is)
    (case s8_6 => k_is)
    (case s8_7 => k_is)
    (case s8_8 => k_is)
    (case s8_9 => k_is)
    (case s9_0 => k_is)
    (case s9_1 => k_is)
    (case s9_2 => k_is)
    (case s9_3 => k_is)
    (case s9_4 => k_is)
    (case s9_5 => k_is)
    (case s9_6 => k_is)
    (case s9_7 => k_is)
    (case s9_8 => k_is)
    (case s9_9 => k_is)
    (case A0 => k_is)
    (case L0 => k_is)
    (case D0 => k_is)
    (case P0 => k_is)
    (case A1 => k_is)
    (case L1 => k_is)
    (case D1 => k_is)
    (case P1 => k_is)
    (case A2 => k_is)
    (case L2 => k_is)
    (case D2 => k_is)
    (case P2 => k_is)
    (case A3 => k_is)
    (case L3 => k_is)
    (case D3 => k_is)
    (case P3 => k_is)
    (case A4 => k_is)
    (case L4 => k_is)
    (case D4 => k_is)
    (case P4 => k_is)
    (case A5 => k_is)
    (case L5 => k_is)
    (case D5 => k_is)
    (case P5 => k_is)
